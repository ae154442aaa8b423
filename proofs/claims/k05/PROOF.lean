import PyProof.Rows.All
import Wide.All
import OpenK.AllK
import Wide.FinOn
import KE.KStateDown
import HandS.ForMost
import HandS.Exc
import HandS.WordsExc
import HandS.Defaults
import HandS.IsInst
import HandS.Wide
import HandS.Flow
import HandS.Walk
import HandS.Head0
import HandS.Head1
import HandS.Head2
import HandS.HeadEnd
import HandS.HeadHook1
import HandS.HeadHook2
import HandS.HeadHook3
import HandS.HeadHook4
import HandS.Lambda
import HandS.ExcInit
import HandS.DictComp
import HandS.TupAny
import HandS.Deep
import HandS.Strs
import HandS.Small
import HandS.FStr
import HandS.RaiseMore
import HandS.Codes
import HandS.Star
import HandS.TryOnly
import HandS.More
import PyProof.CollectIter
import PyProof.WalksMore
import PyProof.Rows.TupIter
import HandS.SetFor
import HandS.SetTxt0
import HandS.SetKeys
import HandS.Dict
import HandS.Iter
import HandS.GenList
import PySem.Challenge.RW_framesure_k05_frames_walked
set_option Elab.async false
set_option linter.all false
set_option maxRecDepth 100000
set_option maxHeartbeats 8000000
namespace Fs
open PySem PySem.Spec PyProof.Rows L2
abbrev Frag := PySem.W.Frag
/-! ### heaps -/
theorem same_new {H : Hp} {p : Addr} (h : H p = none) (o : HO) : Same H (upd H p o) := fun b u q => by
  rw [upd_ne (ne_of_none q h)]
  exact q
theorem Same.tup {K : Frag} {H H' : Hp} {a : Addr} {xs : List V} (e : Same H H') (h : SqT K H a xs) : SqT K H' a xs := by
  rcases h with (h | ⟨o, h⟩) | h
  · exact .inl (.inl (e _ _ h))
  · exact .inl (.inr ⟨o, e _ _ h⟩)
  · exact .inr h
/-- readings that ask more -/
theorem pe_of {X : Cx} {e : Expr} {t t' : TE} (h : PE X e t) (k : ∀ σ H Q, t' σ H Q → t σ H Q) : PE X e t' := ⟨fun pins s σ H Q I q => h.run pins s σ H Q I (k σ H Q q)⟩
/-- a list of readings, made to grow with what is wanted -/
def upA (t : TA) : TA := fun σ H K => ∃ K0 : List V → Hp → Prop, t σ H K0 ∧ ∀ vs H1, K0 vs H1 → K vs H1
theorem pa_up {X : Cx} {es : List Expr} {t : TA} (h : PA X es t) : PA X es (upA t) := ⟨fun pos pins s σ H Q I ⟨K0, q, k⟩ => thn (h.run pos pins s σ H K0 I q) fun us s1 ⟨vs, H1, I1, r, z⟩ => ⟨vs, H1, I1, r, k _ _ z⟩⟩
/-- a new list, the heap behind it a letter -/
def tLstN (t : TA) : TE := fun σ H Q => t σ H fun xs H1 => xs.length ≤ sizeLine ∧ ∀ p H', H1 p = none → Same H1 H' → H' p = some (.lst xs) → Q (.ref p) H'
theorem pe_lstN {X : Cx} {es : List Expr} {t : TA} {pos : Pos} (h : PA X es t) : PE X (.List es pos) (tLstN t) :=
  pe_of (pe_lst (pa_up h)) fun σ H Q q => ⟨_, q, fun xs H1 z => ⟨z.1, fun p np => z.2 p _ np (same_new np _) upd_same⟩⟩
/-- a new tuple -/
def tTupN (t : TA) : TE := fun σ H Q => t σ H fun xs H1 => xs.length ≤ sizeLine ∧ ∀ p H', H1 p = none → Same H1 H' → H' p = some (.tup xs) → Q (.ref p) H'
theorem pe_tupN {X : Cx} {es : List Expr} {t : TA} {x1 : Nat} {pos : Pos} (h : PA X es t) : PE X (.Tuple es x1 pos) (tTupN t) :=
  pe_of (pe_tup (pa_up h)) fun σ H Q q => ⟨_, q, fun xs H1 z => ⟨z.1, fun p np => z.2 p _ np (same_new np _) upd_same⟩⟩
/-- what holds between a statement and the rest -/
theorem seq_cut {t u : TS} {D : Ends} {σ : L2.St} {H : Hp} (M : L2.St → Hp → Prop) (ht : ∀ N : L2.St → Hp → Prop, (∀ σ' H', M σ' H' → N σ' H') → t { D with nx := N } σ H) (hu : ∀ σ' H', M σ' H' → u D σ' H') : tSeq t u D σ H := ht (u D) hu
theorem atI_i {α : Type} {xs : List α} {i : Int} (h0 : 0 ≤ i) (h : i.toNat < xs.length) : atI xs i = some xs[i.toNat] := by
  have q := atI_nat (xs := xs) (j := i.toNat) (List.getElem?_eq_getElem h)
  rw [Int.toNat_of_nonneg h0] at q
  exact q
/-! ### a global def -/
/-- the def x of the module's top, as it stands, with no defaults -/
structure Gd (P : Program) (w : World) (K : Frag) (mg : Str → Option Value) (base : Heap) (CX : CXT) (k : Nat) (x : Str) (ps : List Str) (sp : Sp) : Prop where
  ex : ∃ f fd, mg x = some (.ref f) ∧ PySem.W.keepIn K (.ref f) = true ∧ Binds K fd ps [] ∧ FnOk P w K mg base CX k f fd ps sp
theorem Gd.mono {P : Program} {w : World} {K : Frag} {mg : Str → Option Value} {base : Heap} {CX : CXT} {j k : Nat} {x : Str} {ps : List Str} {sp : Sp} (G : Gd P w K mg base CX j x ps sp) (h : j ≤ k) : Gd P w K mg base CX k x ps sp := by
  obtain ⟨f, fd, a, b, c, F⟩ := G.ex
  exact ⟨f, fd, a, b, c, F.mono h⟩
theorem Gd.imp {P : Program} {w : World} {K : Frag} {mg : Str → Option Value} {base : Heap} {CX : CXT} {k : Nat} {x : Str} {ps : List Str} {sp sp' : Sp} (G : Gd P w K mg base CX k x ps sp) (h : ∀ vs H Q E, sp' vs H Q E → sp vs H Q E) : Gd P w K mg base CX k x ps sp' := by
  obtain ⟨f, fd, a, b, c, F⟩ := G.ex
  exact ⟨f, fd, a, b, c, F.imp h⟩
/-- the call of such a def -/
theorem pe_g {X : Cx} {CX : CXT} {E : XK} {k : Nat} {x : Str} {ps : List Str} {sp : Sp} {e : Expr} {es : List Expr} {p pos : Pos} {t : TA} (G : Gd X.prog X.w X.K X.mg X.base CX k x ps sp) (hr : Room k X.A) (hx : Passes CX X E) (ha : PA X (e :: es) t)
    (hg : Gl X x := by rfl) (hdb : (x == ("__debug__" : Str)) = false := by decide) (he : starEach (e :: es) X.env = (false, eval e X.env) :: starEach es X.env := by rfl) (hpl : (backTo pos (starEach es X.env)).any (·.1) = false := by rfl) :
    PE X (.Call (.Name x p) (e :: es) [] pos) (tCall sp [] E t) := by
  obtain ⟨f, fd, a, b, c, F⟩ := G.ex
  exact pe_call F hr hg a b c .nil hx ha hdb he hpl
/-- a def of the top keeps its promise wherever it stands: no defaults (dfl, kwd: those it has) -/
def Fo (P : Program) (w : World) (K : Frag) (mg : Str → Option Value) (base : Heap) (CX : CXT) (k : Nat) (x : Str) (st : Stmt) (dfl : List V) (kwd : List (Str × V)) (ps : List Str) (sp : Sp) : Prop :=
  ∀ f fd, FunD K x x (defArgs st) (defBody st) (defScope st) dfl kwd f fd → FnOk P w K mg base CX k f fd ps sp
/-- what stands of a def at the top -/
def Gsd (K : Frag) (mg : Str → Option Value) (x : Str) (st : Stmt) (dfl : List V) (kwd : List (Str × V)) : Prop := ∃ f fd, mg x = some (.ref f) ∧ FunD K x x (defArgs st) (defBody st) (defScope st) dfl kwd f fd
abbrev Gs (K : Frag) (mg : Str → Option Value) (x : Str) (st : Stmt) : Prop := Gsd K mg x st [] []
section
variable {P : Program} {w : World} {K : Frag} {mg : Str → Option Value} {base : Heap} {CX : CXT} {x : Str} {st : Stmt} {dfl : List V} {kwd : List (Str × V)} {N ps : List Str} {k : Nat} {sp : Sp}
theorem fo_ok (S : FnScope N ps (defScope st)) (len : ∀ vs H Q E, sp vs H Q E → vs.length = ps.length)
    (hbody : ∀ (f : Addr) (cdv : Value) (A : Around) (outer : List Env) (s : Shared) (H : Hp) (vs : List V) (Q : VK) (E : XK), Room k (A.deeper (envOfC x (defScope st) s.heap.objs.size f cdv)) → sp vs H Q E →
      ∃ t, PSs (cxOf CX0 P w K mg base N x (defScope st) f cdv A outer s H E).nox (defBody st) t ∧ t { nx := fun _ H' => Q .non H', rt := Q } (start N vs) H) : Fo P w K mg base CX0 (k + 1) x st dfl kwd ps sp := fun f fd F => by
  refine F.ok S len fun cdv A outer s H vs Q E hr h => ?_
  obtain ⟨t, h1, h2⟩ := hbody f cdv A outer s H vs Q E hr h
  exact ⟨t, h1.nox, h2⟩
/-- the same of a def that may raise -/
theorem fo_okX (S : FnScope N ps (defScope st)) (len : ∀ vs H Q E, sp vs H Q E → vs.length = ps.length)
    (hbody : ∀ (f : Addr) (cdv : Value) (A : Around) (outer : List Env) (s : Shared) (H : Hp) (vs : List V) (Q : VK) (E : XK), Room k (A.deeper (envOfC x (defScope st) s.heap.objs.size f cdv)) → sp vs H Q E →
      ∃ t, PSs (cxOf (L2.CX P w) P w K mg base N x (defScope st) f cdv A outer s H E) (defBody st) t ∧ t { nx := fun _ H' => Q .non H', rt := Q } (start N vs) H) : Fo P w K mg base (L2.CX P w) (k + 1) x st dfl kwd ps sp := fun f fd F =>
  F.ok S len (hbody f)
/-- called by position, all parameters given -/
theorem Fo.gd (F : Fo P w K mg base CX k x st [] [] ps sp) (G : Gs K mg x st)
    (hb : ∀ (kV doc pm : Value) (an : Option Addr) (cdv ct : Value) (us : List Value), us.length = ps.length → bindArgs (PySem.W.fnOf x x (defArgs st) (defBody st) (defScope st) .none kV doc pm an cdv ct) ⟨us, []⟩ = pure (ps.zip us)) : Gd P w K mg base CX k x ps sp := by
  obtain ⟨f, fd, a, D⟩ := G
  exact ⟨f, fd, a, D.kp, D.bindsN hb, F f fd D⟩
theorem Gsd.ok (G : Gs K mg x st) (S : FnScope N ps (defScope st)) (len : ∀ vs H Q E, sp vs H Q E → vs.length = ps.length)
    (hb : ∀ (kV doc pm : Value) (an : Option Addr) (cdv ct : Value) (us : List Value), us.length = ps.length → bindArgs (PySem.W.fnOf x x (defArgs st) (defBody st) (defScope st) .none kV doc pm an cdv ct) ⟨us, []⟩ = pure (ps.zip us))
    (hbody : ∀ (f : Addr) (cdv : Value) (A : Around) (outer : List Env) (s : Shared) (H : Hp) (vs : List V) (Q : VK) (E : XK), Room k (A.deeper (envOfC x (defScope st) s.heap.objs.size f cdv)) → sp vs H Q E →
      ∃ t, PSs (cxOf CX0 P w K mg base N x (defScope st) f cdv A outer s H E).nox (defBody st) t ∧ t { nx := fun _ H' => Q .non H', rt := Q } (start N vs) H) : Gd P w K mg base CX0 (k + 1) x ps sp := (fo_ok S len hbody).gd G hb
theorem Gsd.okX (G : Gs K mg x st) (S : FnScope N ps (defScope st)) (len : ∀ vs H Q E, sp vs H Q E → vs.length = ps.length)
    (hb : ∀ (kV doc pm : Value) (an : Option Addr) (cdv ct : Value) (us : List Value), us.length = ps.length → bindArgs (PySem.W.fnOf x x (defArgs st) (defBody st) (defScope st) .none kV doc pm an cdv ct) ⟨us, []⟩ = pure (ps.zip us))
    (hbody : ∀ (f : Addr) (cdv : Value) (A : Around) (outer : List Env) (s : Shared) (H : Hp) (vs : List V) (Q : VK) (E : XK), Room k (A.deeper (envOfC x (defScope st) s.heap.objs.size f cdv)) → sp vs H Q E →
      ∃ t, PSs (cxOf (L2.CX P w) P w K mg base N x (defScope st) f cdv A outer s H E) (defBody st) t ∧ t { nx := fun _ H' => Q .non H', rt := Q } (start N vs) H) : Gd P w K mg base (L2.CX P w) (k + 1) x ps sp := (fo_okX S len hbody).gd G hb
end
/-- a def called with n values by position and the keywords ks -/
structure Gk (P : Program) (w : World) (K : Frag) (mg : Str → Option Value) (base : Heap) (CX : CXT) (k : Nat) (x : Str) (n : Nat) (ks : List Str) (gV : List V → List V → List V) (ps : List Str) (sp : Sp) : Prop where
  ex : ∃ f fd g, mg x = some (.ref f) ∧ PySem.W.keepIn K (.ref f) = true ∧ KBn K fd ps n ks g gV ∧ FnOk P w K mg base CX k f fd ps sp
section
variable {P : Program} {w : World} {K : Frag} {mg : Str → Option Value} {base : Heap} {CX : CXT} {x : Str} {st : Stmt} {dfl : List V} {kwd : List (Str × V)} {N ps : List Str} {k : Nat} {sp : Sp}
theorem Gk.mono {n : Nat} {ks : List Str} {gV : List V → List V → List V} {j : Nat} (G : Gk P w K mg base CX j x n ks gV ps sp) (h : j ≤ k) : Gk P w K mg base CX k x n ks gV ps sp := by
  obtain ⟨f, fd, g, a, b, c, F⟩ := G.ex
  exact ⟨f, fd, g, a, b, c, F.mono h⟩
/-- no defaults: every parameter is written, by position or by name -/
theorem Fo.gk (F : Fo P w K mg base CX k x st [] [] ps sp) (G : Gs K mg x st) (n : Nat) (ks : List Str) (g : {α : Type} → List α → List α → List α)
    (hrel : ∀ {vs zs : List V} {us ws : List Value}, Vals vs us → Vals zs ws → Vals (g vs zs) (g us ws))
    (hb : ∀ (kV doc pm : Value) (an : Option Addr) (cdv ct : Value) (us ws : List Value), us.length = n → ws.length = ks.length → bindArgs (PySem.W.fnOf x x (defArgs st) (defBody st) (defScope st) .none kV doc pm an cdv ct) ⟨us, ks.zip ws⟩ = pure (ps.zip (g us ws))) :
    Gk P w K mg base CX k x n ks (fun vs zs => g vs zs) ps sp := by
  obtain ⟨f, fd, a, D⟩ := G
  refine ⟨f, fd, fun us ws => g us ws, a, D.kp, ?_, F f fd D⟩
  obtain ⟨oc, od, dV, kV, doc, pm, an, cdv, ct, osl, rfl, lk, hcd, hD, hK⟩ := D.ex
  rcases hD with ⟨_, rfl⟩ | ⟨e, _⟩
  · exact ⟨fun s us ws _ l1 l2 => BindsTo.of_eq (hb kV doc pm an cdv ct us ws l1 l2), fun r1 r2 => hrel r1 r2⟩
  · exact absurd rfl e
end
/-- a def called by position, the values dv of its defaults filling up -/
structure Gdd (P : Program) (w : World) (K : Frag) (mg : Str → Option Value) (base : Heap) (CX : CXT) (k : Nat) (x : Str) (ps : List Str) (dv : List V) (sp : Sp) : Prop where
  ex : ∃ f fd ds, mg x = some (.ref f) ∧ PySem.W.keepIn K (.ref f) = true ∧ Vals dv ds ∧ Binds K fd ps ds ∧ FnOk P w K mg base CX k f fd ps sp
section
variable {P : Program} {w : World} {K : Frag} {mg : Str → Option Value} {base : Heap} {CX : CXT} {x : Str} {st : Stmt} {dfl dv : List V} {N ps : List Str} {k : Nat} {sp : Sp}
theorem Gdd.gd (G : Gdd P w K mg base CX k x ps [] sp) : Gd P w K mg base CX k x ps sp := by
  obtain ⟨f, fd, ds, a, b, c, d, e⟩ := G.ex
  cases c
  exact ⟨f, fd, a, b, d, e⟩
/-- n values are written, the defaults behind the first j fill up -/
theorem Fo.gdd (F : Fo P w K mg base CX k x st dfl [] ps sp) (G : Gsd K mg x st dfl []) (n j : Nat) (hd : dfl ≠ []) (hn : n + (dfl.length - j) = ps.length) (hv : dfl.drop j = dv)
    (h : ∀ (T : Addr) (kV doc pm : Value) (an : Option Addr) (cdv ct : Value) (us its : List Value), us.length = n → its.length = dfl.length →
      ∃ k, bindArgs (PySem.W.fnOf x x (defArgs st) (defBody st) (defScope st) (.ref T) kV doc pm an cdv ct) ⟨us, []⟩ = seqItems? (.ref T) >>= k ∧ k (some its.toArray) = pure (ps.zip (us ++ its.drop j))) : Gdd P w K mg base CX k x ps dv sp := by
  obtain ⟨f, fd, a, D⟩ := G
  obtain ⟨ds, v, b⟩ := D.binds1 n j hd hn h
  subst hv
  exact ⟨f, fd, ds, a, D.kp, v, b, F f fd D⟩
/-- with keywords: g puts the positional values, the defaults' values and the keywords' values in order -/
theorem Fo.gkd (F : Fo P w K mg base CX k x st dfl [] ps sp) (G : Gsd K mg x st dfl []) (n : Nat) (ks : List Str) (g : {α : Type} → List α → List α → List α → List α) (hd : dfl ≠ [])
    (hrel : ∀ {vs ds zs : List V} {us its ws : List Value}, Vals vs us → Vals ds its → Vals zs ws → Vals (g vs ds zs) (g us its ws))
    (h : ∀ (T : Addr) (kV doc pm : Value) (an : Option Addr) (cdv ct : Value) (us its ws : List Value), us.length = n → its.length = dfl.length → ws.length = ks.length →
      ∃ k, bindArgs (PySem.W.fnOf x x (defArgs st) (defBody st) (defScope st) (.ref T) kV doc pm an cdv ct) ⟨us, ks.zip ws⟩ = seqItems? (.ref T) >>= k ∧ k (some its.toArray) = pure (ps.zip (g us its ws))) :
    Gk P w K mg base CX k x n ks (fun vs zs => g vs dfl zs) ps sp := by
  obtain ⟨f, fd, a, D⟩ := G
  have FN := F f fd D
  have kp := D.kp
  obtain ⟨oc, od, dV, kV, doc, pm, an, cdv, ct, osl, rfl, lk, hcd, hD, hK⟩ := D.ex
  rcases hD with ⟨e, _⟩ | ⟨_, T, o, its, m, rfl, lT, oT, rT⟩
  · exact absurd e hd
  refine ⟨f, _, fun us ws => g us its ws, a, kp, ⟨fun s us ws X l1 l2 => ?_, fun r1 r2 => hrel r1 rT r2⟩, FN⟩
  obtain ⟨k, e1, e2⟩ := h T kV doc pm an cdv ct us its ws l1 rT.length.symm l2
  exact BindsTo.of_looks fun M => by
    rw [e1]
    exact looks_items X lT oT (.of_pure e2)
end
theorem pe_gd {X : Cx} {CX : CXT} {E : XK} {k : Nat} {x : Str} {ps : List Str} {dv : List V} {sp : Sp} {e : Expr} {es : List Expr} {p pos : Pos} {t : TA} (G : Gdd X.prog X.w X.K X.mg X.base CX k x ps dv sp) (hr : Room k X.A) (hx : Passes CX X E) (ha : PA X (e :: es) t)
    (hg : Gl X x := by rfl) (hdb : (x == ("__debug__" : Str)) = false := by decide) (he : starEach (e :: es) X.env = (false, eval e X.env) :: starEach es X.env := by rfl) (hpl : (backTo pos (starEach es X.env)).any (·.1) = false := by rfl) :
    PE X (.Call (.Name x p) (e :: es) [] pos) (tCall sp dv E t) := by
  obtain ⟨f, fd, ds, a, b, c, d, F⟩ := G.ex
  exact pe_call F hr hg a b d c hx ha hdb he hpl
/-- what a def lets out, on to the caller's own way -/
theorem passE {X : Cx} {E : XK} (tk : Takes X (fun cls d _ H => E cls d H)) : Passes (L2.CX X.prog X.w) X E := passes_call tk fun _ _ _ _ h => h
section
variable {X : Cx} {CX : CXT} {E : XK} {k n : Nat} {x : Str} {ps ks : List Str} {sp : Sp} {e : Expr} {es : List Expr} {kws : List Keyword} {p pos : Pos} {t tk : TA} {gV : List V → List V → List V}
theorem pe_gk (G : Gk X.prog X.w X.K X.mg X.base CX k x n ks gV ps sp) (hr : Room k X.A) (hx : Passes CX X E) (ha : PA X (e :: es) t) (hkw : PK X kws tk) (hg : Gl X x := by rfl)
    (hall : (backToKw pos (keywordEach kws X.env)).all (·.1.isSome) = true := by rfl) (hks : (backToKw pos (keywordEach kws X.env)).filterMap (·.1) = ks := by rfl)
    (hdb : (x == ("__debug__" : Str)) = false := by decide) (he : starEach (e :: es) X.env = (false, eval e X.env) :: starEach es X.env := by rfl)
    (hpl : ((backTo pos (starEach (e :: es) X.env)).any (·.1) || (backToKw pos (keywordEach kws X.env)).any (·.1.isNone)) = false := by rfl) :
    PE X (.Call (.Name x p) (e :: es) kws pos) (tCallN n ks.length sp gV E t tk) := by
  obtain ⟨f, fd, g, a, b, c, F⟩ := G.ex
  exact pe_callN F hr hg a b c hx ha hkw hall hks hdb he hpl
theorem pe_gk0 (G : Gk X.prog X.w X.K X.mg X.base CX k x 0 ks gV ps sp) (hr : Room k X.A) (hx : Passes CX X E) (hkw : PK X kws tk) (hg : Gl X x := by rfl)
    (hall : (backToKw pos (keywordEach kws X.env)).all (·.1.isSome) = true := by rfl) (hks : (backToKw pos (keywordEach kws X.env)).filterMap (·.1) = ks := by rfl)
    (hdb : (x == ("__debug__" : Str)) = false := by decide)
    (hpl : ((backTo pos (starEach [] X.env)).any (·.1) || (backToKw pos (keywordEach kws X.env)).any (·.1.isNone)) = false := by rfl) :
    PE X (.Call (.Name x p) [] kws pos) (tCallN 0 ks.length sp gV E tNil tk) := by
  obtain ⟨f, fd, g, a, b, c, F⟩ := G.ex
  refine ⟨fun pins s σ H Q I h => ?_⟩
  refine wpAny_Call_Name_kw (ld_glob I hg a ?_ hdb)
  refine PySem.W.callWith_KW0 (h₀ := X.base) I.ok.mod.kin b hall ?_ hpl
  refine thn (hkw.run pos pins s σ H _ I h) fun ws s2 ⟨zs, H2, I2, rz, l1, l2, q2⟩ => ⟨I2.kIn, ?_⟩
  rw [hks]
  exact run_fnN (us := []) (vs := []) F hr c hx I2 .nil rz rfl l2 q2
end
/-! ### data -/
mutual
theorem Dp.to {K : Frag} {H H' : Hp} (e : Same H H') : ∀ {v : V} {d : PyData}, Dp K H v d → Dp K H' v d
  | _, _, .non => .non
  | _, _, .bl b => .bl b
  | _, _, .int i => .int i
  | _, _, .str x => .str x
  | _, _, .lst h a => .lst (e.seq h) (DpAll.to e a)
  | _, _, .tup h a => .tup (Same.tup e h) (DpAll.to e a)
theorem DpAll.to {K : Frag} {H H' : Hp} (e : Same H H') : ∀ {vs : List V} {ds : List PyData}, DpAll K H vs ds → DpAll K H' vs ds
  | _, _, .nil => .nil
  | _, _, .cons h t => .cons (Dp.to e h) (DpAll.to e t)
end
theorem DpAll.len {K : Frag} {H : Hp} : ∀ {vs : List V} {ds : List PyData}, DpAll K H vs ds → vs.length = ds.length
  | _, _, .nil => rfl
  | _, _, .cons _ t => congrArg Nat.succ (DpAll.len t)
theorem DpAll.at {K : Frag} {H : Hp} : ∀ {vs : List V} {ds : List PyData} {i : Nat} {d : PyData}, DpAll K H vs ds → ds[i]? = some d → ∃ v, vs[i]? = some v ∧ Dp K H v d
  | _, _, _, _, .nil, e => by simp at e
  | _, _, 0, d, .cons (v := v) h _, e => ⟨v, rfl, by simp at e; subst e; exact h⟩
  | _, _, i + 1, d, .cons _ t, e => by
    obtain ⟨v, h1, h2⟩ := DpAll.at (i := i) (d := d) t (by simpa using e)
    exact ⟨v, by simpa using h1, h2⟩
/-! ### a heap without its bag -/
def Hx (p : Addr) (H : Hp) : Hp := fun b => if b = p then none else H b
theorem Hx.sub {p : Addr} {H : Hp} : Same (Hx p H) H := fun b o e => by
  unfold Hx at e
  split at e
  · cases e
  · exact e
theorem Hx.ne {p b : Addr} {H : Hp} (h : b ≠ p) : Hx p H b = H b := by
  unfold Hx
  rw [if_neg h]
theorem Hx.self {p : Addr} {H : Hp} : Hx p H p = none := by
  unfold Hx
  rw [if_pos rfl]
/-- all but p is as it was -/
abbrev SameX (p : Addr) (H H' : Hp) : Prop := Same (Hx p H) (Hx p H')
theorem SameX.of {p : Addr} {H H' : Hp} (h : ∀ b o, b ≠ p → H b = some o → H' b = some o) : SameX p H H' := fun b o e => by
  by_cases hb : b = p
  · subst hb
    rw [Hx.self] at e
    cases e
  · rw [Hx.ne hb] at e ⊢
    exact h b o hb e
theorem SameX.at {p b : Addr} {H H' : Hp} {o : HO} (h : SameX p H H') (hb : b ≠ p) (e : H b = some o) : H' b = some o := by
  have q := h b o (by rw [Hx.ne hb]; exact e)
  rw [Hx.ne hb] at q
  exact q
theorem SameX.same {p : Addr} {H H' : Hp} (h : Same H H') : SameX p H H' := .of fun b o _ e => h b o e
/-- the bag of the draws -/
structure BagAt (H : Hp) (p l : Addr) : Prop where
  ex : ∃ (i rest seed : Int) (ns : List Int), H p = some (.lst [.ref l, .int i, .int rest, .int seed]) ∧ H l = some (.lst (ns.map V.int)) ∧ 0 ≤ i ∧ 0 ≤ rest ∧ 0 ≤ seed ∧ seed < 2147483647
theorem BagAt.to {H H' : Hp} {p l : Addr} (B : BagAt H p l) (h : Same H H') : BagAt H' p l := by
  obtain ⟨i, r, s, ns, a, b, c⟩ := B.ex
  exact ⟨i, r, s, ns, h _ _ a, h _ _ b, c⟩
def spBag (K : Frag) : Sp := fun vs H Q _ => ∃ (a : Addr) (ns : List Int), vs = [.ref a] ∧ SqL K H a (ns.map V.int) ∧ ∀ p l H', H p = none → Same H H' → BagAt H' p l → Q (.ref p) H'
def spPull : Sp := fun vs H Q _ => ∃ (p l : Addr) (n : Int), vs = [.ref p, .int n] ∧ BagAt H p l ∧ 0 < n ∧ n < 2 ^ 100 ∧ ∀ (r : Int) H', 0 ≤ r → r < n → SameX p H H' → BagAt H' p l → Q (.int r) H'
/-- a list or a tuple -/
def SqA (K : Frag) (H : Hp) (a : Addr) (xs : List V) : Prop := SqL K H a xs ∨ SqT K H a xs
theorem SqA.to {K : Frag} {H H' : Hp} {a : Addr} {xs : List V} (e : Same H H') (h : SqA K H a xs) : SqA K H' a xs := h.elim (fun h => .inl (e.seq h)) fun h => .inr (Same.tup e h)
def spOf (K : Frag) : Sp := fun vs H Q _ => ∃ (p l a : Addr) (xs : List V), vs = [.ref p, .ref a] ∧ BagAt H p l ∧ SqA K (Hx p H) a xs ∧ xs ≠ [] ∧ (xs.length : Int) < 2 ^ 100 ∧ ∀ x ∈ xs, ∀ H', SameX p H H' → BagAt H' p l → Q x H'
end Fs
set_option Elab.async false
set_option linter.all false
set_option maxRecDepth 100000
set_option maxHeartbeats 8000000
namespace Fs
open PySem PySem.Spec PyProof.Rows L2
/-! ### types of data -/
inductive Tg | list | tuple | dict | bool | int | str
def Tg.nm : Tg → String
  | .list => "list" | .tuple => "tuple" | .dict => "dict" | .bool => "bool" | .int => "int" | .str => "str"
def tyD : PyData → String
  | .none => "NoneType" | .bool _ => "bool" | .int _ => "int" | .str _ => "str" | .list _ => "list" | .tuple _ => "tuple" | .dict _ => "dict"
def isT : Tg → PyData → Bool
  | .list, .list _ => true
  | .tuple, .tuple _ => true
  | .dict, .dict _ => true
  | .bool, .bool _ => true
  | .int, .bool _ => true
  | .int, .int _ => true
  | .str, .str _ => true
  | _, _ => false
theorem isT_kit (t : Tg) (d : PyData) : kitB (tyD d) t.nm = some (isT t d) := by
  cases t <;> cases d <;> simp only [tyD, Tg.nm, isT] <;> decide +kernel
theorem SqL.ty {K : Frag} {H : Hp} {a : Addr} {xs : List V} (h : SqL K H a xs) : TyX K H (.ref a) (.type "list") := by
  rcases h with (h | ⟨o, h⟩) | ⟨o, its, n, h1, h2, _⟩
  · exact .base (.lst h)
  · exact .base (.frz h)
  · exact .kList h1 h2
theorem SqT.ty {K : Frag} {H : Hp} {a : Addr} {xs : List V} (h : SqT K H a xs) : TyX K H (.ref a) (.type "tuple") := by
  rcases h with (h | ⟨o, h⟩) | ⟨o, its, n, h1, h2, _⟩
  · exact .base (.tup h)
  · exact .fTuple h
  · exact .kTuple h1 h2
theorem Dp.ty {K : Frag} {H : Hp} {v : V} {d : PyData} (h : Dp K H v d) : TyX K H v (.type (tyD d)) := by
  cases h with
  | non => exact .base .non
  | bl b => exact .base (.bl b)
  | int i => exact .base (.int i)
  | str x => exact .base (.str x)
  | lst h _ => exact SqL.ty h
  | tup h _ => exact SqT.ty h
section
variable {X : Cx}
/-- isinstance(x, T) of data -/
def rIsD (K : Frag) : List V → Hp → VK → Prop := fun xs H Q => ∃ (x : V) (t : Tg) (d : PyData), xs = [x, .ty t.nm] ∧ Dp K H x d ∧ Q (.bl (isT t d)) H
theorem call_isD : CallR X (.builtin "isinstance") (rIsD X.K) := by
  intro pins s σ H xs us Q I r h
  obtain ⟨x, t, d, rfl, hd, q⟩ := h
  exact call_isi pins s σ H _ us Q I r ⟨x, _, _, _, _, rfl, .ty _, Dp.ty hd, kit_ty (isT_kit t d), q⟩
/-- isinstance(x, (S, T)) -/
def rIsD2 (K : Frag) : List V → Hp → VK → Prop := fun xs H Q => ∃ (x : V) (p : Addr) (t u : Tg) (d : PyData), xs = [x, .ref p] ∧ H p = some (.tup [.ty t.nm, .ty u.nm]) ∧ Dp K H x d ∧ Q (.bl (isT t d || isT u d)) H
theorem call_isD2 : CallR X (.builtin "isinstance") (rIsD2 X.K) := by
  intro pins s σ H xs us Q I r h
  obtain ⟨x, p, t, u, d, rfl, hp, hd, q⟩ := h
  refine call_isiT pins s σ H _ us Q I r ⟨x, p, _, _, [.type t.nm, .type u.nm], isT t d || isT u d, rfl, hp, .cons (.ty _) (.cons (.ty _) .nil), Dp.ty hd, ?_, q⟩
  refine kitAny_cons (kit_ty (isT_kit t d)) (fun e => ?_) (fun e => by rw [e]; rfl)
  rw [e, Bool.false_or]
  refine kitAny_cons (kit_ty (isT_kit u d)) (fun e => ?_) (fun e => e)
  rw [e]
  rfl
/-- an item of a list or a tuple -/
def rIxA (K : Frag) : R2 := fun x y H Q => ∃ (a : Addr) (xs : List V) (i : Int) (v : V), x = .ref a ∧ y = .int i ∧ SqA K H a xs ∧ atI xs i = some v ∧ Q v H
theorem ix_any : IxR X (rIxA X.K) := by
  intro value slice pins s σ H x y v u Q I rx ry h
  obtain ⟨a, xs, i, z, rfl, rfl, hs, e, q⟩ := h
  rcases hs with hs | hs
  · exact ix_list value slice pins s σ H _ _ v u Q I rx ry ⟨a, xs, i, z, rfl, rfl, hs, e, q⟩
  · exact ix_tup value slice pins s σ H _ _ v u Q I rx ry ⟨a, xs, i, z, rfl, rfl, hs, e, q⟩
end
theorem ix_anyK {X : Cx} (K : Frag) (hK : X.K = K := by rfl) : IxR X (rIxA K) := by
  subst hK
  exact ix_any
theorem call_isDK {X : Cx} (K : Frag) (hK : X.K = K := by rfl) : CallR X (.builtin "isinstance") (rIsD K) := by
  subst hK
  exact call_isD
/-! ### what a datum is made of -/
/-- the items of a list or a tuple -/
def itemsD : PyData → List PyData
  | .list ds => ds
  | .tuple ds => ds
  | _ => []
theorem depth_at : ∀ {ds : List PyData} {i : Nat} {d : PyData}, ds[i]? = some d → d.depth ≤ PyData.depthAll ds
  | [], _, _, h => by simp at h
  | x :: xs, 0, d, h => by
    simp at h
    subst h
    show x.depth ≤ max x.depth (PyData.depthAll xs)
    omega
  | x :: xs, i + 1, d, h => by
    have ih := depth_at (ds := xs) (i := i) (d := d) (by simpa using h)
    show d.depth ≤ max x.depth (PyData.depthAll xs)
    omega
theorem replicate_more {α : Type} (i : Nat) (x : α) : List.replicate i x ++ [x] = List.replicate (i + 1) x := by
  rw [List.replicate_succ', ]
/-- a list that grows at D, new beside H -/
theorem same_grow {H H' : Hp} {D : Addr} {o : HO} (s : Same H H') (nD : H D = none) : Same H (upd H' D o) := fun c u e => by
  rw [upd_ne (ne_of_none e nD)]
  exact s c u e
theorem all_true (n : Nat) : (List.replicate n true).all id = true := by
  induction n with
  | zero => rfl
  | succ n ih => rw [List.replicate_succ, List.all_cons, ih]; rfl
/-- not deeper than n levels, nowhere wider than a million -/
def Fit : Nat → PyData → Prop
  | 0, _ => False
  | n + 1, d => (itemsD d).length ≤ 1000000 ∧ ∀ e ∈ itemsD d, Fit n e
theorem Fit.mono : ∀ {n m : Nat} {d : PyData}, Fit n d → n ≤ m → Fit m d
  | 0, _, _, h, _ => h.elim
  | n + 1, 0, _, _, h => by omega
  | n + 1, m + 1, d, h, l => ⟨h.1, fun e he => Fit.mono (h.2 e he) (by omega)⟩
/-- both stand for the same datum -/
def spSame (K : Frag) (n : Nat) : Sp := fun vs H Q _ => ∃ (x y : V) (d : PyData), vs = [x, y] ∧ Dp K H x d ∧ Dp K H y d ∧ Fit n d ∧ ∀ H', Same H H' → Q (.bl true) H'
/-- a sequence's items -/
theorem Dp.seq {K : Frag} {H : Hp} {v : V} {d : PyData} (h : Dp K H v d) (e : (isT .list d || isT .tuple d) = true) : ∃ a xs, v = .ref a ∧ SqA K H a xs ∧ DpAll K H xs (itemsD d) := by
  cases h with
  | lst hs ha => exact ⟨_, _, rfl, .inl hs, ha⟩
  | tup hs ha => exact ⟨_, _, rfl, .inr hs, ha⟩
  | non => cases e
  | bl b => cases e
  | int i => cases e
  | str x => cases e
theorem iteB {c : Bool} {A B : Prop} (h1 : c = true → A) (h2 : c = false → B) : if c = true then A else B := by
  cases c with
  | true => exact iteT (h1 rfl)
  | false => exact iteF (h2 rfl)
theorem tYes_of {A B : Hp → Prop} {σ : L2.St} {H : Hp} (h : A H) : tYes σ H fun b H3 => if b = true then A H3 else B H3 := h
theorem ite_of {c : Bool} {A B : Prop} (e : c = true) (h : A) : if c = true then A else B := by
  rw [if_pos e]
  exact h
theorem ite_no {c : Bool} {A B : Prop} (e : c = false) (h : B) : if c = true then A else B := by
  rw [e]
  exact iteF h
/-- a comprehension without tests whose element computes f i and leaves what stood -/
theorem lc_pure {J : It} {n : Nat} {G : Hp → Prop} {Y : Nat → Hp → V → Hp → Prop} (w : Walk J n G Y) {g : TG} {te : TE} {vs : List Nat} {σ : L2.St} {H1 : Hp} {D : Addr} {Qd : Hp → Prop} (f : Nat → V) (nD : H1 D = none) (hn : n ≤ 1000000) (hG : ∀ H, Same H1 H → G H)
    (hY : ∀ i H x H', i < n → Y i H x H' → Same H H')
    (hs : ∀ i x H H' (Kt : V → Hp → Prop), i < n → Same H1 H → Y i H x H' → (∀ H4, Same H' H4 → Kt (f i) H4) → g x (wipe σ vs) H' fun σ2 H2 => wipe σ2 vs = wipe σ vs ∧ te σ2 H2 Kt)
    (hg : ∀ x σ H (A B : L2.St → Hp → Prop), (∀ σ H, A σ H → B σ H) → g x σ H A → g x σ H B)
    (hd : ∀ H, Same H1 H → H D = some (.lst ((List.range n).map f)) → Qd H) :
    ∃ W : Nat → Nat → Hp → Prop, (∃ m, W 0 m (upd H1 D (.lst []))) ∧ ∀ i m H, W i m H →
      (J.stop i H ∧ Qd H) ∨ (J.go i H ∧ ∃ Nx : Hp → Prop, (∀ H', Nx H' → ∃ m', m' < m ∧ W (i + 1) m' H') ∧ ∀ x H', J.yld i H x H' → g x (wipe σ vs) H' fun σ2 H2 => wipe σ2 vs = wipe σ vs ∧ tYes σ2 H2 fun b H3 =>
        if b = true then te σ2 H3 fun y H4 => ∃ acc, H4 D = some (.lst acc) ∧ acc.length < sizeLine ∧ Nx (upd H4 D (.lst (acc ++ [y]))) else Nx H3) := by
  refine lc_it w (fun i H => Same H1 H ∧ H D = some (.lst ((List.range i).map f))) ⟨same_new nD _, upd_same⟩ (fun i H _ ⟨s, _⟩ => hG H s) (fun i x H H' hi ⟨s, hD⟩ y => ?_) (fun H ⟨s, hD⟩ => hd H s hD)
  have z := hs i x H H' (fun y H4 => ∃ acc, H4 D = some (.lst acc) ∧ acc.length < sizeLine ∧ Same H1 (upd H4 D (.lst (acc ++ [y]))) ∧ (upd H4 D (.lst (acc ++ [y]))) D = some (.lst ((List.range (i + 1)).map f))) hi s y (fun H4 s4 => ?_)
  · refine hg _ _ _ _ _ (fun σ2 H2 h => ?_) z
    exact ⟨h.1, tYes_of h.2⟩
  · refine ⟨_, s4 _ _ (hY i H x H' hi y _ _ hD), ?_, same_grow (s.trans ((hY i H x H' hi y).trans s4)) nD, ?_⟩
    · rw [List.length_map, List.length_range, sizeLine_eq]
      omega
    · rw [upd_same, List.range_succ, List.map_append]
      rfl
/-- targets that let more through -/
theorem gName_mono (i : Nat) : ∀ x σ H (A B : L2.St → Hp → Prop), (∀ σ H, A σ H → B σ H) → gName i x σ H A → gName i x σ H B := fun _ _ _ _ _ k h => k _ _ h
theorem YAt_same {xs : List V} {n : Nat} : ∀ i H x H', i < n → YAt xs i H x H' → Same H H' := fun _ _ _ _ _ h => by
  rw [h.1]
  exact Same.refl _
theorem YFn_same {f : Nat → V} {n : Nat} : ∀ i H x H', i < n → YFn f i H x H' → Same H H' := fun _ _ _ _ _ h => by
  rw [h.1]
  exact Same.refl _
theorem bls {n : Nat} {f : Nat → Bool} : ((List.range n).map f).map V.bl = (List.range n).map fun i => V.bl (f i) := by
  rw [List.map_map]
  rfl
/-! ### what never changes: tuples -/
def Imm (H H' : Hp) : Prop := ∀ b xs, Rd H b (.tup xs) → Rd H' b (.tup xs)
theorem Imm.refl (H : Hp) : Imm H H := fun _ _ h => h
theorem Imm.trans {H H1 H2 : Hp} (a : Imm H H1) (b : Imm H1 H2) : Imm H H2 := fun c o h => b c o (a c o h)
theorem Imm.same {H H' : Hp} (s : Same H H') : Imm H H' := fun b xs h => by
  rcases h with h | ⟨o, h⟩
  · exact .inl (s _ _ h)
  · exact .inr ⟨o, s _ _ h⟩
theorem Imm.upd {H : Hp} {D : Addr} {acc : List V} {o : HO} (h : H D = some (.lst acc)) : Imm H (L2.upd H D o) := fun b xs e => by
  have ne : b ≠ D := fun z => by
    subst z
    rcases e with e | ⟨o, e⟩ <;> rw [h] at e <;> cases e
  unfold L2.Rd at e ⊢
  rw [upd_ne ne]
  exact e
theorem Imm.bag {p l : Addr} {H H' : Hp} (s : SameX p H H') (B : BagAt H p l) : Imm H H' := fun b xs e => by
  obtain ⟨i, r, sd, ns, hp, _⟩ := B.ex
  have ne : b ≠ p := fun z => by
    subst z
    rcases e with e | ⟨o, e⟩ <;> rw [hp] at e <;> cases e
  rcases e with e | ⟨o, e⟩
  · exact .inl (s.at ne e)
  · exact .inr ⟨o, s.at ne e⟩
mutual
/-- no list within -/
def noL : PyData → Bool
  | .list _ => false
  | .tuple ds => noLs ds
  | .dict _ => false
  | _ => true
def noLs : List PyData → Bool
  | [] => true
  | d :: ds => noL d && noLs ds
end
theorem Imm.tup {K : Frag} {H H' : Hp} {a : Addr} {xs : List V} (e : Imm H H') (h : SqT K H a xs) : SqT K H' a xs := by
  rcases h with h | h
  · exact .inl (e _ _ h)
  · exact .inr h
mutual
theorem Dp.imm {K : Frag} {H H' : Hp} (e : Imm H H') : ∀ {v : V} {d : PyData}, noL d = true → Dp K H v d → Dp K H' v d
  | _, _, _, .non => .non
  | _, _, _, .bl b => .bl b
  | _, _, _, .int i => .int i
  | _, _, _, .str x => .str x
  | _, _, n, .lst h a => by cases n
  | _, _, n, .tup h a => .tup (Imm.tup e h) (DpAll.imm e n a)
theorem DpAll.imm {K : Frag} {H H' : Hp} (e : Imm H H') : ∀ {vs : List V} {ds : List PyData}, noLs ds = true → DpAll K H vs ds → DpAll K H' vs ds
  | _, _, _, .nil => .nil
  | _, _, n, .cons h t => by
    have n' := Bool.and_eq_true_iff.mp n
    exact .cons (Dp.imm e n'.1 h) (DpAll.imm e n'.2 t)
end
theorem BagAt.ne {H : Hp} {p l D : Addr} (B : BagAt H p l) (h : H D = none) : D ≠ p := fun z => by
  obtain ⟨i, r, sd, ns, hp, _⟩ := B.ex
  rw [z, hp] at h
  cases h
theorem BagAt.neL {H : Hp} {p l D : Addr} (B : BagAt H p l) (h : H D = none) : BagAt (upd H D (.lst [])) p l := B.to (same_new h _)
/-- a comprehension without tests that draws: its element i is some v with R i v -/
theorem lc_draw {J : It} {n : Nat} {G : Hp → Prop} {Y : Nat → Hp → V → Hp → Prop} (w : Walk J n G Y) {g : TG} {te : TE} {vs : List Nat} {σ : L2.St} {H1 : Hp} {D p l : Addr} {Qd : Hp → Prop} (R : Nat → V → Hp → Prop) (B : BagAt H1 p l) (nD : H1 D = none) (hn : n ≤ 1000000)
    (hR : ∀ i v H H', Imm H H' → R i v H → R i v H') (hG : ∀ H, SameX p H1 H → G H) (hY : ∀ i H x H', i < n → Y i H x H' → Same H H')
    (hs : ∀ i x H H' (Kt : V → Hp → Prop), i < n → SameX p H1 H' → BagAt H' p l → Y i H x H' → (∀ v H4, SameX p H' H4 → BagAt H4 p l → R i v H4 → Kt v H4) → g x (wipe σ vs) H' fun σ2 H2 => wipe σ2 vs = wipe σ vs ∧ te σ2 H2 Kt)
    (hg : ∀ x σ H (A B : L2.St → Hp → Prop), (∀ σ H, A σ H → B σ H) → g x σ H A → g x σ H B)
    (hd : ∀ H ys, SameX p H1 H → BagAt H p l → H D = some (.lst ys) → ys.length = n → (∀ i v, ys[i]? = some v → R i v H) → Qd H) :
    ∃ W : Nat → Nat → Hp → Prop, (∃ m, W 0 m (upd H1 D (.lst []))) ∧ ∀ i m H, W i m H →
      (J.stop i H ∧ Qd H) ∨ (J.go i H ∧ ∃ Nx : Hp → Prop, (∀ H', Nx H' → ∃ m', m' < m ∧ W (i + 1) m' H') ∧ ∀ x H', J.yld i H x H' → g x (wipe σ vs) H' fun σ2 H2 => wipe σ2 vs = wipe σ vs ∧ tYes σ2 H2 fun b H3 =>
        if b = true then te σ2 H3 fun y H4 => ∃ acc, H4 D = some (.lst acc) ∧ acc.length < sizeLine ∧ Nx (upd H4 D (.lst (acc ++ [y]))) else Nx H3) := by
  have nDp := B.ne nD
  refine lc_it w (fun i H => SameX p H1 H ∧ BagAt H p l ∧ ∃ ys, H D = some (.lst ys) ∧ ys.length = i ∧ ∀ j v, ys[j]? = some v → R j v H) ⟨SameX.same (same_new nD _), B.neL nD, [], upd_same, rfl, fun j v e => by simp at e⟩ (fun i H _ ⟨s, _⟩ => hG H s) (fun i x H H' hi ⟨s, BH, ys, hD, hl, hr⟩ y => ?_) (fun H ⟨s, BH, ys, hD, hl, hr⟩ => hd H ys s BH hD hl hr)
  have sy := hY i H x H' hi y
  have z := hs i x H H' (fun y H4 => ∃ acc, H4 D = some (.lst acc) ∧ acc.length < sizeLine ∧ SameX p H1 (upd H4 D (.lst (acc ++ [y]))) ∧ BagAt (upd H4 D (.lst (acc ++ [y]))) p l ∧ ∃ ys, (upd H4 D (.lst (acc ++ [y]))) D = some (.lst ys) ∧ ys.length = i + 1 ∧ ∀ j v, ys[j]? = some v → R j v (upd H4 D (.lst (acc ++ [y])))) hi (s.trans (SameX.same sy)) (BH.to sy) y (fun v H4 s4 B4 r4 => ?_)
  · refine hg _ _ _ _ _ (fun σ2 H2 h => ?_) z
    exact ⟨h.1, tYes_of h.2⟩
  · have h4 : H4 D = some (.lst ys) := s4.at nDp (sy _ _ hD)
    refine ⟨ys, h4, by rw [hl, sizeLine_eq]; omega, SameX.of fun b o hb e => ?_, ?_, ys ++ [v], upd_same, by rw [List.length_append, hl]; rfl, fun j u e => ?_⟩
    · rw [upd_ne (ne_of_none e nD)]
      exact s4.at hb ((SameX.same sy).at hb (s.at hb e))
    · obtain ⟨a, b, c, ns, hp, hls, k⟩ := B4.ex
      obtain ⟨a', b', c', ns', hp', hl', _⟩ := B.ex
      refine ⟨a, b, c, ns, ?_, ?_, k⟩
      · rw [upd_ne (fun z => nDp z.symm)]
        exact hp
      · rw [upd_ne (ne_of_none hl' nD)]
        exact hls
    · have I1 : Imm H (upd H4 D (.lst (ys ++ [v]))) := (Imm.same sy).trans ((Imm.bag s4 (BH.to sy)).trans (Imm.upd h4))
      by_cases hj : j < ys.length
      · rw [List.getElem?_append_left hj] at e
        exact hR _ _ _ _ I1 (hr _ _ e)
      · have ej : j = ys.length := by
          have := (List.getElem?_eq_some_iff.mp e).1
          rw [List.length_append, List.length_singleton] at this
          omega
        subst ej
        rw [List.getElem?_append_right (Nat.le_refl _), Nat.sub_self] at e
        have e2 : v = u := Option.some.inj e
        subst e2
        rw [hl]
        exact hR _ _ _ _ (Imm.upd h4) r4
theorem at_z {K : Frag} {H : Hp} {a : Addr} {xs : List V} (h : H a = some (.lst xs)) : SqL K H a xs := .inl (.inl h)
theorem cutN (xs : List V) (n : Nat) : cutV xs none (some (n : Int)) = xs.take n := by
  unfold cutV
  rw [HT.sIx_none, HT.sIx_nat]
  show List.take (min n xs.length - 0) xs = _
  rw [Nat.sub_zero]
  by_cases h : n ≤ xs.length
  · rw [Nat.min_eq_left h]
  · rw [Nat.min_eq_right (by omega), List.take_of_length_le (Nat.le_refl _), List.take_of_length_le (by omega)]
/-- law's promise: True -/
def spLaw (K : Frag) : Sp := fun vs H Q _ => ∃ (a : Addr) (ns : List Int), vs = [.ref a] ∧ SqL K H a (ns.map V.int) ∧ ns.length ≤ 63 ∧ ∀ H', Q (.bl true) H'
abbrev dD (x : Str) (st : Stmt) : He.DefD := ⟨(x, none), x, x, defArgs st, defBody st, defScope st, [], []⟩
theorem gs_of {fa : List He.Fa} {fn : List He.DefD} {K : Frag} {h : Heap} {mg : Str → Option Value} (X : K.In h) (G : h.Ns mainGlobals mg) (c : He.SaysD fa fn K) (i j : Nat) (x : Str) (st : Stmt) (hi : fn[i]? = some (dD x st)) (hj : fa[j]? = some (.glo x)) : Gs K mg x st := by
  obtain ⟨fd, F⟩ := c.def_ i hi
  exact ⟨_, fd, He.glo_ok X G (c.fact j hj), F⟩
theorem free_of {fa : List He.Fa} {fn : List He.DefD} {K : Frag} {h : Heap} {mg : Str → Option Value} (X : K.In h) (G : h.Ns mainGlobals mg) (c : He.SaysD fa fn K) (j : Nat) (x : Str) (hj : fa[j]? = some (.free x)) : mg x = none := He.free_ok X G (c.fact j hj)
end Fs
set_option Elab.async false
set_option linter.all false
set_option maxRecDepth 100000
set_option maxHeartbeats 8000000
namespace Fs
open PySem PySem.Spec PyProof.Rows L2
def top (i : Nat) : Stmt := PySem.Challenge.pw_framesure_k05_frames_walked.main.body.getD i (.Pass ⟨0, 0, 0, 0⟩)
end Fs
set_option Elab.async false
set_option linter.all false
set_option maxRecDepth 100000
set_option maxHeartbeats 8000000
namespace Fs
open PySem PySem.Spec PyProof.Rows L2
abbrev s__law_bag : Stmt := top 10
abbrev N__law_bag : List Str := ["_law_script", "_law_salt", "_law_cell"]
abbrev P__law_bag : List Str := ["_law_script"]
abbrev s__law_pull : Stmt := top 11
abbrev N__law_pull : List Str := ["_law_bag_here", "_law_amount", "_law_cell", "_law_got", "_law_seed"]
abbrev P__law_pull : List Str := ["_law_bag_here", "_law_amount"]
theorem sc__law_bag : FnScope N__law_bag P__law_bag (defScope s__law_bag) := ⟨rfl, rfl, rfl, by decide +kernel, rfl, by decide +kernel, by decide +kernel⟩
section
variable {P : Program} {w : World} {K : Frag} {mg : Str → Option Value} {base : Heap}
theorem ok__law_bag (G : Gs K mg "_law_bag" s__law_bag) (mint : mg "int" = none) (mlist : mg "list" = none) : Gd P w K mg base CX0 1 "_law_bag" P__law_bag (spBag K) := by
  refine G.ok sc__law_bag (fun vs H Q E h => ?_) (fun _ _ _ _ _ _ us hl => match us, hl with | [_], _ => rfl) (fun f cdv A outer s H vs Q E hr h => ?_)
  · obtain ⟨a, ns, rfl, _⟩ := h
    rfl
  obtain ⟨a, ns, rfl, hS, q⟩ := h
  refine ⟨_, pss_cons (ps_set (i := 1) sc__law_bag.nd rfl (.inl rfl) pe_int)
    (pss_cons (ps_for PassesOwn.never rfl (pi_list (pe_slice sl_list (pv 0) po_none (po_some pe_int))) (pg_name (i := 2) sc__law_bag.nd rfl (.inl rfl))
      (pss_one (ps_set (i := 1) sc__law_bag.nd rfl (.inl rfl) (pe_op op_mod (pe_op op_add (pe_op op_add (pe_op op_mul (pv 1) pe_int) (pe_op op_mod (pe_callTy call_int1 (by rfl) mint (by decide +kernel) (pa_cons (pv 2) pa_nil)) pe_int)) pe_int) pe_int))))
    (pss_one (ps_ret (pe_lst (pa_cons (pe_callTy call_list_of (by rfl) mlist (by decide +kernel) (pa_cons (pe_slice sl_list (pv 0) po_none (po_some pe_int)) pa_nil)) (pa_cons pe_int (pa_cons pe_int (pa_cons (pv 1) pa_nil)))))))), ?_⟩
  refine ⟨_, rfl, _, rfl, a, _, rfl, hS, fun c nc => ?_⟩
  have e63 : cutV (ns.map V.int) none (some 63) = (ns.take 63).map V.int := by
    rw [show (63 : Int) = ((63 : Nat) : Int) from rfl, cutN, List.map_take]
  rw [e63]
  refine ⟨c, rfl, ⟨_, at_z upd_same⟩, for_list (K := K) (a := c) (xs := (ns.take 63).map V.int)
    (fun i σ H' => ∃ (salt : Int) (v : Option V), σ = [some (.ref a), some (.int salt), v] ∧ 0 ≤ salt ∧ salt < 2147483647 ∧ Same (upd H c (.lst ((ns.take 63).map V.int))) H')
    ⟨3841, none, rfl, by decide, by decide, Same.refl _⟩ (fun i σ H' _ ⟨_, _, _, _, _, s1⟩ => at_z (s1 _ _ upd_same)) ?_ ?_⟩
  · rintro i x σ H' hi ⟨salt, v, rfl, h0, h1, s1⟩
    obtain ⟨z, hz, rfl⟩ : ∃ z, (ns.take 63)[i]? = some z ∧ x = V.int z := by
      rw [List.getElem?_map] at hi
      cases e : (ns.take 63)[i]? with
      | none =>
        rw [e] at hi
        cases hi
      | some z =>
        rw [e] at hi
        exact ⟨z, rfl, (Option.some.inj hi).symm⟩
    refine ⟨_, rfl, _, _, rfl, rfl, .inl ⟨by omega, by omega⟩, _, rfl, .inl ⟨_, rfl, _, _, rfl, rfl, (by show (0 : Int) < _; decide), _, _, rfl, rfl, _, _, rfl, rfl, _, _, rfl, rfl, (by show (0 : Int) < _; decide), _, _, rfl, ?_, ?_, s1⟩⟩
    · omega
    · omega
  · rintro σ H' ⟨salt, v, rfl, h0, h1, s1⟩
    refine ⟨_, rfl, _, rfl, a, _, rfl, (same_new nc _ |>.trans s1).seq hS, fun d nd => ?_⟩
    refine ⟨d, _, rfl, .inl (at_z upd_same), fun l nl => ?_⟩
    refine ⟨_, rfl, (by show 4 ≤ sizeLine; decide), fun p np => ?_⟩
    have s2 : Same H' (upd (upd (upd H' d (.lst (cutV (ns.map V.int) none (some 63)))) l (.lst (cutV (ns.map V.int) none (some 63)))) p (.lst [.ref l, .int 0, .int 0, .int salt])) := (same_new nd _).trans ((same_new nl _).trans (same_new np _))
    have s3 := (same_new nc (.lst ((ns.take 63).map V.int))).trans (s1.trans s2)
    refine q p l _ ?_ s3 ⟨0, 0, salt, ns.take 63, upd_same, ?_, by decide, by decide, h0, h1⟩
    · have z := ((same_new nc _).trans (s1.trans ((same_new nd _).trans (same_new nl _)))).free np
      exact z
    · rw [← e63, upd_ne (ne_of_none upd_same np), upd_same]
theorem sc__law_pull : FnScope N__law_pull P__law_pull (defScope s__law_pull) := ⟨rfl, rfl, rfl, by decide +kernel, rfl, by decide +kernel, by decide +kernel⟩
theorem ok__law_pull (G : Gs K mg "_law_pull" s__law_pull) (mint : mg "int" = none) (mlen : mg "len" = none) : Gd P w K mg base CX0 1 "_law_pull" P__law_pull spPull := by
  refine G.ok sc__law_pull (fun vs H Q E h => ?_) (fun _ _ _ _ _ _ us hl => match us, hl with | [_, _], _ => rfl) (fun f cdv A outer s H vs Q E hr h => ?_)
  · obtain ⟨p, l, n, rfl, _⟩ := h
    rfl
  obtain ⟨p, l, n, rfl, B, n0, n1, q⟩ := h
  refine ⟨_, pss_cons (ps_if (PW.pt (pw_and (pt_cmpR op_eq (pe_ix ix_list (pv 0) pe_int (fun _ _ => rfl)) pe_int (nomark _)) (pw_and1 (pt_cmpR op_lt (pe_ix ix_list (pv 0) pe_int (fun _ _ => rfl)) (pe_callB call_len_seq (by rfl) mlen PySem.boot_len (pa_cons (pe_ix ix_list (pv 0) pe_int (fun _ _ => rfl)) pa_nil)) (nomark _)))))
      (pss_cons (ps_set (i := 2) sc__law_pull.nd rfl (.inl rfl) (pe_ix ix_list (pe_ix ix_list (pv 0) pe_int (fun _ _ => rfl)) (pe_ix ix_list (pv 0) pe_int (fun _ _ => rfl)) (fun _ _ => rfl)))
      (pss_cons (ps_asg (pe_op op_add (pe_ix ix_list (pv 0) pe_int (fun _ _ => rfl)) pe_int) (pg_sub (pv 0) pe_int set_list))
      (pss_one (ps_if (pt_cmpR op_ge (pv 2) (pe_op op_pow pe_int pe_int) (nomark _))
        (pss_one (ps_asg (pv 2) (pg_sub (pv 0) pe_int set_list)))
        (pss_one (ps_asg (pe_op op_mod (pe_op op_add (pe_op op_add (pe_op op_mul (pe_ix ix_list (pv 0) pe_int (fun _ _ => rfl)) pe_int) (pe_op op_mul (pe_op op_mod (pe_callTy call_int1 (by rfl) mint (by decide +kernel) (pa_cons (pv 2) pa_nil)) pe_int) pe_int)) pe_int) pe_int) (pg_sub (pv 0) pe_int set_list)))))))
      pss_nil)
    (pss_cons (ps_if (pt_cmpR op_gt (pe_ix ix_list (pv 0) pe_int (fun _ _ => rfl)) pe_int (nomark _))
      (pss_cons (ps_set (i := 3) sc__law_pull.nd rfl (.inl rfl) (pe_op op_mod (pe_callTy call_int1 (by rfl) mint (by decide +kernel) (pa_cons (pe_ix ix_list (pv 0) pe_int (fun _ _ => rfl)) pa_nil)) (pv 1)))
      (pss_cons (ps_asg (pe_op op_fdivW (pe_ix ix_list (pv 0) pe_int (fun _ _ => rfl)) (pv 1)) (pg_sub (pv 0) pe_int set_list))
      (pss_one (ps_ret (pv 3))))) pss_nil)
    (pss_cons (ps_set (i := 4) sc__law_pull.nd rfl (.inl rfl) (pe_ix ix_list (pv 0) pe_int (fun _ _ => rfl)))
    (pss_cons (ps_asg (pe_op op_mod (pe_op op_add (pe_op op_add (pe_op op_mul (pv 4) (pv 4)) (pe_op op_mul (pv 4) pe_int)) pe_int) pe_int) (pg_sub (pv 0) pe_int set_list))
    (pss_one (ps_ret (pe_op op_mod (pe_op op_add (pe_op op_fdiv (pe_ix ix_list (pv 0) pe_int (fun _ _ => rfl)) pe_int) (pe_op op_mul (pe_op op_mod (pe_callTy call_int1 (by rfl) mint (by decide +kernel) (pa_cons (pe_ix ix_list (pv 0) pe_int (fun _ _ => rfl)) pa_nil)) pe_int) pe_int)) (pv 1))))))), ?_⟩
  obtain ⟨i, rest, seed, ns, hp, hl, hi, hrest, hs0, hs1⟩ := B.ex
  have npl : l ≠ p := ne_of hl hp (fun z => by
    injection z with z
    have z2 := congrArg List.length z
    cases ns with
    | nil => simp at z
    | cons x r =>
      rw [List.map_cons] at z
      injection z with z _
      cases z)
  have a0 : ∀ {x y z u : V}, atI [x, y, z, u] 0 = some x := rfl
  have a1 : ∀ {x y z u : V}, atI [x, y, z, u] 1 = some y := rfl
  have a2 : ∀ {x y z u : V}, atI [x, y, z, u] 2 = some z := rfl
  have a3 : ∀ {x y z u : V}, atI [x, y, z, u] 3 = some u := rfl
  refine seq_cut (fun σ' H' => ∃ (i rest seed : Int) (v : Option V), σ' = [some (.ref p), some (.int n), v, none, none] ∧ SameX p H H' ∧ H' p = some (.lst [.ref l, .int i, .int rest, .int seed]) ∧ 0 ≤ i ∧ 0 ≤ rest ∧ 0 ≤ seed ∧ seed < 2147483647) (fun N hN => ?_) ?_
  · have done : N (start ["_law_bag_here", "_law_amount", "_law_cell", "_law_got", "_law_seed"] [V.ref p, V.int n]) H := hN _ _ ⟨i, rest, seed, none, rfl, Same.refl _, hp, hi, hrest, hs0, hs1⟩
    refine ⟨_, rfl, p, _, _, _, rfl, rfl, at_z hp, a2, rfl, _, rfl, ?_⟩
    by_cases c : V.int rest = V.int 0
    · rw [decide_eq_true c]
      refine iteT ?_
      refine ⟨_, rfl, p, _, _, _, rfl, rfl, at_z hp, a1, _, rfl, p, _, _, _, rfl, rfl, at_z hp, a0, l, _, rfl, .inl (at_z hl), _, _, rfl, rfl, _, rfl, ?_⟩
      by_cases c2 : i < ((ns.map V.int).length : Int)
      · rw [decide_eq_true c2]
        refine iteT ?_
        rw [List.length_map] at c2
        have hk : i.toNat < ns.length := by omega
        have ek : i = ((i.toNat : Nat) : Int) := by omega
        have ai : atI (ns.map V.int) i = some (.int ns[i.toNat]) := by
          have z := atI_i (xs := ns.map V.int) hi (by rw [List.length_map]; exact hk)
          rw [List.getElem_map] at z
          exact z
        -- the cell, the place
        refine ⟨_, rfl, p, _, _, _, rfl, rfl, at_z hp, a0, _, rfl, p, _, _, _, rfl, rfl, at_z hp, a1, l, _, _, _, rfl, rfl, at_z hl, ai, ?_⟩
        refine ⟨_, rfl, p, _, _, _, rfl, rfl, at_z hp, a1, _, _, rfl, rfl, _, rfl, p, _, _, _, rfl, rfl, hp, rfl, ?_⟩
        -- if cell >= 10 ** 18
        refine ⟨_, rfl, _, _, rfl, rfl, ⟨by decide, by decide, by decide⟩, _, _, rfl, rfl, _, rfl, ?_⟩
        refine ite2 (fun c3 => ?_) (fun c3 => ?_)
        · have c3' := of_decide_eq_true c3
          refine ⟨_, rfl, _, rfl, p, _, _, _, rfl, rfl, upd_same, rfl, ?_⟩
          refine hN _ _ ⟨i + 1, ns[i.toNat], seed, some (.int ns[i.toNat]), rfl, .of fun b o hb e => ?_, upd_same, by omega, ?_, hs0, hs1⟩
          · rw [upd_ne hb, upd_ne hb]
            exact e
          · exact Int.le_trans (by decide) c3'
        · refine ⟨_, rfl, p, _, _, _, rfl, rfl, at_z upd_same, a3, _, _, rfl, rfl, .inl ⟨by omega, by omega⟩, _, rfl, .inl ⟨_, rfl, _, _, rfl, rfl, (by show (0 : Int) < _; decide), _, _, rfl, rfl, .inr ⟨by decide, by decide⟩, _, _, rfl, rfl, _, _, rfl, rfl, _, _, rfl, rfl, (by show (0 : Int) < _; decide), _, rfl, p, _, _, _, rfl, rfl, upd_same, rfl, ?_⟩⟩
          refine hN _ _ ⟨i + 1, rest, _, some (.int ns[i.toNat]), rfl, .of fun b o hb e => ?_, upd_same, by omega, hrest, Int.emod_nonneg _ (by decide), Int.emod_lt_of_pos _ (by decide)⟩
          rw [upd_ne hb, upd_ne hb]
          exact e
      · rw [decide_eq_false c2]
        exact iteF done
    · rw [decide_eq_false c]
      exact iteF done
  · rintro σ' H' ⟨i, rest, seed, v, rfl, sx, hp, hi, hrest, hs0, hs1⟩
    have hl' := sx.at npl hl
    have fin : ∀ (i rest seed : Int) (H2 : Hp), (∀ b o, b ≠ p → H' b = some o → H2 b = some o) → H2 p = some (.lst [.ref l, .int i, .int rest, .int seed]) → 0 ≤ i → 0 ≤ rest → 0 ≤ seed → seed < 2147483647 → SameX p H H2 ∧ BagAt H2 p l := fun i rest seed H2 k e h0 h1 h2 h3 =>
      ⟨sx.trans (SameX.of k), ⟨i, rest, seed, ns, e, k _ _ npl hl', h0, h1, h2, h3⟩⟩
    refine ⟨_, rfl, p, _, _, _, rfl, rfl, at_z hp, a2, _, _, rfl, rfl, _, rfl, ?_⟩
    refine ite2 (fun c => ?_) (fun c => ?_)
    · refine ⟨_, rfl, p, _, _, _, rfl, rfl, at_z hp, a2, .inl ⟨_, rfl, _, rfl, _, _, rfl, rfl, n0, ?_⟩⟩
      refine ⟨_, rfl, p, _, _, _, rfl, rfl, at_z hp, a2, _, rfl, _, _, rfl, rfl, wide_div n0 (b := 100) (by omega) (by decide) (by decide), _, rfl, p, _, _, _, rfl, rfl, hp, rfl, _, rfl, ?_⟩
      obtain ⟨x1, x2⟩ := fin i (rest / n) seed (upd H' p (.lst [.ref l, .int i, .int (rest / n), .int seed])) (fun b o hb e => by rw [upd_ne hb]; exact e) upd_same hi (Int.ediv_nonneg hrest (by omega)) hs0 hs1
      exact q _ _ (Int.emod_nonneg _ (by omega)) (Int.emod_lt_of_pos _ n0) x1 x2
    · refine ⟨_, rfl, p, _, _, _, rfl, rfl, at_z hp, a3, ?_⟩
      refine ⟨_, rfl, _, rfl, _, _, rfl, rfl, .inl ⟨by omega, by omega⟩, _, rfl, _, _, rfl, rfl, .inr ⟨by decide, by decide⟩, _, _, rfl, rfl, _, _, rfl, rfl, _, _, rfl, rfl, (by show (0 : Int) < _; decide), _, rfl, p, _, _, _, rfl, rfl, hp, rfl, ?_⟩
      refine ⟨_, rfl, p, _, _, _, rfl, rfl, at_z upd_same, a3, _, _, rfl, rfl, ⟨by decide, by decide⟩, _, rfl, p, _, _, _, rfl, rfl, at_z upd_same, a3, .inl ⟨_, rfl, _, _, rfl, rfl, (by show (0 : Int) < _; decide), _, _, rfl, rfl, .inr ⟨by decide, by decide⟩, _, _, rfl, rfl, _, rfl, _, _, rfl, rfl, n0, ?_⟩⟩
      obtain ⟨x1, x2⟩ := fin i rest ((seed * seed + seed * 48271 + 1013904223) % 2147483647) (upd H' p (.lst [.ref l, .int i, .int rest, .int ((seed * seed + seed * 48271 + 1013904223) % 2147483647)])) (fun b o hb e => by rw [upd_ne hb]; exact e) upd_same hi hrest (Int.emod_nonneg _ (by decide)) (Int.emod_lt_of_pos _ (by decide))
      exact q _ _ (Int.emod_nonneg _ (by omega)) (Int.emod_lt_of_pos _ n0) x1 x2
end
end Fs
set_option Elab.async false
set_option linter.all false
set_option maxRecDepth 100000
set_option maxHeartbeats 8000000
namespace Fs
open PySem PySem.Spec PyProof.Rows L2
/-! ### data -/
inductive D where
  | non | bl (b : Bool) | int (i : Int) | str (x : Str) | ty (n : String) | fn (a : Addr)
  | tup (xs : List D) | lst (xs : List D) | dic (kvs : List (Key × D)) | obj (C : Addr) (fs : List (Str × D)) | exc (C : Addr) (fs : List (Str × D))
/-- a value: a datum, or an own object that may change -/
inductive W where
  | v (d : D) | loc (n : Nat)
/-- an own object -/
inductive MO where
  | lst (xs : List D) | dic (kvs : List (Key × D)) | ins (C : Addr) (fs : List (Str × W)) | bag | tab (p : Addr) (q : Str) | gone
def MO.live : MO → Bool
  | .gone => false
  | _ => true
abbrev En := List (Option W)
abbrev Me := List MO
/-- an exception: its class, its fields -/
structure Er where
  C : Addr
  fs : List (Str × D)
/-- a key's text is well -/
def KeyOk : Key → Prop
  | .inl _ => True
  | .inr x => PySem.PyData.strOk x = true
/-- a tuple: tracked as one, or one of the program's constants -/
def TqT (K : Frag) (B : Hp) (a : Addr) (xs : List V) : Prop :=
  B a = some (.tup xs) ∨ ∃ (o : Obj) (its : Array Value) (n : Nat), K.lookup a = some o ∧ o.cls = .type "tuple" ∧ o.data = .seq its n ∧ its.size ≤ sizeLine ∧ Vals xs its.toList
theorem TqT.sq {K : Frag} {B : Hp} {a : Addr} {xs : List V} (h : TqT K B a xs) : SqT K B a xs := h.elim (fun e => .inl (.inl e)) .inr
theorem TqT.to {K : Frag} {B B' : Hp} (e : Same B B') {a : Addr} {xs : List V} (h : TqT K B a xs) : TqT K B' a xs := h.elim (fun z => .inl (e _ _ z)) .inr
mutual
inductive Rv (K : Frag) (B : Hp) : V → D → Prop
  | non : Rv K B .non .non
  | bl (b : Bool) : Rv K B (.bl b) (.bl b)
  | int (i : Int) : Rv K B (.int i) (.int i)
  | str {x : Str} : PySem.PyData.strOk x = true → Rv K B (.str x) (.str x)
  | ty (n : String) : Rv K B (.ty n) (.ty n)
  | fn (a : Addr) : Rv K B (.ref a) (.fn a)
  | tup {a : Addr} {xs : List V} {ds : List D} : TqT K B a xs → RvL K B xs ds → Rv K B (.ref a) (.tup ds)
  | lst {a : Addr} {xs : List V} {ds : List D} : B a = some (.lst xs) → RvL K B xs ds → Rv K B (.ref a) (.lst ds)
  | dic {a : Addr} {od : Obj} {xs : List (Key × V)} {ds : List (Key × D)} : B a = some (.frz od (.dK xs)) → RvK K B xs ds → Rv K B (.ref a) (.dic ds)
  | obj {a C dx : Addr} {xs : List (Str × V)} {ds : List (Str × D)} : B a = some (.ins C dx xs) → RvF K B xs ds → Rv K B (.ref a) (.obj C ds)
  | exc {a C dx : Addr} {xs : List (Str × V)} {ds : List (Str × D)} : B a = some (exo a C (some dx)) → B dx = some (exd dx xs) → RvF K B xs ds → Rv K B (.ref a) (.exc C ds)
inductive RvL (K : Frag) (B : Hp) : List V → List D → Prop
  | nil : RvL K B [] []
  | cons {v : V} {vs : List V} {d : D} {ds : List D} : Rv K B v d → RvL K B vs ds → RvL K B (v :: vs) (d :: ds)
inductive RvK (K : Frag) (B : Hp) : List (Key × V) → List (Key × D) → Prop
  | nil : RvK K B [] []
  | cons {k : Key} {v : V} {vs : List (Key × V)} {d : D} {ds : List (Key × D)} : KeyOk k → Rv K B v d → RvK K B vs ds → RvK K B ((k, v) :: vs) ((k, d) :: ds)
inductive RvF (K : Frag) (B : Hp) : List (Str × V) → List (Str × D) → Prop
  | nil : RvF K B [] []
  | cons {k : Str} {v : V} {vs : List (Str × V)} {d : D} {ds : List (Str × D)} : Rv K B v d → RvF K B vs ds → RvF K B ((k, v) :: vs) ((k, d) :: ds)
end
/-! ### heaps in heaps -/
/-- all of B stands in H (dicts are locked in B) -/
def Le (B H : Hp) : Prop := ∀ a o, B a = some o → H a = some o
theorem Le.refl (B : Hp) : Le B B := fun _ _ h => h
theorem Le.of {B H : Hp} (h : Same B H) : Le B H := h
theorem Le.same {B B' H : Hp} (s : Same B B') (h : Le B' H) : Le B H := fun a o e => h a o (s a o e)
theorem Le.rd {B H : Hp} (h : Le B H) {a : Addr} {u : HO} (r : Rd B a u) : Rd H a u := r.elim (fun r => .inl (h _ _ r)) fun ⟨o, r⟩ => .inr ⟨o, h _ _ r⟩
theorem Le.seq {K : Frag} {B H : Hp} (h : Le B H) {a : Addr} {xs : List V} (r : SqL K B a xs) : SqL K H a xs := r.elim (fun r => .inl (h.rd r)) .inr
theorem Le.tup {K : Frag} {B H : Hp} (h : Le B H) {a : Addr} {xs : List V} (r : TqT K B a xs) : SqT K H a xs := r.elim (fun r => .inl (.inl (h _ _ r))) .inr
theorem Le.ins {B H : Hp} (h : Le B H) {a C dx : Addr} {xs : List (Str × V)} (r : B a = some (.ins C dx xs)) : H a = some (.ins C dx xs) := h _ _ r
theorem Le.some {B H : Hp} (h : Le B H) {a : Addr} {o : HO} (r : B a = some o) : H a ≠ none := by
  rw [h _ _ r]
  exact fun z => nomatch z
theorem Same.rd {B H : Hp} (h : Same B H) {a : Addr} {u : HO} (r : Rd B a u) : Rd H a u := r.elim (fun r => .inl (h _ _ r)) fun ⟨o, r⟩ => .inr ⟨o, h _ _ r⟩
mutual
theorem Rv.to {K : Frag} {B B' : Hp} (e : Same B B') : ∀ {v : V} {d : D}, Rv K B v d → Rv K B' v d
  | _, _, .non => .non
  | _, _, .bl b => .bl b
  | _, _, .int i => .int i
  | _, _, .str h => .str h
  | _, _, .ty n => .ty n
  | _, _, .fn a => .fn a
  | _, _, .tup h a => .tup (TqT.to e h) (RvL.to e a)
  | _, _, .lst h a => .lst (e _ _ h) (RvL.to e a)
  | _, _, .dic h a => .dic (e _ _ h) (RvK.to e a)
  | _, _, .obj h a => .obj (e _ _ h) (RvF.to e a)
  | _, _, .exc h g a => .exc (e _ _ h) (e _ _ g) (RvF.to e a)
theorem RvL.to {K : Frag} {B B' : Hp} (e : Same B B') : ∀ {vs : List V} {ds : List D}, RvL K B vs ds → RvL K B' vs ds
  | _, _, .nil => .nil
  | _, _, .cons h t => .cons (Rv.to e h) (RvL.to e t)
theorem RvK.to {K : Frag} {B B' : Hp} (e : Same B B') : ∀ {vs : List (Key × V)} {ds : List (Key × D)}, RvK K B vs ds → RvK K B' vs ds
  | _, _, .nil => .nil
  | _, _, .cons k h t => .cons k (Rv.to e h) (RvK.to e t)
theorem RvF.to {K : Frag} {B B' : Hp} (e : Same B B') : ∀ {vs : List (Str × V)} {ds : List (Str × D)}, RvF K B vs ds → RvF K B' vs ds
  | _, _, .nil => .nil
  | _, _, .cons h t => .cons (Rv.to e h) (RvF.to e t)
end
theorem RvL.len {K : Frag} {H : Hp} : ∀ {vs : List V} {ds : List D}, RvL K H vs ds → vs.length = ds.length
  | _, _, .nil => rfl
  | _, _, .cons _ t => congrArg Nat.succ (RvL.len t)
theorem RvL.at {K : Frag} {H : Hp} : ∀ {vs : List V} {ds : List D} {i : Nat} {d : D}, RvL K H vs ds → ds[i]? = some d → ∃ v, vs[i]? = some v ∧ Rv K H v d
  | _, _, _, _, .nil, e => by simp at e
  | _, _, 0, d, .cons (v := v) h _, e => ⟨v, rfl, by simp at e; subst e; exact h⟩
  | _, _, i + 1, d, .cons _ t, e => by
    obtain ⟨v, h1, h2⟩ := RvL.at (i := i) (d := d) t (by simpa using e)
    exact ⟨v, by simpa using h1, h2⟩
theorem RvL.at' {K : Frag} {H : Hp} : ∀ {vs : List V} {ds : List D} {i : Nat} {v : V}, RvL K H vs ds → vs[i]? = some v → ∃ d, ds[i]? = some d ∧ Rv K H v d
  | _, _, _, _, .nil, e => by simp at e
  | _, _, 0, v, .cons (d := d) h _, e => ⟨d, rfl, by simp at e; subst e; exact h⟩
  | _, _, i + 1, v, .cons _ t, e => by
    obtain ⟨d, h1, h2⟩ := RvL.at' (i := i) (v := v) t (by simpa using e)
    exact ⟨d, by simpa using h1, h2⟩
theorem RvL.append {K : Frag} {H : Hp} : ∀ {vs us : List V} {ds es : List D}, RvL K H vs ds → RvL K H us es → RvL K H (vs ++ us) (ds ++ es)
  | _, _, _, _, .nil, r => r
  | _, _, _, _, .cons h t, r => .cons h (RvL.append t r)
theorem RvL.one {K : Frag} {H : Hp} {v : V} {d : D} (h : Rv K H v d) : RvL K H [v] [d] := .cons h .nil
theorem RvL.take {K : Frag} {H : Hp} : ∀ {vs : List V} {ds : List D} (n : Nat), RvL K H vs ds → RvL K H (vs.take n) (ds.take n)
  | _, _, 0, _ => by simp; exact .nil
  | _, _, _ + 1, .nil => by simp; exact .nil
  | _, _, n + 1, .cons h t => .cons h (RvL.take n t)
theorem RvL.drop {K : Frag} {H : Hp} : ∀ {vs : List V} {ds : List D} (n : Nat), RvL K H vs ds → RvL K H (vs.drop n) (ds.drop n)
  | _, _, 0, r => r
  | _, _, _ + 1, .nil => by simp; exact .nil
  | _, _, n + 1, .cons _ t => RvL.drop n t
theorem RvL.set {K : Frag} {H : Hp} {v : V} {d : D} (h : Rv K H v d) : ∀ {vs : List V} {ds : List D} (n : Nat), RvL K H vs ds → RvL K H (vs.set n v) (ds.set n d)
  | _, _, _, .nil => .nil
  | _, _, 0, .cons _ t => .cons h t
  | _, _, n + 1, .cons a t => .cons a (RvL.set h n t)
theorem RvK.len {K : Frag} {H : Hp} : ∀ {vs : List (Key × V)} {ds : List (Key × D)}, RvK K H vs ds → vs.length = ds.length
  | _, _, .nil => rfl
  | _, _, .cons _ _ t => congrArg Nat.succ (RvK.len t)
theorem RvF.look {K : Frag} {H : Hp} {f : Str} {d : D} : ∀ {vs : List (Str × V)} {ds : List (Str × D)}, RvF K H vs ds → ds.lookup f = some d → ∃ v, vs.lookup f = some v ∧ Rv K H v d
  | _, _, .nil, e => by simp at e
  | _, _, .cons (k := k) (v := v) (vs := vs) (d := d2) (ds := ds) h t, e => by
    rw [List.lookup_cons] at e ⊢
    cases q : f == k with
    | true => rw [q] at e; cases e; exact ⟨_, rfl, h⟩
    | false => rw [q] at e; exact RvF.look t e
/-! ### own objects -/
/-- a value in a world -/
def RW (K : Frag) (B : Hp) (μ : List Addr) : V → W → Prop
  | v, .v d => Rv K B v d
  | v, .loc n => ∃ a, v = .ref a ∧ μ[n]? = some a
inductive RWs (K : Frag) (B : Hp) (μ : List Addr) : List V → List W → Prop
  | nil : RWs K B μ [] []
  | cons {v : V} {vs : List V} {w : W} {ws : List W} : RW K B μ v w → RWs K B μ vs ws → RWs K B μ (v :: vs) (w :: ws)
inductive RWf (K : Frag) (B : Hp) (μ : List Addr) : List (Str × V) → List (Str × W) → Prop
  | nil : RWf K B μ [] []
  | cons {k : Str} {v : V} {vs : List (Str × V)} {w : W} {ws : List (Str × W)} : RW K B μ v w → RWf K B μ vs ws → RWf K B μ ((k, v) :: vs) ((k, w) :: ws)
/-- the bag's state -/
structure BagB (B H : Hp) (p : Addr) : Prop where
  ex : ∃ (l : Addr) (i rest seed : Int) (ns : List Int), H p = some (.lst [.ref l, .int i, .int rest, .int seed]) ∧ B l = some (.lst (ns.map V.int)) ∧ 0 ≤ i ∧ 0 ≤ rest ∧ 0 ≤ seed ∧ seed < 2147483647
/-- a table of code objects, they in B -/
structure TabB (B H : Hp) (p : Addr) (q : Str) : Prop where
  ex : ∃ ps : Array Value, H p = some (.tbl ps) ∧ TriplesOk ps.toList ∧ ∀ (pos : Pos) (cv : Value), codeAmong pos ps.toList = some cv → ∃ c, cv = .ref c ∧ B c = some (LamX.CodeO c q)
/-- what stands at a -/
def OO (K : Frag) (B : Hp) (μ : List Addr) (H : Hp) (a : Addr) : MO → Prop
  | .lst ds => ∃ vs, H a = some (.lst vs) ∧ RvL K B vs ds
  | .dic ds => ∃ vs, H a = some (.dK vs) ∧ RvK K B vs ds
  | .ins C fs => ∃ dx vs, H a = some (.ins C dx vs) ∧ RWf K B μ vs fs
  | .bag => BagB B H a
  | .tab p q => a = p ∧ TabB B H a q
  | .gone => True
/-- a lives: at it stands an own object -/
def Live (μ : List Addr) (mem : List MO) (a : Addr) : Prop := ∃ (n : Nat) (m : MO), μ[n]? = some a ∧ mem[n]? = some m ∧ m.live = true
structure MemOk (K : Frag) (B : Hp) (μ : List Addr) (mem : List MO) (H : Hp) : Prop where
  le : Le B H
  len : μ.length = mem.length
  off : ∀ a, Live μ mem a → B a = none
  at_ : ∀ (n : Nat) (a : Addr) (m : MO), μ[n]? = some a → mem[n]? = some m → m.live = true → OO K B μ H a m
  inj : ∀ (n k : Nat) (a : Addr) (m m' : MO), μ[n]? = some a → μ[k]? = some a → mem[n]? = some m → mem[k]? = some m' → m.live = true → m'.live = true → n = k
  ntb : ∀ (a : Addr) (ps : Array Value), B a ≠ some (.tbl ps)
structure Rel (K : Frag) (B : Hp) (μ : List Addr) (env : En) (mem : Me) (σ : L2.St) (H : Hp) : Prop where
  mem : MemOk K B μ mem H
  len : σ.length = env.length
  env : ∀ (i : Nat) (x : W), env[i]? = some (some x) → ∃ v, σ[i]? = some (some v) ∧ RW K B μ v x
/-- from one state to a later one -/
structure Stp (B : Hp) (μ : List Addr) (mem : List MO) (H : Hp) (B' : Hp) (μ' : List Addr) (mem' : List MO) (H' : Hp) : Prop where
  same : Same B B'
  pre : μ <+: μ'
  out : ∀ a o, ¬ Live μ mem a → H a = some o → (∀ ps, o ≠ .tbl ps) → H' a = some o
  hid : ∀ a o, ¬ Live μ mem a → H a = some o → ((∀ q, o ≠ LamX.CodeO a q) ∧ ∀ ps, o ≠ .tbl ps) → B a = none → B' a = none ∧ ¬ Live μ' mem' a
theorem Stp.refl {B : Hp} {μ : List Addr} {mem : List MO} {H : Hp} : Stp B μ mem H B μ mem H := ⟨Same.refl _, List.prefix_refl _, fun _ _ _ h _ => h, fun _ _ n _ _ b => ⟨b, n⟩⟩
theorem pre_at {μ μ' : List Addr} {n : Nat} {a : Addr} (h : μ <+: μ') (e : μ[n]? = some a) : μ'[n]? = some a := by
  obtain ⟨t, rfl⟩ := h
  rw [List.getElem?_append_left (List.getElem?_eq_some_iff.mp e).1]
  exact e
theorem RW.to {K : Frag} {B B' : Hp} {μ μ' : List Addr} (s : Same B B') (p : μ <+: μ') : ∀ {v : V} {w : W}, RW K B μ v w → RW K B' μ' v w
  | _, .v _, h => Rv.to s h
  | _, .loc _, ⟨a, e, h⟩ => ⟨a, e, pre_at p h⟩
theorem RWs.to {K : Frag} {B B' : Hp} {μ μ' : List Addr} (s : Same B B') (p : μ <+: μ') : ∀ {v : List V} {w : List W}, RWs K B μ v w → RWs K B' μ' v w
  | _, _, .nil => .nil
  | _, _, .cons h t => .cons (RW.to s p h) (RWs.to s p t)
theorem RWf.to {K : Frag} {B B' : Hp} {μ μ' : List Addr} (s : Same B B') (p : μ <+: μ') : ∀ {v : List (Str × V)} {w : List (Str × W)}, RWf K B μ v w → RWf K B' μ' v w
  | _, _, .nil => .nil
  | _, _, .cons h t => .cons (RW.to s p h) (RWf.to s p t)
theorem RWs.len {K : Frag} {B : Hp} {μ : List Addr} : ∀ {v : List V} {w : List W}, RWs K B μ v w → v.length = w.length
  | _, _, .nil => rfl
  | _, _, .cons _ t => congrArg Nat.succ (RWs.len t)
theorem OO.to {K : Frag} {B B' : Hp} {μ μ' : List Addr} {H H' : Hp} {a : Addr} (s : Same B B') (p : μ <+: μ') (e : ∀ o, H a = some o → H' a = some o) : ∀ {m : MO}, OO K B μ H a m → OO K B' μ' H' a m
  | .lst _, ⟨vs, h, r⟩ => ⟨vs, e _ h, RvL.to s r⟩
  | .dic _, ⟨vs, h, r⟩ => ⟨vs, e _ h, RvK.to s r⟩
  | .ins _ _, ⟨dx, vs, h, r⟩ => ⟨dx, vs, e _ h, RWf.to s p r⟩
  | .bag, ⟨l, i, r, sd, ns, h, hl, k⟩ => ⟨l, i, r, sd, ns, e _ h, s _ _ hl, k⟩
  | .tab _ _, ⟨z, ps, h, h2, h3⟩ => ⟨z, ps, e _ h, h2, fun pos cv z => let ⟨c, e1, e2⟩ := h3 pos cv z; ⟨c, e1, s _ _ e2⟩⟩
  | .gone, _ => trivial
theorem OO.there {K : Frag} {B : Hp} {μ : List Addr} {H : Hp} {a : Addr} : ∀ {m : MO}, m.live = true → OO K B μ H a m → H a ≠ none
  | .lst _, _, ⟨vs, h, r⟩ => by rw [h]; exact fun z => nomatch z
  | .dic _, _, ⟨vs, h, r⟩ => by rw [h]; exact fun z => nomatch z
  | .ins _ _, _, ⟨dx, vs, h, r⟩ => by rw [h]; exact fun z => nomatch z
  | .bag, _, ⟨l, i, r, sd, ns, h, hl, k⟩ => by rw [h]; exact fun z => nomatch z
  | .tab _ _, _, ⟨_, ps, h, _⟩ => by rw [h]; exact fun z => nomatch z
theorem OO.noext {K : Frag} {B : Hp} {μ : List Addr} {H : Hp} {a : Addr} {φ : Heap → Prop} : ∀ {m : MO}, m.live = true → OO K B μ H a m → H a ≠ some (.ext φ)
  | .lst _, _, ⟨vs, h, r⟩ => by rw [h]; exact fun z => nomatch z
  | .dic _, _, ⟨vs, h, r⟩ => by rw [h]; exact fun z => nomatch z
  | .ins _ _, _, ⟨dx, vs, h, r⟩ => by rw [h]; exact fun z => nomatch z
  | .bag, _, ⟨l, i, r, sd, ns, h, hl, k⟩ => by rw [h]; exact fun z => nomatch z
  | .tab _ _, _, ⟨_, ps, h, _⟩ => by rw [h]; exact fun z => nomatch z
theorem Stp.trans {K : Frag} {B B1 B2 : Hp} {μ μ1 μ2 : List Addr} {mem mem1 mem2 : List MO} {H H1 H2 : Hp} (a : Stp B μ mem H B1 μ1 mem1 H1) (m1 : MemOk K B1 μ1 mem1 H1) (b : Stp B1 μ1 mem1 H1 B2 μ2 mem2 H2) (le : Le B H) : Stp B μ mem H B2 μ2 mem2 H2 where
  same := a.same.trans b.same
  pre := a.pre.trans b.pre
  out := fun x o n h nt => by
    have h1 := a.out x o n h nt
    refine b.out x o (fun l => ?_) h1 nt
    have z := m1.off x l
    cases e : B x with
    | some u => rw [a.same _ _ e] at z; cases z
    | none =>
      cases o with
      | ext φ =>
        obtain ⟨k, mo, e1, e2, e3⟩ := l
        exact OO.noext e3 (m1.at_ k x mo e1 e2 e3) h1
      | tbl ps => exact nt ps rfl
      | _ => exact (a.hid x _ n h ⟨(fun _ z => nomatch z), (fun _ z => nomatch z)⟩ e).2 l
  hid := fun x o n h ne e => by
    obtain ⟨e1, n1⟩ := a.hid x o n h ne e
    exact b.hid x o n1 (a.out x o n h ne.2) ne e1
theorem MemOk.there {K : Frag} {B : Hp} {μ : List Addr} {mem : List MO} {H : Hp} (h : MemOk K B μ mem H) {a : Addr} (l : Live μ mem a) : H a ≠ none := by
  obtain ⟨n, m, h1, h2, h3⟩ := l
  exact OO.there h3 (h.at_ n a m h1 h2 h3)
/-- a new datum is laid beside all -/
theorem MemOk.laid {K : Frag} {B : Hp} {μ : List Addr} {mem : List MO} {H : Hp} (h : MemOk K B μ mem H) {p : Addr} {o : HO} (np : H p = none) (no : ∀ ps, o ≠ .tbl ps := by exact fun _ z => nomatch z) : MemOk K (upd B p o) μ mem (upd H p o) := by
  have nb : B p = none := by
    cases e : B p with
    | none => rfl
    | some u => exact absurd np (h.le.some e)
  refine ⟨fun a u e => ?_, h.len, fun a l => ?_, fun n a m e1 e2 e3 => ?_, h.inj, fun a ps e => by
    by_cases c : a = p
    · subst c
      rw [upd_same] at e
      exact no ps (Option.some.inj e)
    · rw [upd_ne c] at e
      exact h.ntb a ps e⟩
  · by_cases c : a = p
    · subst c
      rw [upd_same] at e
      rw [upd_same]
      exact e
    · rw [upd_ne c] at e
      rw [upd_ne c]
      exact h.le a u e
  · have c : a ≠ p := fun z => by subst z; exact h.there l np
    rw [upd_ne c]
    exact h.off a l
  · have c : a ≠ p := fun z => by subst z; exact h.there ⟨n, m, e1, e2, e3⟩ np
    exact OO.to (same_new nb o) (List.prefix_refl _) (fun u q => by rw [upd_ne c]; exact q) (h.at_ n a m e1 e2 e3)
theorem Stp.laid {K : Frag} {B : Hp} {μ : List Addr} {mem : List MO} {H : Hp} (h : MemOk K B μ mem H) {p : Addr} {o : HO} (np : H p = none) : Stp B μ mem H (upd B p o) μ mem (upd H p o) := by
  have nb : B p = none := by
    cases e : B p with
    | none => rfl
    | some u => exact absurd np (h.le.some e)
  refine ⟨same_new nb o, List.prefix_refl _, fun a u _ e _ => ?_, fun a o' n e _ b => ⟨?_, n⟩⟩
  · rw [upd_ne (ne_of_none e np)]
    exact e
  · have c : a ≠ p := ne_of_none e np
    rw [upd_ne c]
    exact b
theorem laid_same {K : Frag} {B : Hp} {μ : List Addr} {mem : List MO} {H : Hp} (h : MemOk K B μ mem H) {p : Addr} {o : HO} (np : H p = none) : Same B (upd B p o) := (Stp.laid h np (o := o)).same
/-- a new own object -/
theorem MemOk.push {K : Frag} {B : Hp} {μ : List Addr} {mem : List MO} {H H' : Hp} (h : MemOk K B μ mem H) {p : Addr} {m : MO} (np : H p = none) (le : Le B H') (keep : ∀ a o, a ≠ p → H a = some o → H' a = some o) (new : OO K B (μ ++ [p]) H' p m) : MemOk K B (μ ++ [p]) (mem ++ [m]) H' := by
  have nb : B p = none := by
    cases e : B p with
    | none => rfl
    | some u => exact absurd np (h.le.some e)
  have sp : ∀ {n : Nat} {a : Addr}, (μ ++ [p])[n]? = some a → (μ[n]? = some a) ∨ (n = mem.length ∧ a = p) := fun {n a} e => by
    by_cases c : n < μ.length
    · rw [List.getElem?_append_left c] at e
      exact .inl e
    · rw [List.getElem?_append_right (by omega)] at e
      have z := (List.getElem?_eq_some_iff.mp e).1
      simp at z
      have z2 : n = μ.length := by omega
      subst z2
      simp at e
      exact .inr ⟨h.len, e.symm⟩
  have sm : ∀ {n : Nat} {x : MO} {a : Addr}, μ[n]? = some a → (mem ++ [m])[n]? = some x → mem[n]? = some x := fun {n x a} e q => by
    have z := (List.getElem?_eq_some_iff.mp e).1
    rw [List.getElem?_append_left (by have := h.len; omega)] at q
    exact q
  refine ⟨le, by simp [h.len], fun a l => ?_, fun n a x e1 e2 e3 => ?_, fun n k a x y e1 e2 e3 e4 l1 l2 => ?_, h.ntb⟩
  · obtain ⟨n, x, e1, e2, e3⟩ := l
    rcases sp e1 with e | ⟨_, rfl⟩
    · exact h.off a ⟨n, x, e, sm e e2, e3⟩
    · exact nb
  · rcases sp e1 with e | ⟨rfl, rfl⟩
    · have q := h.at_ n a x e (sm e e2) e3
      have c : a ≠ p := fun z => by subst z; exact OO.there e3 q np
      exact OO.to (Same.refl _) (List.prefix_append _ _) (fun u z => keep a u c z) q
    · rw [List.getElem?_append_right (Nat.le_refl _), Nat.sub_self] at e2
      have z : m = x := Option.some.inj e2
      subst z
      exact new
  · rcases sp e1 with u1 | ⟨rfl, rfl⟩
    · rcases sp e2 with u2 | ⟨rfl, rfl⟩
      · exact h.inj n k a x y u1 u2 (sm u1 e3) (sm u2 e4) l1 l2
      · exact absurd np (OO.there l1 (h.at_ n _ x u1 (sm u1 e3) l1))
    · rcases sp e2 with u2 | ⟨rfl, _⟩
      · exact absurd np (OO.there l2 (h.at_ k _ y u2 (sm u2 e4) l2))
      · rfl
theorem Stp.push {K : Frag} {B : Hp} {μ : List Addr} {mem : List MO} {H H' : Hp} (h : MemOk K B μ mem H) {p : Addr} {m : MO} (np : H p = none) (keep : ∀ a o, a ≠ p → H a = some o → H' a = some o) : Stp B μ mem H B (μ ++ [p]) (mem ++ [m]) H' := by
  refine ⟨Same.refl _, List.prefix_append _ _, fun a o _ e _ => keep a o (ne_of_none e np) e, fun a o n e _ b => ⟨b, fun l => ?_⟩⟩
  obtain ⟨k, x, e1, e2, e3⟩ := l
  by_cases c : k < μ.length
  · rw [List.getElem?_append_left c] at e1
    rw [List.getElem?_append_left (by have := h.len; omega)] at e2
    exact n ⟨k, x, e1, e2, e3⟩
  · rw [List.getElem?_append_right (by omega)] at e1
    have z := List.mem_of_getElem? e1
    rw [List.mem_singleton] at z
    rw [z, np] at e
    cases e
/-- an own object is changed -/
theorem MemOk.store {K : Frag} {B : Hp} {μ : List Addr} {mem : List MO} {H H' : Hp} (h : MemOk K B μ mem H) {n : Nat} {a : Addr} {m m' : MO} (ha : μ[n]? = some a) (hm : mem[n]? = some m) (hl : m.live = true) (hl' : m'.live = true) (keep : ∀ b o, b ≠ a → H b = some o → H' b = some o) (new : OO K B μ H' a m') : MemOk K B μ (mem.set n m') H' := by
  have lv : ∀ {k : Nat} {x : MO}, (mem.set n m')[k]? = some x → x.live = true → ∃ y, mem[k]? = some y ∧ y.live = true := fun {k x} e l => by
    by_cases c : k = n
    · subst c
      exact ⟨m, hm, hl⟩
    · rw [List.getElem?_set_ne (fun z => c z.symm)] at e
      exact ⟨x, e, l⟩
  have off : ∀ b, Live μ (mem.set n m') b → B b = none := fun b l => by
    obtain ⟨k, x, e1, e2, e3⟩ := l
    obtain ⟨y, e4, e5⟩ := lv e2 e3
    exact h.off b ⟨k, y, e1, e4, e5⟩
  have nb := h.off a ⟨n, m, ha, hm, hl⟩
  refine ⟨fun b u e => ?_, by simp [h.len], off, fun k b x e1 e2 e3 => ?_, fun k j b x y e1 e2 e3 e4 l1 l2 => ?_, h.ntb⟩
  · have c : b ≠ a := ne_of_none e nb
    exact keep b u c (h.le b u e)
  · by_cases c : k = n
    · subst c
      rw [List.getElem?_set_self (List.getElem?_eq_some_iff.mp hm).1] at e2
      have z : m' = x := Option.some.inj e2
      subst z
      have z2 : a = b := Option.some.inj (ha.symm.trans e1)
      subst z2
      exact new
    · rw [List.getElem?_set_ne (fun z => c z.symm)] at e2
      have ne : b ≠ a := fun z => by
        subst z
        exact c (h.inj k n b x m e1 ha e2 hm e3 hl)
      exact OO.to (Same.refl _) (List.prefix_refl _) (fun u z => keep b u ne z) (h.at_ k b x e1 e2 e3)
  · obtain ⟨x', q1, q2⟩ := lv e3 l1
    obtain ⟨y', q3, q4⟩ := lv e4 l2
    exact h.inj k j b x' y' e1 e2 q1 q3 q2 q4
theorem Stp.store {B : Hp} {μ : List Addr} {mem : List MO} {H H' : Hp} {n : Nat} {a : Addr} {m m' : MO} (ha : μ[n]? = some a) (hm : mem[n]? = some m) (hl : m.live = true) (keep : ∀ b o, b ≠ a → H b = some o → H' b = some o) : Stp B μ mem H B μ (mem.set n m') H' := by
  have la : Live μ mem a := ⟨n, m, ha, hm, hl⟩
  refine ⟨Same.refl _, List.prefix_refl _, fun b o nl e _ => keep b o (fun z => nl (z ▸ la)) e, fun b o nl e _ q => ⟨q, fun l => ?_⟩⟩
  obtain ⟨k, x, e1, e2, e3⟩ := l
  by_cases c : k = n
  · subst c
    have z2 : a = b := Option.some.inj (ha.symm.trans e1)
    exact nl (z2 ▸ la)
  · rw [List.getElem?_set_ne (fun z => c z.symm)] at e2
    exact nl ⟨k, x, e1, e2, e3⟩
/-- an own object becomes a datum: B grows by what stands at a -/
theorem MemOk.freeze {K : Frag} {B : Hp} {μ : List Addr} {mem : List MO} {H : Hp} (h : MemOk K B μ mem H) {n : Nat} {a : Addr} {m : MO} {o : HO} (ha : μ[n]? = some a) (hm : mem[n]? = some m) (hl : m.live = true) (ho : H a = some o) (no : ∀ ps, o ≠ .tbl ps := by exact fun _ z => nomatch z) : MemOk K (upd B a o) μ (mem.set n .gone) H := by
  have nb := h.off a ⟨n, m, ha, hm, hl⟩
  have lv : ∀ {k : Nat} {x : MO}, (mem.set n .gone)[k]? = some x → x.live = true → k ≠ n ∧ mem[k]? = some x := fun {k x} e l => by
    by_cases c : k = n
    · subst c
      rw [List.getElem?_set_self (List.getElem?_eq_some_iff.mp hm).1] at e
      cases e
      cases l
    · rw [List.getElem?_set_ne (fun z => c z.symm)] at e
      exact ⟨c, e⟩
  refine ⟨fun b u e => ?_, by simp [h.len], fun b l => ?_, fun k b x e1 e2 e3 => ?_, fun k j b x y e1 e2 e3 e4 l1 l2 => ?_, fun b ps e => by
    by_cases c : b = a
    · subst c
      rw [upd_same] at e
      exact no ps (Option.some.inj e)
    · rw [upd_ne c] at e
      exact h.ntb b ps e⟩
  · by_cases c : b = a
    · subst c
      rw [upd_same] at e
      cases e
      exact ho
    · rw [upd_ne c] at e
      exact h.le b u e
  · obtain ⟨k, x, e1, e2, e3⟩ := l
    obtain ⟨c, e4⟩ := lv e2 e3
    have ne : b ≠ a := fun z => by
      subst z
      exact c (h.inj k n b x m e1 ha e4 hm e3 hl)
    rw [upd_ne ne]
    exact h.off b ⟨k, x, e1, e4, e3⟩
  · obtain ⟨c, e4⟩ := lv e2 e3
    exact OO.to (same_new nb o) (List.prefix_refl _) (fun _ z => z) (h.at_ k b x e1 e4 e3)
  · exact h.inj k j b x y e1 e2 (lv e3 l1).2 (lv e4 l2).2 l1 l2
theorem Stp.freeze {B : Hp} {μ : List Addr} {mem : List MO} {H : Hp} {n : Nat} {a : Addr} {m : MO} {o : HO} (ha : μ[n]? = some a) (hm : mem[n]? = some m) (hl : m.live = true) (nb : B a = none) : Stp B μ mem H (upd B a o) μ (mem.set n .gone) H := by
  have la : Live μ mem a := ⟨n, m, ha, hm, hl⟩
  refine ⟨same_new nb o, List.prefix_refl _, fun _ _ _ e _ => e, fun b _ nl e _ q => ⟨?_, fun l => ?_⟩⟩
  · have ne : b ≠ a := fun z => by
      subst z
      exact nl la
    rw [upd_ne ne]
    exact q
  · obtain ⟨k, x, e1, e2, e3⟩ := l
    by_cases c : k = n
    · subst c
      rw [List.getElem?_set_self (List.getElem?_eq_some_iff.mp hm).1] at e2
      cases e2
      cases e3
    · rw [List.getElem?_set_ne (fun z => c z.symm)] at e2
      exact nl ⟨k, x, e1, e2, e3⟩
/-- forgetting own objects: those behind the first n -/
theorem Live.take {μ : List Addr} {mem : List MO} {n : Nat} {a : Addr} (l : Live (μ.take n) (mem.take n) a) : Live μ mem a := by
  obtain ⟨k, x, e1, e2, e3⟩ := l
  rw [List.getElem?_take] at e1 e2
  by_cases c : k < n
  · rw [if_pos c] at e1 e2
    exact ⟨k, x, e1, e2, e3⟩
  · rw [if_neg c] at e1
    cases e1
end Fs
set_option Elab.async false
set_option linter.all false
set_option maxRecDepth 100000
set_option maxHeartbeats 8000000
namespace Fs
open PySem PySem.Spec PyProof.Rows L2
theorem RW.d {K : Frag} {B : Hp} {μ : List Addr} {v : V} {d : D} (h : Rv K B v d) : RW K B μ v (.v d) := h
theorem RW.back {K : Frag} {B B' : Hp} {μ μ' : List Addr} {u v : V} (bk : ∀ {n : Nat} {a : Addr}, n < μ.length → μ'[n]? = some a → μ[n]? = some a) : ∀ {w : W}, RW K B μ u w → RW K B' μ' v w → RW K B' μ v w
  | .v _, _, h => h
  | .loc _, ⟨_, _, m0⟩, ⟨a1, e1, m1⟩ => ⟨a1, e1, bk (List.getElem?_eq_some_iff.mp m0).1 m1⟩
theorem RWf.back {K : Frag} {B B' : Hp} {μ μ' : List Addr} (bk : ∀ {n : Nat} {a : Addr}, n < μ.length → μ'[n]? = some a → μ[n]? = some a) : ∀ {us vs : List (Str × V)} {ws : List (Str × W)}, RWf K B μ us ws → RWf K B' μ' vs ws → RWf K B' μ vs ws
  | _, _, _, .nil, .nil => .nil
  | _, _, _, .cons a t, .cons b u => .cons (RW.back bk a b) (RWf.back bk t u)
theorem MemOk.drop {K : Frag} {B B' : Hp} {μ μ' : List Addr} {mem more : List MO} {H H' : Hp} (h0 : MemOk K B μ mem H) (p : μ <+: μ') (h : MemOk K B' μ' (mem ++ more) H') : MemOk K B' μ mem H' := by
  have up : ∀ {n : Nat} {m : MO}, mem[n]? = some m → (mem ++ more)[n]? = some m := fun {n m} e => by
    rw [List.getElem?_append_left (List.getElem?_eq_some_iff.mp e).1]
    exact e
  have bk : ∀ {n : Nat} {a : Addr}, n < μ.length → μ'[n]? = some a → μ[n]? = some a := fun {n a} l e => by
    obtain ⟨t, rfl⟩ := p
    rw [List.getElem?_append_left l] at e
    exact e
  refine ⟨h.le, h0.len, fun a l => ?_, fun n a m e1 e2 e3 => ?_, fun n k a m m' e1 e2 e3 e4 l1 l2 => ?_, h.ntb⟩
  · obtain ⟨n, m, e1, e2, e3⟩ := l
    exact h.off a ⟨n, m, pre_at p e1, up e2, e3⟩
  · have q0 := h0.at_ n a m e1 e2 e3
    have q := h.at_ n a m (pre_at p e1) (up e2) e3
    cases m with
    | lst ds => exact q
    | dic ds => exact q
    | bag => exact q
    | gone => trivial
    | tab _ _ => exact q
    | ins C fs =>
      obtain ⟨dx0, vs0, _, r0⟩ := q0
      obtain ⟨dx, vs, hh, r⟩ := q
      exact ⟨dx, vs, hh, RWf.back bk r0 r⟩
  · exact h.inj n k a m m' (pre_at p e1) (pre_at p e2) (up e3) (up e4) l1 l2
theorem Stp.drop {B B' : Hp} {μ μ' : List Addr} {mem more : List MO} {H H' : Hp} (s : Stp B μ mem H B' μ' (mem ++ more) H') : Stp B μ mem H B' μ mem H' :=
  ⟨s.same, List.prefix_refl _, s.out, fun a o n e x b => ⟨(s.hid a o n e x b).1, n⟩⟩
/-! ### judgements -/
/-- what is raised reaches E -/
def ExOf (K : Frag) (E : XK) (B : Hp) (μ : List Addr) (mem : List MO) (H : Hp) (Qx : Er → List MO → Prop) : Prop :=
  ∀ B' μ' mem' H' (er : Er) (dd : Addr) fvs, Stp B μ mem H B' μ' mem' H' → MemOk K B' μ' mem' H' → H' dd = some (.xd fvs) → RvF K B' fvs er.fs → Qx er mem' → E (.ref er.C) (some dd) H'
theorem ExOf.step {K : Frag} {E : XK} {B B1 : Hp} {μ μ1 : List Addr} {mem mem1 : List MO} {H H1 : Hp} {Qx : Er → List MO → Prop} (h : ExOf K E B μ mem H Qx) (s : Stp B μ mem H B1 μ1 mem1 H1) (m1 : MemOk K B1 μ1 mem1 H1) (le : Le B H) : ExOf K E B1 μ1 mem1 H1 Qx :=
  fun B' μ' mem' H' er dd fvs s' m' hd r q => h B' μ' mem' H' er dd fvs (s.trans m1 s' le) m' hd r q
abbrev QX := Er → Me → Prop
abbrev DTE := En → Me → (W → Me → Prop) → QX → Prop
abbrev DTA := En → Me → (List W → Me → Prop) → QX → Prop
abbrev DTT := En → Me → (Bool → Me → Prop) → QX → Prop
def SE (X : Cx) (E : XK) (t : TE) (T : DTE) : Prop := ∀ B μ en m σ H (Q : W → Me → Prop) (Qx : QX) (QV : VK), Rel X.K B μ en m σ H → ExOf X.K E B μ m H Qx → T en m Q Qx →
  (∀ B' μ' m' H' x v, Stp B μ m H B' μ' m' H' → Rel X.K B' μ' en m' σ H' → RW X.K B' μ' v x → Q x m' → QV v H') → t σ H QV
def SA (X : Cx) (E : XK) (t : TA) (T : DTA) : Prop := ∀ B μ en m σ H (Q : List W → Me → Prop) (Qx : QX) (QV : List V → Hp → Prop), Rel X.K B μ en m σ H → ExOf X.K E B μ m H Qx → T en m Q Qx →
  (∀ B' μ' m' H' x v, Stp B μ m H B' μ' m' H' → Rel X.K B' μ' en m' σ H' → RWs X.K B' μ' v x → Q x m' → QV v H') → t σ H QV
def ST (X : Cx) (E : XK) (t : TT) (T : DTT) : Prop := ∀ B μ en m σ H (Q : Bool → Me → Prop) (Qx : QX) (QV : Bool → Hp → Prop), Rel X.K B μ en m σ H → ExOf X.K E B μ m H Qx → T en m Q Qx →
  (∀ B' μ' m' H' b, Stp B μ m H B' μ' m' H' → Rel X.K B' μ' en m' σ H' → Q b m' → QV b H') → t σ H QV
structure DE (X : Cx) (E : XK) (e : Expr) (T : DTE) : Prop where
  ex : ∃ t, PE X e t ∧ SE X E t T
structure DA (X : Cx) (E : XK) (es : List Expr) (T : DTA) : Prop where
  ex : ∃ t, PA X es t ∧ SA X E t T
structure DT (X : Cx) (E : XK) (e : Expr) (T : DTT) : Prop where
  ex : ∃ t, PT X e t ∧ ST X E t T
structure DW (X : Cx) (E : XK) (e : Expr) (T : DTT) : Prop where
  ex : ∃ t, PW X e t ∧ ST X E t T
/-- what is wanted behind a statement -/
structure Dn where
  nx : En → Me → Prop
  rt : W → Me → Prop
  bk : En → Me → Prop
  ct : En → Me → Prop
  xc : QX
abbrev DTS := En → Me → Dn → Prop
def NxOf (K : Frag) (B : Hp) (μ : List Addr) (mem : Me) (H : Hp) (N : En → Me → Prop) (n : L2.St → Hp → Prop) : Prop := ∀ B' μ' en' m' σ' H', Stp B μ mem H B' μ' m' H' → Rel K B' μ' en' m' σ' H' → N en' m' → n σ' H'
def RtOf (K : Frag) (B : Hp) (μ : List Addr) (mem : Me) (H : Hp) (N : W → Me → Prop) (n : VK) : Prop := ∀ B' μ' mem' H' x v, Stp B μ mem H B' μ' mem' H' → MemOk K B' μ' mem' H' → RW K B' μ' v x → N x mem' → n v H'
structure EndsOf (K : Frag) (B : Hp) (μ : List Addr) (mem : Me) (H : Hp) (N : Dn) (D : Ends) : Prop where
  nx : NxOf K B μ mem H N.nx D.nx
  rt : RtOf K B μ mem H N.rt D.rt
  bk : NxOf K B μ mem H N.bk D.bk
  ct : NxOf K B μ mem H N.ct D.ct
theorem NxOf.step {K : Frag} {B B1 : Hp} {μ μ1 : List Addr} {mem mem1 : Me} {H H1 : Hp} {N n} (h : NxOf K B μ mem H N n) (s : Stp B μ mem H B1 μ1 mem1 H1) (m1 : MemOk K B1 μ1 mem1 H1) (le : Le B H) : NxOf K B1 μ1 mem1 H1 N n :=
  fun B' μ' en' m' σ' H' s' r q => h B' μ' en' m' σ' H' (s.trans m1 s' le) r q
theorem RtOf.step {K : Frag} {B B1 : Hp} {μ μ1 : List Addr} {mem mem1 : Me} {H H1 : Hp} {N n} (h : RtOf K B μ mem H N n) (s : Stp B μ mem H B1 μ1 mem1 H1) (m1 : MemOk K B1 μ1 mem1 H1) (le : Le B H) : RtOf K B1 μ1 mem1 H1 N n :=
  fun B' μ' mem' H' x v s' m r q => h B' μ' mem' H' x v (s.trans m1 s' le) m r q
theorem EndsOf.step {K : Frag} {B B1 : Hp} {μ μ1 : List Addr} {mem mem1 : Me} {H H1 : Hp} {N : Dn} {D : Ends} (h : EndsOf K B μ mem H N D) (s : Stp B μ mem H B1 μ1 mem1 H1) (m1 : MemOk K B1 μ1 mem1 H1) (le : Le B H) : EndsOf K B1 μ1 mem1 H1 N D :=
  ⟨h.nx.step s m1 le, h.rt.step s m1 le, h.bk.step s m1 le, h.ct.step s m1 le⟩
def SS (X : Cx) (E : XK) (t : TS) (T : DTS) : Prop := ∀ B μ en m σ H (N : Dn) (D : Ends), Rel X.K B μ en m σ H → ExOf X.K E B μ m H N.xc → T en m N → EndsOf X.K B μ m H N D → t D σ H
structure DS (X : Cx) (E : XK) (st : Stmt) (T : DTS) : Prop where
  ex : ∃ t, PS X st t ∧ SS X E t T
structure DSs (X : Cx) (E : XK) (st : List Stmt) (T : DTS) : Prop where
  ex : ∃ t, PSs X st t ∧ SS X E t T
/-! ### names, constants -/
def En.get (en : En) (i : Nat) : Option W := (en[i]?).getD none
/-- a slot's value -/
def tV (i : Nat) : DTE := fun en m Q _ => match En.get en i with
  | some x => Q x m
  | none => False
def tK (d : D) : DTE := fun _ m Q _ => Q (.v d) m
section
variable {X : Cx} {E : XK}
theorem En.get_some {en : En} {i : Nat} {x : W} (h : En.get en i = some x) : en[i]? = some (some x) := by
  unfold En.get at h
  cases e : en[i]? with
  | none => rw [e] at h; cases h
  | some y =>
    rw [e] at h
    cases h
    rfl
theorem d_var {i : Nat} {x : Str} {pos : Pos} (hN : X.N[i]? = some x) (hv : Vis X.env.scope x) (hd : (x == ("__debug__" : Str)) = false := by decide) (hcd : (x == ("__classdict__" : Str)) = false := by decide) : DE X E (.Name x pos) (tV i) := by
  refine ⟨_, pe_var hN hv hd hcd, fun B μ en m σ H Q Qx QV R hx T k => ?_⟩
  unfold tV at T
  split at T
  · rename_i x e
    obtain ⟨v, hv, rv⟩ := R.env i x (En.get_some e)
    exact ⟨v, hv, k B μ m H x v .refl R rv T⟩
  · exact T.elim
theorem SE.const {v : V} {d : D} (h : ∀ B, Rv X.K B v d) : SE X E (tC v) (tK d) := fun B μ en m σ H Q Qx QV R hx T k => k B μ m H (.v d) v .refl R (h B) T
theorem d_int {i j pos} : DE X E (.Constant (.int i) j pos) (tK (.int i)) := ⟨_, pe_int, SE.const fun _ => .int i⟩
theorem d_bl {b j pos} : DE X E (.Constant (.bool b) j pos) (tK (.bl b)) := ⟨_, pe_bl, SE.const fun _ => .bl b⟩
theorem d_non {j pos} : DE X E (.Constant .none j pos) (tK .non) := ⟨_, pe_non, SE.const fun _ => .non⟩
theorem d_str {x j pos} (h : PySem.PyData.strOk x = true := by decide +kernel) : DE X E (.Constant (.str x) j pos) (tK (.str x)) := ⟨_, pe_str, SE.const fun _ => .str h⟩
/-- a module's constant -/
theorem d_glob {x : Str} {v : V} {d : D} {u : Value} {pos : Pos} (hm : X.mg x = some u) (r : RelV v u) (hr : ∀ B, Rv X.K B v d) (hg : Gl X x := by rfl) (hd : (x == ("__debug__" : Str)) = false := by decide) : DE X E (.Name x pos) (tK d) :=
  ⟨_, pe_glob hg hm r hd, SE.const hr⟩
/-- a built-in type -/
theorem d_ty {x : Str} {n : String} {pos : Pos} (hm : X.mg x = none) (hv : bootBuiltins x = some (.type n)) (hg : Gl X x := by rfl) (hn : x ≠ "__name__" := by decide) (hd : (x == ("__debug__" : Str)) = false := by decide) : DE X E (.Name x pos) (tK (.ty n)) :=
  ⟨_, pe_bltn (v := .ty n) hg hm hv rfl hn hd, SE.const fun _ => .ty n⟩
/-! ### argument lists -/
def tN : DTA := fun _ m Q _ => Q [] m
def tCn (te : DTE) (ta : DTA) : DTA := fun en m Q Qx => te en m (fun x m1 => ta en m1 (fun xs m2 => Q (x :: xs) m2) Qx) Qx
theorem da_nil : DA X E [] tN := ⟨_, pa_nil, fun B μ en m σ H Q Qx QV R hx T k => k B μ m H [] [] .refl R .nil T⟩
theorem da_cons {e : Expr} {es : List Expr} {te : DTE} {ta : DTA} (he : DE X E e te) (ha : DA X E es ta) (hs : starEach (e :: es) X.env = (false, eval e X.env) :: starEach es X.env := by rfl) : DA X E (e :: es) (tCn te ta) := by
  obtain ⟨t1, p1, k1⟩ := he.ex
  obtain ⟨t2, p2, k2⟩ := ha.ex
  refine ⟨_, pa_cons p1 p2 hs, fun B μ en m σ H Q Qx QV R hx T k => ?_⟩
  refine k1 B μ en m σ H _ Qx _ R hx T fun B1 μ1 m1 H1 x v s1 R1 r1 T1 => ?_
  refine k2 B1 μ1 en m1 σ H1 _ Qx _ R1 (hx.step s1 R1.mem R.mem.le) T1 fun B2 μ2 m2 H2 xs vs s2 R2 r2 T2 => ?_
  exact k B2 μ2 m2 H2 _ _ (s1.trans R1.mem s2 R.mem.le) R2 (.cons (r1.to s2.same s2.pre) r2) T2
/-! ### operations on data -/
/-- a two-place operation: what is asked, what comes -/
abbrev DOp := W → W → Me → (D → Prop) → Prop
def SO (X : Cx) (r : R2) (o : DOp) : Prop := ∀ B μ mem H x y v u (Q : D → Prop) (QV : VK), MemOk X.K B μ mem H → RW X.K B μ v x → RW X.K B μ u y → o x y mem Q →
  (∀ B' H' d z, Stp B μ mem H B' μ mem H' → MemOk X.K B' μ mem H' → Rv X.K B' z d → Q d → QV z H') → r v u H QV
/-- r keeps it: the result lies beside all -/
def OpD (X : Cx) (f : Value → Value → Sem Value) (o : DOp) : Prop := ∃ r : R2, OpR X f r ∧ SO X r o
def tO2 (o : DOp) (ta tb : DTE) : DTE := fun en m Q Qx => ta en m (fun x m1 => tb en m1 (fun y m2 => o x y m2 fun d => Q (.v d) m2) Qx) Qx
/-- behind a step that leaves the slots -/
theorem Rel.stp {K : Frag} {B B' : Hp} {μ μ' : List Addr} {en : En} {m m' : Me} {σ : L2.St} {H H' : Hp} (R : Rel K B μ en m σ H) (s : Stp B μ m H B' μ' m' H') (mo : MemOk K B' μ' m' H') : Rel K B' μ' en m' σ H' :=
  ⟨mo, R.len, fun i x e => let ⟨v, h, r⟩ := R.env i x e; ⟨v, h, r.to s.same s.pre⟩⟩
section
variable {a b : Expr} {ta tb : DTE} {o : DOp} {pos : Pos}
theorem SE.two {r : R2} {t1 t2 : TE} (ho : SO X r o) (k1 : SE X E t1 ta) (k2 : SE X E t2 tb) : SE X E (tOp r t1 t2) (tO2 o ta tb) := by
  intro B μ en m σ H Q Qx QV R hx T k
  refine k1 B μ en m σ H _ Qx _ R hx T fun B1 μ1 m1 H1 x v s1 R1 r1 T1 => ?_
  refine k2 B1 μ1 en m1 σ H1 _ Qx _ R1 (hx.step s1 R1.mem R.mem.le) T1 fun B2 μ2 m2 H2 y u s2 R2 r2 T2 => ?_
  refine ho B2 μ2 m2 H2 x y v u _ _ R2.mem (r1.to s2.same s2.pre) r2 T2 fun B3 H3 d z s3 m3 rz q => ?_
  exact k B3 μ2 m2 H3 (.v d) z ((s1.trans R1.mem s2 R.mem.le).trans R2.mem s3 R.mem.le) (R2.stp s3 m3) rz q
theorem d_op {op : Operator} (ho : OpD X (binaryOp op) o) (ha : DE X E a ta) (hb : DE X E b tb) : DE X E (.BinOp a op b pos) (tO2 o ta tb) := by
  obtain ⟨t1, p1, k1⟩ := ha.ex
  obtain ⟨t2, p2, k2⟩ := hb.ex
  obtain ⟨r, h1, h2⟩ := ho
  exact ⟨_, pe_op h1 p1 p2, SE.two h2 k1 k2⟩
theorem d_cmp {op : CmpOp} (ho : OpD X (compareOp op) o) (ha : DE X E a ta) (hb : DE X E b tb) (hm : behindInMarks op b = false) : DE X E (.Compare a [op] [b] pos) (tO2 o ta tb) := by
  obtain ⟨t1, p1, k1⟩ := ha.ex
  obtain ⟨t2, p2, k2⟩ := hb.ex
  obtain ⟨r, h1, h2⟩ := ho
  exact ⟨_, pe_cmpR h1 p1 p2 hm, SE.two h2 k1 k2⟩
/-- a datum that is a truth value -/
def bD : W → (Bool → Prop) → Prop
  | .v (.bl b), Q => Q b
  | _, _ => False
theorem bD_ok {K : Frag} {B : Hp} {μ : List Addr} {v : V} : ∀ {x : W} {Q : Bool → Prop}, RW K B μ v x → bD x Q → ∃ b, x = .v (.bl b) ∧ v = .bl b ∧ Q b
  | .v (.bl b), _, r, q => by cases r; exact ⟨b, rfl, rfl, q⟩
  | .v .non, _, _, q => q.elim
  | .v (.int _), _, _, q => q.elim
  | .v (.str _), _, _, q => q.elim
  | .v (.ty _), _, _, q => q.elim
  | .v (.fn _), _, _, q => q.elim
  | .v (.tup _), _, _, q => q.elim
  | .v (.lst _), _, _, q => q.elim
  | .v (.dic _), _, _, q => q.elim
  | .v (.obj _ _), _, _, q => q.elim
  | .v (.exc _ _), _, _, q => q.elim
  | .loc _, _, _, q => q.elim
/-- a test by its value -/
def tBl (te : DTE) : DTT := fun en m Q Qx => te en m (fun x m1 => bD x fun b => Q b m1) Qx
theorem SE.test {t : TE} (h : SE X E t ta) : ST X E (tTest t) (tBl ta) := by
  intro B μ en m σ H Q Qx QV R hx T k
  refine h B μ en m σ H _ Qx _ R hx T fun B' μ' m' H' x v s R' r' q => ?_
  obtain ⟨b, rfl, rfl, q⟩ := bD_ok r' q
  exact ⟨b, rfl, k B' μ' m' H' b s R' q⟩
theorem dt_cmp {op : CmpOp} (ho : OpD X (compareOp op) o) (ha : DE X E a ta) (hb : DE X E b tb) (hm : behindInMarks op b = false) : DT X E (.Compare a [op] [b] pos) (tBl (tO2 o ta tb)) := by
  obtain ⟨t1, p1, k1⟩ := ha.ex
  obtain ⟨t2, p2, k2⟩ := hb.ex
  obtain ⟨r, h1, h2⟩ := ho
  exact ⟨_, pt_cmpR h1 p1 p2 hm, (SE.two h2 k1 k2).test⟩
theorem dt_val {e : Expr} {t : DTE} (h : DE X E e t) (he : ∀ whole, isTrue e X.env whole = (do let v ← whole; standAt e.pos; holding [v] (truthy v)) := by intro _; rfl) : DT X E e (tBl t) := by
  obtain ⟨t1, p1, k1⟩ := h.ex
  exact ⟨_, pt_val p1 he, k1.test⟩
/-- a op b op2 c -/
def tCh (o o2 : DOp) (ta tb tc : DTE) : DTE := fun en m Q Qx => ta en m (fun x m1 => tb en m1 (fun y m2 => o x y m2 fun d => bD (.v d) fun c => if c = true then tc en m2 (fun z m3 => o2 y z m3 fun d2 => Q (.v d2) m3) Qx else Q (.v (.bl false)) m2) Qx) Qx
theorem SE.chain {c : Expr} {tc : DTE} {o2 : DOp} {r r' : R2} {t1 t2 t3 : TE} (ho : SO X r o) (ho2 : SO X r' o2) (k1 : SE X E t1 ta) (k2 : SE X E t2 tb) (k3 : SE X E t3 tc) : SE X E (tChain r r' t1 t2 t3) (tCh o o2 ta tb tc) := by
  intro B μ en m σ H Q Qx QV R hx T k
  refine k1 B μ en m σ H _ Qx _ R hx T fun B1 μ1 m1 H1 x v s1 R1 r1 T1 => ?_
  refine k2 B1 μ1 en m1 σ H1 _ Qx _ R1 (hx.step s1 R1.mem R.mem.le) T1 fun B2 μ2 m2 H2 y u s2 R2 r2 T2 => ?_
  have s12 := s1.trans R1.mem s2 R.mem.le
  refine ho B2 μ2 m2 H2 x y v u _ _ R2.mem (r1.to s2.same s2.pre) r2 T2 fun B3 H3 d z s3 m3 rz q => ?_
  have s13 := s12.trans R2.mem s3 R.mem.le
  obtain ⟨b, hb, rfl, q⟩ := bD_ok (μ := μ2) (x := .v d) rz q
  refine ⟨b, rfl, ?_⟩
  have R3 := R2.stp s3 m3
  cases b with
  | false => exact iteF (k B3 μ2 m2 H3 (.v (.bl false)) _ s13 R3 (.bl false) q)
  | true =>
    refine iteT (k3 B3 μ2 en m2 σ H3 _ Qx _ R3 (hx.step s13 m3 R.mem.le) q fun B4 μ4 m4 H4 y2 u2 s4 R4 r4 T4 => ?_)
    refine ho2 B4 μ4 m4 H4 y y2 u u2 _ _ R4.mem ((r2.to s3.same s3.pre).to s4.same s4.pre) r4 T4 fun B5 H5 d z s5 m5 rz q => ?_
    exact k B5 μ4 m4 H5 (.v d) z ((s13.trans R3.mem s4 R.mem.le).trans R4.mem s5 R.mem.le) (R4.stp s5 m5) rz q
theorem d_chain {c : Expr} {tc : DTE} {o2 : DOp} {op op' : CmpOp} (ho : OpD X (compareOp op) o) (ho2 : OpD X (compareOp op') o2) (ha : DE X E a ta) (hb : DE X E b tb) (hc : DE X E c tc)
    (hm : lastMarks [op, op'] [b, c] = false := by with_unfolding_all rfl) : DE X E (.Compare a [op, op'] [b, c] pos) (tCh o o2 ta tb tc) := by
  obtain ⟨t1, p1, k1⟩ := ha.ex
  obtain ⟨t2, p2, k2⟩ := hb.ex
  obtain ⟨t3, p3, k3⟩ := hc.ex
  obtain ⟨r, h1, h2⟩ := ho
  obtain ⟨r', h3, h4⟩ := ho2
  exact ⟨_, pe_chain h1 h3 p1 p2 p3 hm, SE.chain (c := c) h2 h4 k1 k2 k3⟩
theorem dt_chain {c : Expr} {tc : DTE} {o2 : DOp} {op op' : CmpOp} (ho : OpD X (compareOp op) o) (ho2 : OpD X (compareOp op') o2) (ha : DE X E a ta) (hb : DE X E b tb) (hc : DE X E c tc)
    (hm : lastMarks [op, op'] [b, c] = false := by with_unfolding_all rfl) : DT X E (.Compare a [op, op'] [b, c] pos) (tBl (tCh o o2 ta tb tc)) := by
  obtain ⟨t1, p1, k1⟩ := ha.ex
  obtain ⟨t2, p2, k2⟩ := hb.ex
  obtain ⟨t3, p3, k3⟩ := hc.ex
  obtain ⟨r, h1, h2⟩ := ho
  obtain ⟨r', h3, h4⟩ := ho2
  exact ⟨_, pt_chain h1 h3 p1 p2 p3 hm, (SE.chain (c := c) h2 h4 k1 k2 k3).test⟩
end
/-! ### and, or, not, if -/
def tAndT (t u : DTT) : DTT := fun en m Q Qx => t en m (fun c m1 => if c = true then u en m1 Q Qx else Q false m1) Qx
def tOrT (t u : DTT) : DTT := fun en m Q Qx => t en m (fun c m1 => if c = true then Q true m1 else u en m1 Q Qx) Qx
def tNotT (t : DTT) : DTT := fun en m Q Qx => t en m (fun c m1 => Q (!c) m1) Qx
section
variable {a b c : Expr} {rest : List Expr} {tA tB' : DTT} {pos : Pos}
theorem DW.dt (h : DW X E a tA) : DT X E a tA := by
  obtain ⟨t, p, k⟩ := h.ex
  exact ⟨t, p.pt, k⟩
theorem dw_and1 (ha : DT X E a tA) : DW X E (.BoolOp .And [a] pos) tA := by
  obtain ⟨t, p, k⟩ := ha.ex
  exact ⟨_, pw_and1 p, k⟩
theorem dw_or1 (ha : DT X E a tA) : DW X E (.BoolOp .Or [a] pos) tA := by
  obtain ⟨t, p, k⟩ := ha.ex
  exact ⟨_, pw_or1 p, k⟩
theorem dw_and (ha : DT X E a tA) (hb : DW X E (.BoolOp .And (b :: rest) pos) tB') : DW X E (.BoolOp .And (a :: b :: rest) pos) (tAndT tA tB') := by
  obtain ⟨t1, p1, k1⟩ := ha.ex
  obtain ⟨t2, p2, k2⟩ := hb.ex
  refine ⟨_, pw_and p1 p2, fun B μ en m σ H Q Qx QV R hx T k => ?_⟩
  refine k1 B μ en m σ H _ Qx _ R hx T fun B1 μ1 m1 H1 b s1 R1 q => ?_
  cases b with
  | true => exact iteT (k2 B1 μ1 en m1 σ H1 _ Qx _ R1 (hx.step s1 R1.mem R.mem.le) q fun B2 μ2 m2 H2 b s2 R2 q => k B2 μ2 m2 H2 b (s1.trans R1.mem s2 R.mem.le) R2 q)
  | false => exact iteF (k B1 μ1 m1 H1 false s1 R1 q)
theorem dw_or (ha : DT X E a tA) (hb : DW X E (.BoolOp .Or (b :: rest) pos) tB') : DW X E (.BoolOp .Or (a :: b :: rest) pos) (tOrT tA tB') := by
  obtain ⟨t1, p1, k1⟩ := ha.ex
  obtain ⟨t2, p2, k2⟩ := hb.ex
  refine ⟨_, pw_or p1 p2, fun B μ en m σ H Q Qx QV R hx T k => ?_⟩
  refine k1 B μ en m σ H _ Qx _ R hx T fun B1 μ1 m1 H1 b s1 R1 q => ?_
  cases b with
  | false => exact iteF (k2 B1 μ1 en m1 σ H1 _ Qx _ R1 (hx.step s1 R1.mem R.mem.le) q fun B2 μ2 m2 H2 b s2 R2 q => k B2 μ2 m2 H2 b (s1.trans R1.mem s2 R.mem.le) R2 q)
  | true => exact iteT (k B1 μ1 m1 H1 true s1 R1 q)
theorem dt_not (ha : DT X E a tA) : DT X E (.UnaryOp .Not a pos) (tNotT tA) := by
  obtain ⟨t1, p1, k1⟩ := ha.ex
  exact ⟨_, pt_not p1, fun B μ en m σ H Q Qx QV R hx T k => k1 B μ en m σ H _ Qx _ R hx T fun B1 μ1 m1 H1 b s1 R1 q => k B1 μ1 m1 H1 _ s1 R1 q⟩
def tIfE (t : DTT) (ta tb : DTE) : DTE := fun en m Q Qx => t en m (fun c m1 => if c = true then ta en m1 Q Qx else tb en m1 Q Qx) Qx
/-- going on behind a step -/
theorem SE.on {t : TE} {T : DTE} (h : SE X E t T) {B B1 : Hp} {μ μ1 : List Addr} {en : En} {m m1 : Me} {σ : L2.St} {H H1 : Hp} {Q : W → Me → Prop} {Qx : QX} {QV : VK} (R : Rel X.K B μ en m σ H) (hx : ExOf X.K E B μ m H Qx) (k : ∀ B' μ' m' H' x v, Stp B μ m H B' μ' m' H' → Rel X.K B' μ' en m' σ H' → RW X.K B' μ' v x → Q x m' → QV v H')
    (s1 : Stp B μ m H B1 μ1 m1 H1) (R1 : Rel X.K B1 μ1 en m1 σ H1) (q : T en m1 Q Qx) : t σ H1 QV :=
  h B1 μ1 en m1 σ H1 _ Qx _ R1 (hx.step s1 R1.mem R.mem.le) q fun B2 μ2 m2 H2 x v s2 R2 r q => k B2 μ2 m2 H2 x v (s1.trans R1.mem s2 R.mem.le) R2 r q
theorem d_if {ta tb : DTE} (hc : DT X E c tA) (ha : DE X E a ta) (hb : DE X E b tb) : DE X E (.IfExp c a b pos) (tIfE tA ta tb) := by
  obtain ⟨t0, p0, k0⟩ := hc.ex
  obtain ⟨t1, p1, k1⟩ := ha.ex
  obtain ⟨t2, p2, k2⟩ := hb.ex
  refine ⟨_, pe_ifExp p0 p1 p2, fun B μ en m σ H Q Qx QV R hx T k => ?_⟩
  refine k0 B μ en m σ H _ Qx _ R hx T fun B1 μ1 m1 H1 b s1 R1 q => ?_
  cases b with
  | true => exact iteT (k1.on R hx k s1 R1 q)
  | false => exact iteF (k2.on R hx k s1 R1 q)
/-- and, or of truth values, as a value -/
def tAndE (ta tb : DTE) : DTE := fun en m Q Qx => ta en m (fun x m1 => bD x fun c => if c = true then tb en m1 Q Qx else Q (.v (.bl false)) m1) Qx
def tOrE (ta tb : DTE) : DTE := fun en m Q Qx => ta en m (fun x m1 => bD x fun c => if c = true then Q (.v (.bl true)) m1 else tb en m1 Q Qx) Qx
def tNotE (ta : DTE) : DTE := fun en m Q Qx => ta en m (fun x m1 => bD x fun c => Q (.v (.bl (!c))) m1) Qx
theorem d_one {op} {t : DTE} (h : DE X E a t) : DE X E (.BoolOp op [a] pos) t := by
  obtain ⟨t1, p1, k1⟩ := h.ex
  exact ⟨_, pe_one p1, k1⟩
theorem d_and {ta tb : DTE} (ha : DE X E a ta) (hb : DE X E (.BoolOp .And (b :: rest) pos) tb) : DE X E (.BoolOp .And (a :: b :: rest) pos) (tAndE ta tb) := by
  obtain ⟨t1, p1, k1⟩ := ha.ex
  obtain ⟨t2, p2, k2⟩ := hb.ex
  refine ⟨_, pe_and p1 p2, fun B μ en m σ H Q Qx QV R hx T k => ?_⟩
  refine k1 B μ en m σ H _ Qx _ R hx T fun B1 μ1 m1 H1 x v s1 R1 r1 q => ?_
  obtain ⟨c, rfl, rfl, q⟩ := bD_ok r1 q
  refine ⟨c, rfl, ?_⟩
  cases c with
  | true => exact iteT (k2.on R hx k s1 R1 q)
  | false => exact iteF (k B1 μ1 m1 H1 _ _ s1 R1 r1 q)
theorem d_or {ta tb : DTE} (ha : DE X E a ta) (hb : DE X E (.BoolOp .Or (b :: rest) pos) tb) : DE X E (.BoolOp .Or (a :: b :: rest) pos) (tOrE ta tb) := by
  obtain ⟨t1, p1, k1⟩ := ha.ex
  obtain ⟨t2, p2, k2⟩ := hb.ex
  refine ⟨_, pe_or p1 p2, fun B μ en m σ H Q Qx QV R hx T k => ?_⟩
  refine k1 B μ en m σ H _ Qx _ R hx T fun B1 μ1 m1 H1 x v s1 R1 r1 q => ?_
  obtain ⟨c, rfl, rfl, q⟩ := bD_ok r1 q
  refine ⟨c, rfl, ?_⟩
  cases c with
  | true => exact iteT (k B1 μ1 m1 H1 _ _ s1 R1 r1 q)
  | false => exact iteF (k2.on R hx k s1 R1 q)
theorem d_not {ta : DTE} (ha : DE X E a ta) : DE X E (.UnaryOp .Not a pos) (tNotE ta) := by
  obtain ⟨t1, p1, k1⟩ := ha.ex
  refine ⟨_, pe_not p1, fun B μ en m σ H Q Qx QV R hx T k => ?_⟩
  refine k1 B μ en m σ H _ Qx _ R hx T fun B1 μ1 m1 H1 x v s1 R1 r1 q => ?_
  obtain ⟨c, rfl, rfl, q⟩ := bD_ok r1 q
  exact ⟨c, rfl, k B1 μ1 m1 H1 (.v (.bl !c)) _ s1 R1 (.bl _) q⟩
end
/-! ### statements -/
def sNx : DTS := fun en m N => N.nx en m
def sSeq (t u : DTS) : DTS := fun en m N => t en m { N with nx := fun en1 m1 => u en1 m1 N }
theorem dss_nil : DSs X E [] sNx := ⟨_, pss_nil, fun B μ en m σ H N D R hx T e => e.nx B μ en m σ H .refl R T⟩
theorem dss_one {st : Stmt} {t : DTS} (h : DS X E st t) : DSs X E [st] t := by
  obtain ⟨t1, p1, k1⟩ := h.ex
  exact ⟨_, pss_one p1, k1⟩
theorem SS.seq {t u : TS} {T U : DTS} (k1 : SS X E t T) (k2 : SS X E u U) : SS X E (tSeq t u) (sSeq T U) := by
  intro B μ en m σ H N D R hx T e
  refine k1 B μ en m σ H { N with nx := fun en1 m1 => U en1 m1 N } _ R hx T ⟨fun B1 μ1 en1 m1 σ1 H1 s1 R1 q => ?_, e.rt, e.bk, e.ct⟩
  exact k2 B1 μ1 en1 m1 σ1 H1 N D R1 (hx.step s1 R1.mem R.mem.le) q (e.step s1 R1.mem R.mem.le)
theorem dss_cons {st : Stmt} {rest : List Stmt} {t u : DTS} (h : DS X E st t) (h2 : DSs X E rest u) : DSs X E (st :: rest) (sSeq t u) := by
  obtain ⟨t1, p1, k1⟩ := h.ex
  obtain ⟨t2, p2, k2⟩ := h2.ex
  exact ⟨_, pss_cons p1 p2, k1.seq k2⟩
section
variable {pos : Pos} {e : Expr} {te : DTE}
theorem ds_pass : DS X E (.Pass pos) sNx := ⟨_, ps_pass, fun B μ en m σ H N D R hx T e => e.nx B μ en m σ H .refl R T⟩
def sBk : DTS := fun en m N => N.bk en m
def sCt : DTS := fun en m N => N.ct en m
theorem ds_break : DS X E (.Break pos) sBk := ⟨_, ps_break, fun B μ en m σ H N D R hx T e => e.bk B μ en m σ H .refl R T⟩
theorem ds_continue : DS X E (.Continue pos) sCt := ⟨_, ps_continue, fun B μ en m σ H N D R hx T e => e.ct B μ en m σ H .refl R T⟩
theorem ds_doc {x j pos pos'} : DS X E (.Expr (.Constant (.str x) j pos) pos') sNx := ⟨_, ps_doc, fun B μ en m σ H N D R hx T e => e.nx B μ en m σ H .refl R T⟩
def sExpr (te : DTE) : DTS := fun en m N => te en m (fun _ m1 => N.nx en m1) N.xc
theorem ds_expr (he : DE X E e te) (hs : swapsWith e none pos.line X.env = pure false := by rfl) : DS X E (.Expr e pos) (sExpr te) := by
  obtain ⟨t1, p1, k1⟩ := he.ex
  exact ⟨_, ps_expr p1 hs, fun B μ en m σ H N D R hx T e => k1 B μ en m σ H _ _ _ R hx T fun B1 μ1 m1 H1 x v s1 R1 r q => e.nx B1 μ1 en m1 σ H1 s1 R1 q⟩
def sRet (te : DTE) : DTS := fun en m N => te en m (fun x m1 => N.rt x m1) N.xc
theorem ds_ret (he : DE X E e te) : DS X E (.Return (some e) pos) (sRet te) := by
  obtain ⟨t1, p1, k1⟩ := he.ex
  exact ⟨_, ps_ret p1, fun B μ en m σ H N D R hx T e => k1 B μ en m σ H _ _ _ R hx T fun B1 μ1 m1 H1 x v s1 R1 r q => e.rt B1 μ1 m1 H1 x v s1 R1.mem r q⟩
def sRetN : DTS := fun _ m N => N.rt (.v .non) m
theorem ds_retN : DS X E (.Return none pos) sRetN := ⟨_, ps_retN, fun B μ en m σ H N D R hx T e => e.rt B μ m H (.v .non) _ .refl R.mem (RW.d .non) T⟩
def sIf (c : DTT) (t u : DTS) : DTS := fun en m N => c en m (fun b m1 => if b = true then t en m1 N else u en m1 N) N.xc
theorem SS.on {t : TS} {T : DTS} (h : SS X E t T) {B B1 : Hp} {μ μ1 : List Addr} {en en1 : En} {m m1 : Me} {σ σ1 : L2.St} {H H1 : Hp} {N : Dn} {D : Ends} (R : Rel X.K B μ en m σ H) (hx : ExOf X.K E B μ m H N.xc) (e : EndsOf X.K B μ m H N D)
    (s1 : Stp B μ m H B1 μ1 m1 H1) (R1 : Rel X.K B1 μ1 en1 m1 σ1 H1) (q : T en1 m1 N) : t D σ1 H1 := h B1 μ1 en1 m1 σ1 H1 N D R1 (hx.step s1 R1.mem R.mem.le) q (e.step s1 R1.mem R.mem.le)
theorem ds_if {c : Expr} {a b : List Stmt} {tc : DTT} {t u : DTS} (hc : DT X E c tc) (ha : DSs X E a t) (hb : DSs X E b u) : DS X E (.If c a b pos) (sIf tc t u) := by
  obtain ⟨t0, p0, k0⟩ := hc.ex
  obtain ⟨t1, p1, k1⟩ := ha.ex
  obtain ⟨t2, p2, k2⟩ := hb.ex
  refine ⟨_, ps_if p0 p1 p2, fun B μ en m σ H N D R hx T e => ?_⟩
  refine k0 B μ en m σ H _ _ _ R hx T fun B1 μ1 m1 H1 b s1 R1 q => ?_
  cases b with
  | true => exact iteT (k1.on R hx e s1 R1 q)
  | false => exact iteF (k2.on R hx e s1 R1 q)
def sNever : DTS := fun _ _ _ => False
theorem ds_never {st : Stmt} : DS X E st sNever := ⟨_, ps_never, fun B μ en m σ H N D R hx T e => T⟩
theorem dss_never {st : List Stmt} : DSs X E st sNever := ⟨_, pss_never, fun B μ en m σ H N D R hx T e => T⟩
/-! ### names stored -/
def sSet (i : Nat) (te : DTE) : DTS := fun en m N => te en m (fun x m1 => N.nx (List.set en i (some x)) m1) N.xc
theorem Rel.set {K : Frag} {B : Hp} {μ : List Addr} {en : En} {m : Me} {σ : L2.St} {H : Hp} {i : Nat} {x : W} {v : V} (R : Rel K B μ en m σ H) (r : RW K B μ v x) : Rel K B μ (List.set en i (some x)) m (σ.set i (some v)) H := by
  refine ⟨R.mem, by simp [R.len], fun j y e => ?_⟩
  by_cases c : j = i
  · subst c
    have l : j < en.length := by
      have z := (List.getElem?_eq_some_iff.mp e).1
      simpa using z
    rw [List.getElem?_set_self l] at e
    cases e
    exact ⟨v, List.getElem?_set_self (by rw [R.len]; exact l), r⟩
  · rw [List.getElem?_set_ne (fun z => c z.symm)] at e
    obtain ⟨u, h1, h2⟩ := R.env j y e
    exact ⟨u, by rw [List.getElem?_set_ne (fun z => c z.symm)]; exact h1, h2⟩
theorem ds_set {i : Nat} {x : Str} {pos' : Pos} (hN : X.N.Nodup) (hi : X.N[i]? = some x) (hx : Loc X.env.scope x) (he : DE X E e te) (hs : swapsWith e (some (.Name x pos')) pos.line X.env = pure false := by rfl) (hf : X.fn x = true ∨ X.env.scope.names.lookup x = some .local := by first | exact .inl rfl | exact .inr rfl | assumption) : DS X E (.Assign [.Name x pos'] e pos) (sSet i te) := by
  obtain ⟨t1, p1, k1⟩ := he.ex
  exact ⟨_, ps_set hN hi hx p1 hs hf, fun B μ en m σ H N D R hx T e => k1 B μ en m σ H _ _ _ R hx T fun B1 μ1 m1 H1 x v s1 R1 r q => e.nx B1 μ1 _ m1 _ H1 s1 (R1.set r) q⟩
end
end
end Fs
set_option Elab.async false
set_option linter.all false
set_option maxRecDepth 100000
set_option maxHeartbeats 8000000
namespace Fs
open PySem PySem.Spec PyProof.Rows L2
section
variable {X : Cx} {E : XK}
/-- the canonical reading of T -/
def lE (K : Frag) (E : XK) (T : DTE) : TE := fun σ H QV => ∃ B μ en m Q Qx, Rel K B μ en m σ H ∧ ExOf K E B μ m H Qx ∧ T en m Q Qx ∧
  (∀ B' μ' m' H' x v, Stp B μ m H B' μ' m' H' → Rel K B' μ' en m' σ H' → RW K B' μ' v x → Q x m' → QV v H')
theorem SE.lE {T : DTE} : SE X E (lE X.K E T) T := fun B μ en m σ H Q Qx _ R hx q k => ⟨B, μ, en, m, Q, Qx, R, hx, q, k⟩
theorem DE.pe {e : Expr} {T : DTE} (h : DE X E e T) : PE X e (Fs.lE X.K E T) := by
  obtain ⟨t, p, k⟩ := h.ex
  exact pe_of p fun σ H Q ⟨B, μ, en, m, Q', Qx, R, hx, q, z⟩ => k B μ en m σ H Q' Qx Q R hx q z
def lT (K : Frag) (E : XK) (T : DTT) : TT := fun σ H QV => ∃ B μ en m Q Qx, Rel K B μ en m σ H ∧ ExOf K E B μ m H Qx ∧ T en m Q Qx ∧
  (∀ B' μ' m' H' b, Stp B μ m H B' μ' m' H' → Rel K B' μ' en m' σ H' → Q b m' → QV b H')
theorem DT.pt {e : Expr} {T : DTT} (h : DT X E e T) : PT X e (lT X.K E T) := by
  obtain ⟨t, p, k⟩ := h.ex
  exact ⟨fun pins s σ H Q I ⟨B, μ, en, m, Q', Qx, R, hx, q, z⟩ => p.run pins s σ H Q I (k B μ en m σ H Q' Qx Q R hx q z)⟩
theorem ST.lT {T : DTT} : ST X E (lT X.K E T) T := fun B μ en m σ H Q Qx _ R hx q k => ⟨B, μ, en, m, Q, Qx, R, hx, q, k⟩
def lS (K : Frag) (E : XK) (T : DTS) : TS := fun D σ H => ∃ B μ en m N, Rel K B μ en m σ H ∧ ExOf K E B μ m H N.xc ∧ T en m N ∧ EndsOf K B μ m H N D
theorem DSs.pss {e : List Stmt} {T : DTS} (h : DSs X E e T) : PSs X e (lS X.K E T) := by
  obtain ⟨t, p, k⟩ := h.ex
  exact ⟨fun pins s σ H D I ⟨B, μ, en, m, N, R, hx, q, z⟩ => p.run pins s σ H D I (k B μ en m σ H N D R hx q z)⟩
theorem SS.lS {T : DTS} : SS X E (lS X.K E T) T := fun B μ en m σ H N D R hx q k => ⟨B, μ, en, m, N, R, hx, q, k⟩
theorem PE.or {e : Expr} {t u : TE} (h : PE X e t) (k : PE X e u) : PE X e (fun σ H Q => t σ H Q ∨ u σ H Q) :=
  ⟨fun pins s σ H Q I q => q.elim (h.run pins s σ H Q I) (k.run pins s σ H Q I)⟩
theorem PI.or {tg e : Expr} {t u : TI} (h : PI X tg e t) (k : PI X tg e u) : PI X tg e (fun σ H Q => t σ H Q ∨ u σ H Q) :=
  ⟨fun pins s σ H Q I q => q.elim (h.run pins s σ H Q I) (k.run pins s σ H Q I)⟩
/-! ### targets -/
abbrev DTG := W → En → Me → (En → Me → Prop) → Prop
abbrev DTGs := List W → En → Me → (En → Me → Prop) → Prop
/-- slots of is stored -/
inductive Sts (is : List Nat) : L2.St → L2.St → Prop
  | refl (σ : L2.St) : Sts is σ σ
  | set {σ σ' : L2.St} {i : Nat} {v : V} : i ∈ is → Sts is (σ.set i (some v)) σ' → Sts is σ σ'
theorem Sts.trans {is : List Nat} {a b c : L2.St} (h : Sts is a b) (k : Sts is b c) : Sts is a c := by
  induction h with
  | refl => exact k
  | set hi _ ih => exact .set hi (ih k)
theorem Sts.mono {is js : List Nat} {a b : L2.St} (h : Sts is a b) (k : ∀ i ∈ is, i ∈ js) : Sts js a b := by
  induction h with
  | refl => exact .refl _
  | set hi _ ih => exact .set (k _ hi) ih
structure DG (X : Cx) (tg : Expr) (is : List Nat) (T : DTG) : Prop where
  ex : ∃ t, PG X tg t ∧ ∀ B μ en m σ H x v (Q : En → Me → Prop) (QV : L2.St → Hp → Prop), Rel X.K B μ en m σ H → RW X.K B μ v x → T x en m Q →
    (∀ B' μ' en' m' σ' H', Stp B μ m H B' μ' m' H' → Rel X.K B' μ' en' m' σ' H' → Sts is σ σ' → Q en' m' → QV σ' H') → t v σ H QV
structure DGs (X : Cx) (tg : List Expr) (is : List Nat) (T : DTGs) : Prop where
  ex : ∃ t, PGs X tg t ∧ ∀ B μ en m σ H x v (Q : En → Me → Prop) (QV : L2.St → Hp → Prop), Rel X.K B μ en m σ H → RWs X.K B μ v x → T x en m Q →
    (∀ B' μ' en' m' σ' H', Stp B μ m H B' μ' m' H' → Rel X.K B' μ' en' m' σ' H' → Sts is σ σ' → Q en' m' → QV σ' H') → t v σ H QV
def lG (K : Frag) (is : List Nat) (T : DTG) : TG := fun v σ H QV => ∃ B μ en m x Q, Rel K B μ en m σ H ∧ RW K B μ v x ∧ T x en m Q ∧ (∀ B' μ' en' m' σ' H', Stp B μ m H B' μ' m' H' → Rel K B' μ' en' m' σ' H' → Sts is σ σ' → Q en' m' → QV σ' H')
theorem DG.pg {tg : Expr} {is : List Nat} {T : DTG} (h : DG X tg is T) : PG X tg (lG X.K is T) := by
  obtain ⟨t, p, k⟩ := h.ex
  exact ⟨fun pins s σ H v u Q I r ⟨B, μ, en, m, x, Q', R, rw, q, z⟩ => p.run pins s σ H v u Q I r (k B μ en m σ H x v Q' Q R rw q z)⟩
def gN (i : Nat) : DTG := fun x en m Q => Q (List.set en i (some x)) m
theorem dg_name {i : Nat} {x : Str} {pos : Pos} (hN : X.N.Nodup) (hi : X.N[i]? = some x) (hx : Loc X.env.scope x) (hf : X.fn x = true ∨ X.env.scope.names.lookup x = some .local := by first | exact .inl rfl | exact .inr rfl | assumption) : DG X (.Name x pos) [i] (gN i) :=
  ⟨_, pg_name hN hi hx hf, fun B μ en m σ H x v Q QV R r T k => k B μ _ m _ H .refl (R.set r) (.set List.mem_cons_self (.refl _)) T⟩
def gNl : DTGs := fun xs en m Q => match xs with
  | [] => Q en m
  | _ => False
def gCn (t : DTG) (u : DTGs) : DTGs := fun xs en m Q => match xs with
  | x :: r => t x en m fun en1 m1 => u r en1 m1 Q
  | _ => False
theorem dgs_nil : DGs X [] [] gNl := by
  refine ⟨_, pgs_nil, fun B μ en m σ H xs v Q QV R r T k => ?_⟩
  cases r with
  | nil => exact ⟨rfl, k B μ en m σ H .refl R (.refl _) T⟩
  | cons a b => exact T.elim
theorem dgs_cons {e : Expr} {es : List Expr} {is js : List Nat} {t : DTG} {u : DTGs} (h1 : DG X e is t) (h2 : DGs X es js u) (hs : (assignEach (e :: es) X.env).map (·.2) = assign e X.env :: (assignEach es X.env).map (·.2) := by rfl) : DGs X (e :: es) (is ++ js) (gCn t u) := by
  obtain ⟨t1, p1, k1⟩ := h1.ex
  obtain ⟨t2, p2, k2⟩ := h2.ex
  refine ⟨_, pgs_cons p1 p2 hs, fun B μ en m σ H xs v Q QV R r T k => ?_⟩
  cases r with
  | nil => exact T.elim
  | cons a b =>
    refine ⟨_, _, rfl, k1 B μ en m σ H _ _ _ _ R a T fun B1 μ1 en1 m1 σ1 H1 s1 R1 z1 q => ?_⟩
    refine k2 B1 μ1 en1 m1 σ1 H1 _ _ _ _ R1 (b.to s1.same s1.pre) q fun B2 μ2 en2 m2 σ2 H2 s2 R2 z2 q2 => ?_
    exact k B2 μ2 en2 m2 σ2 H2 (s1.trans R1.mem s2 R.mem.le) R2 ((z1.mono fun i h => List.mem_append_left _ h).trans (z2.mono fun i h => List.mem_append_right _ h)) q2
/-- (a, b, ..) = a tuple -/
def gTp (n : Nat) (t : DTGs) : DTG := fun x en m Q => match x with
  | .v (.tup ds) => ds.length = n ∧ t (ds.map .v) en m Q
  | _ => False
theorem RvL.ws {K : Frag} {B : Hp} {μ : List Addr} : ∀ {vs : List V} {ds : List D}, RvL K B vs ds → RWs K B μ vs (ds.map .v)
  | _, _, .nil => .nil
  | _, _, .cons h t => .cons (RW.d h) (RvL.ws t)
theorem dg_tup {es : List Expr} {k : Nat} {t : DTGs} {n : Nat} {is : List Nat} {pos : Pos} (hc : X.calm = true) (h : DGs X es is t) (hn : (assignEach es X.env).length = n := by rfl) (hst : (assignEach es X.env).findIdx? (·.1) = none := by rfl) : DG X (.Tuple es k pos) is (gTp n t) := by
  obtain ⟨t1, p1, k1⟩ := h.ex
  refine ⟨_, pg_tup hc p1 hn hst, fun B μ en m σ H x v Q QV R r T k => ?_⟩
  unfold gTp at T
  split at T
  · rename_i ds
    obtain ⟨hl, T⟩ := T
    cases r with
    | tup hs hr => exact ⟨_, _, rfl, R.mem.le.tup hs, by rw [hr.len]; exact hl, k1 B μ en m σ H _ _ _ _ R hr.ws T k⟩
  · exact T.elim
/-- target = e -/
def sAsg (te : DTE) (g : DTG) : DTS := fun en m N => te en m (fun x m1 => g x en m1 N.nx) N.xc
theorem ds_asg {tg e : Expr} {te : DTE} {g : DTG} {is : List Nat} {pos : Pos} (he : DE X E e te) (hg : DG X tg is g) (hs : swapsWithSole [tg] e pos.line X.env = pure false := by rfl) (hw : swappedStores [tg] e X.env = pure none := by rfl)
    (h1 : (assignEach [tg] X.env).map (·.2) = [assign tg X.env] := by rfl) : DS X E (.Assign [tg] e pos) (sAsg te g) := by
  obtain ⟨t1, p1, k1⟩ := he.ex
  obtain ⟨t2, p2, k2⟩ := hg.ex
  refine ⟨_, ps_asg p1 p2 hs hw h1, fun B μ en m σ H N D R hx T e => ?_⟩
  refine k1 B μ en m σ H _ _ _ R hx T fun B1 μ1 m1 H1 x v s1 R1 r q => ?_
  refine k2 B1 μ1 en m1 σ H1 x v _ _ R1 r q fun B2 μ2 en2 m2 σ2 H2 s2 R2 _ q2 => ?_
  exact e.nx B2 μ2 en2 m2 σ2 H2 (s1.trans R1.mem s2 R.mem.le) R2 q2
/-- a, b = x, y -/
def sPar (i j : Nat) (ta : DTA) : DTS := fun en m N => ta en m (fun xs m1 => match xs with
  | [x, y] => N.nx (List.set (List.set en i (some x)) j (some y)) m1
  | _ => False) N.xc
theorem ds_par {i j : Nat} {x y : Str} {a b : Expr} {ta : DTA} {px py pt pos : Pos} {kt k2 pt2} (hc : X.calm = true) (hN : X.N.Nodup) (hi : X.N[i]? = some x) (hj : X.N[j]? = some y) (hij : i ≠ j)
    (hx : X.env.scope.names.lookup x = some .local) (hy : X.env.scope.names.lookup y = some .local) (ha : DA X E [a, b] ta)
    (hw : swappedStores [.Tuple [.Name x px, .Name y py] kt pt] (.Tuple [a, b] k2 pt2) X.env = pure (some [x, y]))
    (hs : swapsWithSole [.Tuple [.Name x px, .Name y py] kt pt] (.Tuple [a, b] k2 pt2) pos.line X.env = pure false := by rfl) :
    DS X E (.Assign [.Tuple [.Name x px, .Name y py] kt pt] (.Tuple [a, b] k2 pt2) pos) (sPar i j ta) := by
  obtain ⟨t1, p1, k1⟩ := ha.ex
  refine ⟨_, ps_par hc hN hi hj hij hx hy p1 hw hs, fun B μ en m σ H N D R hx T e => ?_⟩
  refine k1 B μ en m σ H _ _ _ R hx T fun B1 μ1 m1 H1 xs vs s1 R1 r q => ?_
  cases r with
  | nil => exact q.elim
  | cons a r =>
    cases r with
    | nil => exact q.elim
    | cons b r =>
      cases r with
      | nil => exact ⟨_, _, rfl, e.nx B1 μ1 _ m1 _ H1 s1 ((R1.set a).set b) q⟩
      | cons _ _ => exact q.elim
/-! ### what is walked -/
def WalkD (K : Frag) (B0 : Hp) (J : It) (its : List D) : Prop := ∃ G Y, Walk J its.length G Y ∧ (∀ B μ mem H, Same B0 B → MemOk K B μ mem H → G H) ∧
  ∀ i B μ mem H x H', i < its.length → Same B0 B → MemOk K B μ mem H → Y i H x H' → ∃ B' d, its[i]? = some d ∧ Stp B μ mem H B' μ mem H' ∧ MemOk K B' μ mem H' ∧ Rv K B' x d
abbrev DTI := En → Me → (List D → Me → Prop) → QX → Prop
structure DI (X : Cx) (E : XK) (tg e : Expr) (T : DTI) : Prop where
  ex : ∃ t, PI X tg e t ∧ ∀ B μ en m σ H (Q : List D → Me → Prop) (Qx : QX) (QV : It → Hp → Prop), Rel X.K B μ en m σ H → ExOf X.K E B μ m H Qx → T en m Q Qx →
    (∀ B' μ' m' H' its J, Stp B μ m H B' μ' m' H' → Rel X.K B' μ' en m' σ H' → WalkD X.K B' J its → Q its m' → QV J H') → t σ H QV
/-! ### for -/
def sForL (g : DTG) (tb : DTS) : List D → DTS
  | [] => fun en m N => N.nx en m
  | d :: ds => fun en m N => g (.v d) en m fun en1 m1 => tb en1 m1 { N with nx := fun en2 m2 => sForL g tb ds en2 m2 N, ct := fun en2 m2 => sForL g tb ds en2 m2 N, bk := N.nx }
def sFor (ti : DTI) (g : DTG) (tb : DTS) : DTS := fun en m N => ti en m (fun its m1 => sForL g tb its en m1 N) N.xc
theorem ds_for {tg iter : Expr} {body : List Stmt} {ti : DTI} {g : DTG} {is : List Nat} {tb : DTS} {pos : Pos} (hp : PassesOwn (model X.prog X.w) X.A X.env X.xe) (hc : X.calm = true) (hi : DI X E tg iter ti) (hg : DG X tg is g) (hb : DSs X E body tb)
    (hs : ∀ x, foldedSetIterable iter X.env x = pure x := by intro _; rfl) : DS X E (.For tg iter body [] pos) (sFor ti g tb) := by
  obtain ⟨t0, p0, k0⟩ := hi.ex
  obtain ⟨t1, p1, k1⟩ := hg.ex
  obtain ⟨t2, p2, k2⟩ := hb.ex
  refine ⟨_, ps_for hp hc p0 p1 p2 hs, fun B μ en m σ H N D R hx T e => ?_⟩
  refine k0 B μ en m σ H _ _ _ R hx T fun B1 μ1 m1 H1 its J s1 R1 ⟨G, Y, w, hG, hY⟩ q => ?_
  refine for_it w (fun i σ' H' => ∃ B' μ' en' m', Stp B1 μ1 m1 H1 B' μ' m' H' ∧ Rel X.K B' μ' en' m' σ' H' ∧ sForL g tb (its.drop i) en' m' N) ⟨B1, μ1, en, m1, .refl, R1, q⟩ (fun i σ' H' _ ⟨B', μ', en', m', s', R', _⟩ => hG B' μ' m' H' s'.same R'.mem) (fun i x σ' H2 H3 hi ⟨B', μ', en', m', s', R', q'⟩ y => ?_) (fun σ' H' ⟨B', μ', en', m', s', R', q'⟩ => ?_)
  · obtain ⟨B3, d, hd, s3, m3, rd⟩ := hY i B' μ' m' H2 x H3 hi s'.same R'.mem y
    have s13 := s'.trans R'.mem s3 R1.mem.le
    have R3 := R'.stp s3 m3
    rw [List.drop_eq_getElem_cons hi] at q'
    have ed : its[i] = d := by
      rw [List.getElem?_eq_getElem hi] at hd
      exact Option.some.inj hd
    rw [ed] at q'
    refine k1 B3 μ' en' m' σ' H3 (.v d) x _ _ R3 rd q' fun B4 μ4 en4 m4 σ4 H4 s4 R4 _ q4 => ?_
    have s14 := s13.trans R3.mem s4 R1.mem.le
    have st := s1.trans R1.mem s14 R.mem.le
    refine k2 B4 μ4 en4 m4 σ4 H4 { N with nx := fun en2 m2 => sForL g tb (its.drop (i + 1)) en2 m2 N, ct := fun en2 m2 => sForL g tb (its.drop (i + 1)) en2 m2 N, bk := N.nx } _ R4 (hx.step st R4.mem R.mem.le) q4 ⟨?_, e.rt.step st R4.mem R.mem.le, e.nx.step st R4.mem R.mem.le, ?_⟩
    · exact fun B5 μ5 en5 m5 σ5 H5 s5 R5 q5 => ⟨B5, μ5, en5, m5, s14.trans R4.mem s5 R1.mem.le, R5, q5⟩
    · exact fun B5 μ5 en5 m5 σ5 H5 s5 R5 q5 => ⟨B5, μ5, en5, m5, s14.trans R4.mem s5 R1.mem.le, R5, q5⟩
  · rw [List.drop_length] at q'
    exact e.nx B' μ' en' m' σ' H' (s1.trans R1.mem s' R.mem.le) R' q'
/-! ### while -/
def whN (c : DTT) (tb : DTS) : Nat → DTS
  | 0 => fun _ _ _ => False
  | n + 1 => fun en m N => c en m (fun b m1 => if b = true then tb en m1 { N with nx := fun en2 m2 => whN c tb n en2 m2 N, ct := fun en2 m2 => whN c tb n en2 m2 N, bk := N.nx } else N.nx en m1) N.xc
def sWh (c : DTT) (tb : DTS) : DTS := fun en m N => ∃ n, whN c tb n en m N
theorem ds_while {c : Expr} {body : List Stmt} {tc : DTT} {tb : DTS} {pos : Pos} (hp : PassesOwn (model X.prog X.w) X.A X.env X.xe) (hc : DT X E c tc) (hb : DSs X E body tb) : DS X E (.While c body [] pos) (sWh tc tb) := by
  obtain ⟨t1, p1, k1⟩ := hc.ex
  obtain ⟨t2, p2, k2⟩ := hb.ex
  refine ⟨_, ps_while hp p1 p2, fun B μ en m σ H N D R hx T e => ?_⟩
  obtain ⟨n, T⟩ := T
  refine ⟨fun n σ' H' => ∃ B' μ' en' m', Stp B μ m H B' μ' m' H' ∧ Rel X.K B' μ' en' m' σ' H' ∧ whN tc tb n en' m' N, ⟨n, B, μ, en, m, .refl, R, T⟩, ?_⟩
  rintro n σ' H' ⟨B', μ', en', m', s', R', q'⟩
  cases n with
  | zero => exact q'.elim
  | succ n =>
    refine k1 B' μ' en' m' σ' H' _ _ _ R' (hx.step s' R'.mem R.mem.le) q' fun B1 μ1 m1 H1 b s1 R1 q => ?_
    have st := s'.trans R'.mem s1 R.mem.le
    cases b with
    | false => exact iteF (e.nx B1 μ1 en' m1 σ' H1 st R1 q)
    | true =>
      refine iteT ⟨fun σ2 H2 => ∃ B2 μ2 en2 m2, Stp B μ m H B2 μ2 m2 H2 ∧ Rel X.K B2 μ2 en2 m2 σ2 H2 ∧ whN tc tb n en2 m2 N, fun σ2 H2 h => ⟨n, Nat.lt_succ_self n, h⟩, ?_⟩
      refine k2 B1 μ1 en' m1 σ' H1 { N with nx := fun en2 m2 => whN tc tb n en2 m2 N, ct := fun en2 m2 => whN tc tb n en2 m2 N, bk := N.nx } _ R1 (hx.step st R1.mem R.mem.le) q ⟨?_, e.rt.step st R1.mem R.mem.le, e.nx.step st R1.mem R.mem.le, ?_⟩
      · exact fun B5 μ5 en5 m5 σ5 H5 s5 R5 q5 => ⟨B5, μ5, en5, m5, st.trans R1.mem s5 R.mem.le, R5, q5⟩
      · exact fun B5 μ5 en5 m5 σ5 H5 s5 R5 q5 => ⟨B5, μ5, en5, m5, st.trans R1.mem s5 R.mem.le, R5, q5⟩
end
end Fs
set_option Elab.async false
set_option linter.all false
set_option maxRecDepth 100000
set_option maxHeartbeats 8000000
namespace Fs
open PySem PySem.Spec PyProof.Rows L2
/-- a datum -/
def oD : W → (D → Prop) → Prop
  | .v d, Q => Q d
  | .loc _, _ => False
/-- data -/
def oDs : List W → (List D → Prop) → Prop
  | [], Q => Q []
  | .v d :: r, Q => oDs r fun ds => Q (d :: ds)
  | .loc _ :: _, _ => False
theorem oDs_ok {K : Frag} {B : Hp} {μ : List Addr} : ∀ {xs : List W} {vs : List V} {Q : List D → Prop}, RWs K B μ vs xs → oDs xs Q → ∃ ds, RvL K B vs ds ∧ Q ds
  | [], _, _, .nil, q => ⟨[], .nil, q⟩
  | .v d :: r, _, Q, .cons a t, q => by
    obtain ⟨ds, h, k⟩ := oDs_ok (Q := fun ds => Q (d :: ds)) t q
    exact ⟨d :: ds, .cons a h, k⟩
  | .loc _ :: _, _, _, _, q => q.elim
/-! ### a thing that is hidden beside -/
theorem MemOk.touch {K : Frag} {B : Hp} {μ : List Addr} {m : Me} {H H' : Hp} {p : Addr} (h : MemOk K B μ m H) (nb : B p = none) (nl : ¬ Live μ m p) (k : ∀ b o, b ≠ p → H b = some o → H' b = some o) : MemOk K B μ m H' := by
  refine ⟨fun a o e => k a o (fun z => by subst z; rw [nb] at e; cases e) (h.le a o e), h.len, h.off, fun n a x e1 e2 e3 => ?_, h.inj, h.ntb⟩
  have c : a ≠ p := fun z => by
    subst z
    exact nl ⟨n, x, e1, e2, e3⟩
  exact OO.to (Same.refl _) (List.prefix_refl _) (fun o z => k a o c z) (h.at_ n a x e1 e2 e3)
theorem Stp.touch {B B' : Hp} {μ μ' : List Addr} {m m' : Me} {H H' H'' : Hp} {p : Addr} (h : Stp B μ m H B' μ' m' H') (np : H p = none) (k : ∀ b o, b ≠ p → H' b = some o → H'' b = some o) : Stp B μ m H B' μ' m' H'' :=
  ⟨h.same, h.pre, fun a o n e t => k a o (ne_of_none e np) (h.out a o n e t), h.hid⟩
theorem MemOk.none {K : Frag} {B : Hp} {μ : List Addr} {m : Me} {H : Hp} (h : MemOk K B μ m H) {p : Addr} (np : H p = none) : B p = none ∧ ¬ Live μ m p := by
  refine ⟨?_, fun l => h.there l np⟩
  cases e : B p with
  | none => rfl
  | some u => exact absurd np (h.le.some e)
/-! ### slots wiped -/
def wipeE (en : En) : List Nat → En
  | [] => en
  | v :: vs => (wipeE en vs).set v none
theorem wipeE_len (en : En) : ∀ vs, (wipeE en vs).length = en.length
  | [] => rfl
  | v :: vs => by unfold wipeE; rw [List.length_set, wipeE_len en vs]
theorem wipeE_at (en : En) (σ : L2.St) (K : Frag) (B : Hp) (μ : List Addr) (h : ∀ (i : Nat) (x : W), en[i]? = some (some x) → ∃ v, σ[i]? = some (some v) ∧ RW K B μ v x) : ∀ vs (i : Nat) (x : W), (wipeE en vs)[i]? = some (some x) → ∃ v, (wipe σ vs)[i]? = some (some v) ∧ RW K B μ v x
  | [], i, x, e => h i x e
  | v :: vs, i, x, e => by
    unfold wipeE at e
    unfold wipe
    by_cases c : v = i
    · subst c
      have l : v < (wipeE en vs).length := by
        have z := (List.getElem?_eq_some_iff.mp e).1
        simpa using z
      rw [List.getElem?_set_self l] at e
      cases e
    · rw [List.getElem?_set_ne c] at e ⊢
      exact wipeE_at en σ K B μ h vs i x e
theorem Rel.wipe {K : Frag} {B : Hp} {μ : List Addr} {en : En} {m : Me} {σ : L2.St} {H : Hp} (R : Rel K B μ en m σ H) (vs : List Nat) : Rel K B μ (wipeE en vs) m (L2.wipe σ vs) H :=
  ⟨R.mem, by rw [wipe_length, wipeE_len, R.len], wipeE_at en σ K B μ R.env vs⟩
theorem wipe_set_mem {σ : L2.St} {i : Nat} {x : V} : ∀ {vs : List Nat}, i ∈ vs → wipe (σ.set i (some x)) vs = wipe σ vs
  | v :: vs, h => by
    unfold wipe
    by_cases c : i ∈ vs
    · rw [wipe_set_mem c]
    · have e : i = v := (List.mem_cons.mp h).resolve_right c
      subst e
      rw [wipe_set_out c, List.set_set]
where
  wipe_set_out {σ : L2.St} {i : Nat} {x : V} : ∀ {vs : List Nat}, i ∉ vs → wipe (σ.set i (some x)) vs = (wipe σ vs).set i (some x)
    | [], _ => rfl
    | v :: vs, h => by
      unfold wipe
      rw [wipe_set_out (fun z => h (List.mem_cons_of_mem _ z))]
      exact List.set_comm _ _ (fun z => h (by rw [z]; exact List.mem_cons_self))
theorem Sts.wipe {is vs : List Nat} {a b : L2.St} (h : Sts is a b) (k : ∀ i ∈ is, i ∈ vs) : L2.wipe b vs = L2.wipe a vs := by
  induction h with
  | refl => rfl
  | set hi _ ih => rw [ih, wipe_set_mem (k _ hi)]
theorem wipe_none_out {σ : L2.St} {i : Nat} : ∀ {vs : List Nat}, wipe (σ.set i none) vs = (wipe σ vs).set i none
  | [] => rfl
  | v :: vs => by
    unfold wipe
    rw [wipe_none_out]
    by_cases c : i = v
    · subst c
      rfl
    · exact List.set_comm _ _ c
theorem wipe_wipe (σ : L2.St) : ∀ vs : List Nat, wipe (wipe σ vs) vs = wipe σ vs
  | [] => rfl
  | v :: vs => by
    show (wipe ((wipe σ vs).set v none) vs).set v none = (wipe σ vs).set v none
    rw [wipe_none_out, wipe_wipe σ vs, List.set_set]
/-! ### comprehensions -/
structure DTs (X : Cx) (E : XK) (es : List Expr) (T : DTT) : Prop where
  ex : ∃ t, PTs X es t ∧ ST X E t T
def tYs : DTT := fun _ m Q _ => Q true m
section
variable {X : Cx} {E : XK}
theorem dts_nil : DTs X E [] tYs := ⟨_, pts_nil, fun B μ en m σ H Q Qx QV R hx T k => k B μ m H true .refl R T⟩
theorem dts_one {c : Expr} {t : DTT} (h : DT X E c t) : DTs X E [c] t := by
  obtain ⟨t1, p1, k1⟩ := h.ex
  exact ⟨_, pts_one p1, k1⟩
theorem DTs.pts {es : List Expr} {T : DTT} (h : DTs X E es T) : PTs X es (lT X.K E T) := by
  obtain ⟨t, p, k⟩ := h.ex
  exact ⟨fun pins s σ H Q I ⟨B, μ, en, m, Q', Qx, R, hx, q, z⟩ => p.run pins s σ H Q I (k B μ en m σ H Q' Qx Q R hx q z)⟩
def noX : QX := fun _ _ => False
theorem ExOf.no {K : Frag} {E : XK} {B : Hp} {μ : List Addr} {m : Me} {H : Hp} : ExOf K E B μ m H noX := fun _ _ _ _ _ _ _ _ _ _ _ q => q.elim
def lcL (g : DTG) (tt : DTT) (te : DTE) (en : En) : List D → List D → Me → (W → Me → Prop) → Prop
  | [], acc, m, Q => Q (.v (.lst acc)) m
  | d :: ds, acc, m, Q => g (.v d) en m fun en1 m1 => tt en1 m1 (fun b m2 => if b = true then te en1 m2 (fun y m3 => oD y fun dy => acc.length < sizeLine ∧ lcL g tt te en ds (acc ++ [dy]) m3 Q) noX else lcL g tt te en ds acc m2 Q) noX
def tLcD (ti : DTI) (g : DTG) (tt : DTT) (te : DTE) (vs : List Nat) : DTE := fun en m Q Qx => ti en m (fun its m1 => lcL g tt te (wipeE en vs) its [] m1 Q) Qx
theorem d_lc {elt tg iter : Expr} {ifs : List Expr} {scope : Scope} {own : List (Str × Nat)} {is : List Nat} {pos : Pos} {ti : DTI} {g : DTG} {tt : DTT} {te : DTE} (hc : X.calm = true) (hN : X.N.Nodup) (hi : DI X E tg iter ti) (ok : BlkOk X.N X.env.scope scope own)
    (hg : ∀ (s : Shared) (H : Hp) (C : Addr) (cl : List (Str × Addr)) (fp : List Addr), DG (X.blk s H scope (compEnvC scope cl C X.env) fp) tg is g) (ht : ∀ (s : Shared) (H : Hp) (C : Addr) (cl : List (Str × Addr)) (fp : List Addr), DTs (X.blk s H scope (compEnvC scope cl C X.env) fp) E0 ifs tt)
    (he : ∀ (s : Shared) (H : Hp) (C : Addr) (cl : List (Str × Addr)) (fp : List Addr), DE (X.blk s H scope (compEnvC scope cl C X.env) fp) E0 elt te) (hs : ∀ x, foldedSetIterable iter X.env x = pure x := by intro _; rfl) (hv : is.all (fun i => (own.map (·.2)).contains i) = true := by rfl) :
    DE X E (.ListComp elt [⟨tg, iter, ifs, 0⟩] scope pos) (tLcD ti g tt te (own.map (·.2))) := by
  obtain ⟨t0, p0, k0⟩ := hi.ex
  have hv' : ∀ i ∈ is, i ∈ own.map (·.2) := fun i h => List.contains_iff_mem.mp (List.all_eq_true.mp hv i h)
  refine ⟨_, pe_lc hc hN p0 ok (g := lG X.K is g) (tt := lT X.K E0 tt) (te := lE X.K E0 te) (fun s H C cl fp => (hg s H C cl fp).pg) (fun s H C cl fp => (ht s H C cl fp).pts) (fun s H C cl fp => (he s H C cl fp).pe) hs, fun B μ en m σ H Q Qx QV R hx T k => ?_⟩
  refine k0 B μ en m σ H _ Qx _ R hx T fun B1 μ1 m1 H1 its J s1 R1 ⟨G, Y, w, hG, hY⟩ q => ?_
  intro L nL
  obtain ⟨nb1, nl1⟩ := R1.mem.none nL
  have Rw := R1.wipe (own.map (·.2))
  generalize hen : wipeE en (own.map (·.2)) = enw at q Rw
  refine lc_it w (fun i H' => ∃ B' μ' m' vs acc, Stp B1 μ1 m1 H1 B' μ' m' H' ∧ MemOk X.K B' μ' m' H' ∧ B' L = none ∧ ¬ Live μ' m' L ∧ H' L = some (.lst vs) ∧ RvL X.K B' vs acc ∧ lcL g tt te enw (its.drop i) acc m' Q) ?_ (fun i H' _ ⟨B', μ', m', vs, acc, s', M', _⟩ => hG B' μ' m' H' s'.same M') (fun i x H2 H3 hi ⟨B', μ', m', vs, acc, s', M', nb, nl, hL, rv, q'⟩ y => ?_) (fun H' ⟨B', μ', m', vs, acc, s', M', nb, nl, hL, rv, q'⟩ => ?_)
  · have kp : ∀ b o, b ≠ L → H1 b = some o → upd H1 L (.lst []) b = some o := fun b o c e => by rw [upd_ne c]; exact e
    exact ⟨B1, μ1, m1, [], [], Stp.refl.touch nL kp, R1.mem.touch nb1 nl1 kp, nb1, nl1, upd_same, .nil, q⟩
  · obtain ⟨B3, d, hd, s3, m3, rd⟩ := hY i B' μ' m' H2 x H3 hi s'.same M' y
    have s13 := s'.trans M' s3 R1.mem.le
    obtain ⟨nb3, nl3⟩ := s3.hid L _ nl hL ⟨(fun _ z => nomatch z), (fun _ z => nomatch z)⟩ nb
    have hL3 := s3.out L _ nl hL (fun _ z => nomatch z)
    have R3 : Rel X.K B3 μ' enw m' (L2.wipe σ (own.map (·.2))) H3 := Rw.stp s13 m3
    rw [List.drop_eq_getElem_cons hi] at q'
    have ed : its[i] = d := by
      rw [List.getElem?_eq_getElem hi] at hd
      exact Option.some.inj hd
    rw [ed] at q'
    refine ⟨B3, μ', enw, m', .v d, _, R3, rd, q', fun B4 μ4 en4 m4 σ4 H4 s4 R4 st4 q4 => ⟨by rw [st4.wipe hv', wipe_wipe], ?_⟩⟩
    have s14 := s13.trans m3 s4 R1.mem.le
    obtain ⟨nb4, nl4⟩ := s4.hid L _ nl3 hL3 ⟨(fun _ z => nomatch z), (fun _ z => nomatch z)⟩ nb3
    have hL4 := s4.out L _ nl3 hL3 (fun _ z => nomatch z)
    refine ⟨B4, μ4, en4, m4, _, noX, R4, ExOf.no, q4, fun B5 μ5 m5 H5 b s5 R5 q5 => ?_⟩
    have s15 := s14.trans R4.mem s5 R1.mem.le
    obtain ⟨nb5, nl5⟩ := s5.hid L _ nl4 hL4 ⟨(fun _ z => nomatch z), (fun _ z => nomatch z)⟩ nb4
    have hL5 := s5.out L _ nl4 hL4 (fun _ z => nomatch z)
    have rv5 := rv.to ((s3.same.trans s4.same).trans s5.same)
    cases b with
    | false => exact iteF ⟨B5, μ5, m5, vs, acc, s15, R5.mem, nb5, nl5, hL5, rv5, q5⟩
    | true =>
      refine iteT ⟨B5, μ5, en4, m5, _, noX, R5, ExOf.no, q5, fun B6 μ6 m6 H6 y v s6 R6 r6 q6 => ?_⟩
      cases y with
      | loc n => exact q6.elim
      | v dy =>
        obtain ⟨lz, q6⟩ := q6
        have s16 := s15.trans R5.mem s6 R1.mem.le
        obtain ⟨nb6, nl6⟩ := s6.hid L _ nl5 hL5 ⟨(fun _ z => nomatch z), (fun _ z => nomatch z)⟩ nb5
        have hL6 := s6.out L _ nl5 hL5 (fun _ z => nomatch z)
        have rv6 := rv5.to s6.same
        have kp : ∀ b o, b ≠ L → H6 b = some o → upd H6 L (.lst (vs ++ [v])) b = some o := fun b o c e => by rw [upd_ne c]; exact e
        exact ⟨vs, hL6, by rw [rv6.len]; exact lz, B6, μ6, m6, vs ++ [v], acc ++ [dy], s16.touch nL kp, R6.mem.touch nb6 nl6 kp, nb6, nl6, upd_same, rv6.append (.one r6), q6⟩
  · rw [List.drop_length] at q'
    -- the new list becomes a datum
    have kp : ∀ b o, b ≠ L → H' b = some o → H' b = some o := fun _ _ _ e => e
    have same : Same B' (upd B' L (.lst vs)) := same_new nb _
    have M2 : MemOk X.K (upd B' L (.lst vs)) μ' m' H' := by
      refine ⟨fun a o e => ?_, M'.len, fun a l => ?_, fun n a x e1 e2 e3 => OO.to same (List.prefix_refl _) (fun _ z => z) (M'.at_ n a x e1 e2 e3), M'.inj, fun a ps e => by
        by_cases c : a = L
        · subst c
          rw [upd_same] at e
          cases e
        · rw [upd_ne c] at e
          exact M'.ntb a ps e⟩
      · by_cases c : a = L
        · subst c
          rw [upd_same] at e
          cases e
          exact hL
        · rw [upd_ne c] at e
          exact M'.le a o e
      · have c : a ≠ L := fun z => by
          subst z
          exact nl l
        rw [upd_ne c]
        exact M'.off a l
    have st : Stp B1 μ1 m1 H1 (upd B' L (.lst vs)) μ' m' H' := ⟨s'.same.trans same, s'.pre, s'.out, fun a o n e x b => by
      obtain ⟨h1, h2⟩ := s'.hid a o n e x b
      refine ⟨?_, h2⟩
      rw [upd_ne (ne_of_none e nL)]
      exact h1⟩
    have stt := s1.trans R1.mem st R.mem.le
    exact k _ μ' m' H' _ _ stt (R.stp stt M2) (RW.d (.lst upd_same (rv.to same))) q'
end
/-! ### displays -/
section
variable {X : Cx} {E : XK} {es : List Expr} {ta : DTA} {pos : Pos}
def tTu (ta : DTA) : DTE := fun en m Q Qx => ta en m (fun xs m1 => oDs xs fun ds => ds.length ≤ sizeLine ∧ Q (.v (.tup ds)) m1) Qx
def tLs (ta : DTA) : DTE := fun en m Q Qx => ta en m (fun xs m1 => oDs xs fun ds => ds.length ≤ sizeLine ∧ Q (.v (.lst ds)) m1) Qx
theorem d_tup {x1 : Nat} (h : DA X E es ta) : DE X E (.Tuple es x1 pos) (tTu ta) := by
  obtain ⟨t1, p1, k1⟩ := h.ex
  refine ⟨_, pe_tup p1, fun B μ en m σ H Q Qx QV R hx T k => ?_⟩
  refine k1 B μ en m σ H _ Qx _ R hx T fun B1 μ1 m1 H1 xs vs s1 R1 r q => ?_
  obtain ⟨ds, rl, hz, q⟩ := oDs_ok r q
  refine ⟨by rw [rl.len]; exact hz, fun p np => ?_⟩
  have sl := Stp.laid R1.mem np (o := .tup vs)
  have st := s1.trans R1.mem sl R.mem.le
  exact k _ μ1 m1 _ _ _ st (R.stp st (R1.mem.laid np)) (RW.d (.tup (.inl upd_same) (rl.to sl.same))) q
theorem d_lst (h : DA X E es ta) : DE X E (.List es pos) (tLs ta) := by
  obtain ⟨t1, p1, k1⟩ := h.ex
  refine ⟨_, pe_lst p1, fun B μ en m σ H Q Qx QV R hx T k => ?_⟩
  refine k1 B μ en m σ H _ Qx _ R hx T fun B1 μ1 m1 H1 xs vs s1 R1 r q => ?_
  obtain ⟨ds, rl, hz, q⟩ := oDs_ok r q
  refine ⟨by rw [rl.len]; exact hz, fun p np => ?_⟩
  have sl := Stp.laid R1.mem np (o := .lst vs)
  have st := s1.trans R1.mem sl R.mem.le
  exact k _ μ1 m1 _ _ _ st (R.stp st (R1.mem.laid np)) (RW.d (.lst upd_same (rl.to sl.same))) q
/-- a list that will be changed -/
def tLsO (ta : DTA) : DTE := fun en m Q Qx => ta en m (fun xs m1 => oDs xs fun ds => ds.length ≤ sizeLine ∧ Q (.loc m1.length) (m1 ++ [.lst ds])) Qx
theorem d_lstO (h : DA X E es ta) : DE X E (.List es pos) (tLsO ta) := by
  obtain ⟨t1, p1, k1⟩ := h.ex
  refine ⟨_, pe_lst p1, fun B μ en m σ H Q Qx QV R hx T k => ?_⟩
  refine k1 B μ en m σ H _ Qx _ R hx T fun B1 μ1 m1 H1 xs vs s1 R1 r q => ?_
  obtain ⟨ds, rl, hz, q⟩ := oDs_ok r q
  refine ⟨by rw [rl.len]; exact hz, fun p np => ?_⟩
  have kp : ∀ a o, a ≠ p → H1 a = some o → upd H1 p (.lst vs) a = some o := fun a o c e => by rw [upd_ne c]; exact e
  have sl := Stp.push R1.mem np (m := .lst ds) kp
  have st := s1.trans R1.mem sl R.mem.le
  have mo := R1.mem.push np (m := .lst ds) (fun a o e => kp a o (ne_of_none (R1.mem.le a o e) np) (R1.mem.le a o e)) kp ⟨vs, upd_same, rl⟩
  refine k _ _ _ _ (.loc m1.length) _ st (R.stp st mo) ⟨p, rfl, ?_⟩ q
  rw [← R1.mem.len]
  simp
/-- x.append(e): x an own list -/
def appD : W → List W → Me → (Me → Prop) → Prop
  | .loc n, [.v d], m, Q => match m[n]? with
    | some (.lst ds) => ds.length < sizeLine ∧ Q (m.set n (.lst (ds ++ [d])))
    | _ => False
  | _, _, _, _ => False
def tApp (to : DTE) (ta : DTA) : DTE := fun en m Q Qx => to en m (fun x m1 => ta en m1 (fun xs m2 => appD x xs m2 fun m3 => Q (.v .non) m3) Qx) Qx
/-! ### calls -/
abbrev SpD := List W → Me → (W → Me → Prop) → QX → Prop
/-- the promise of a def by data -/
def lift (K : Frag) (sp : SpD) : Sp := fun vs H Q E => ∃ B μ m ws Qd Qx, MemOk K B μ m H ∧ RWs K B μ vs ws ∧ sp ws m Qd Qx ∧ ExOf K E B μ m H Qx ∧
  ∀ B' μ' m' H' x v, Stp B μ m H B' μ' m' H' → MemOk K B' μ' m' H' → RW K B' μ' v x → Qd x m' → Q v H'
def tCal (sp : SpD) (ta : DTA) : DTE := fun en m Q Qx => ta en m (fun xs m1 => sp xs m1 Q Qx) Qx
section
variable {CX : CXT} {k : Nat} {x : Str} {ps : List Str} {sp : SpD} {e : Expr} {p : Pos}
theorem SA.call {t : TA} {dv : List V} {dw : List D} (h : SA X E t ta) (hd : ∀ B, RvL X.K B dv dw) : SE X E (tCall (lift X.K sp) dv E t) (tCal (fun ws => sp (ws ++ dw.map .v)) ta) := by
  intro B μ en m σ H Q Qx QV R hx T k
  refine h B μ en m σ H _ Qx _ R hx T fun B1 μ1 m1 H1 xs vs s1 R1 r q => ?_
  have ra : RWs X.K B1 μ1 (vs ++ dv) (xs ++ dw.map .v) := by
    clear q
    induction r with
    | nil => exact (hd B1).ws
    | cons a _ ih => exact .cons a ih
  refine ⟨B1, μ1, m1, _, _, Qx, R1.mem, ra, q, hx.step s1 R1.mem R.mem.le, fun B2 μ2 m2 H2 y v s2 m2' r2 q2 => ?_⟩
  have st := s1.trans R1.mem s2 R.mem.le
  exact k B2 μ2 m2 H2 y v st (R.stp st m2') r2 q2
theorem SE.imp {t : TE} {T T' : DTE} (h : SE X E t T) (k : ∀ en m Q Qx, T' en m Q Qx → T en m Q Qx) : SE X E t T' := fun B μ en m σ H Q Qx QV R hx q z => h B μ en m σ H Q Qx QV R hx (k _ _ _ _ q) z
theorem d_call (G : Gd X.prog X.w X.K X.mg X.base CX k x ps (lift X.K sp)) (hr : Room k X.A) (hx : Passes CX X E) (ha : DA X E (e :: es) ta)
    (hg : Gl X x := by rfl) (hdb : (x == ("__debug__" : Str)) = false := by decide) (he : starEach (e :: es) X.env = (false, eval e X.env) :: starEach es X.env := by rfl) (hpl : (backTo pos (starEach es X.env)).any (·.1) = false := by rfl) :
    DE X E (.Call (.Name x p) (e :: es) [] pos) (tCal sp ta) := by
  obtain ⟨t1, p1, k1⟩ := ha.ex
  refine ⟨_, pe_g G hr hx p1 hg hdb he hpl, (SA.call (dv := []) (dw := []) k1 fun _ => .nil).imp fun en m Q Qx q => ?_⟩
  unfold tCal at q ⊢
  simpa using q
end
end
end Fs
set_option Elab.async false
set_option linter.all false
set_option maxRecDepth 100000
set_option maxHeartbeats 8000000
namespace Fs
open PySem PySem.Spec PyProof.Rows L2
def startE (N : List Str) (ws : List W) : En := ws.map some ++ List.replicate (N.length - ws.length) none
/-- a def's end: own objects that it made are gone -/
def rtD (m : Me) (Q : W → Me → Prop) : W → Me → Prop := fun x m' => oD x fun d => m <+: m' ∧ Q (.v d) m
def xcD (m : Me) (Qx : QX) : QX := fun er m' => m <+: m' ∧ Qx er m
def defN (m : Me) (Q : W → Me → Prop) (Qx : QX) : Dn := ⟨fun _ m' => rtD m Q (.v .non) m', rtD m Q, fun _ _ => False, fun _ _ => False, xcD m Qx⟩
/-- .. where they stay -/
def defO (Q : W → Me → Prop) (Qx : QX) : Dn := ⟨fun _ m' => Q (.v .non) m', Q, fun _ _ => False, fun _ _ => False, Qx⟩
theorem startE_rel {K : Frag} {B : Hp} {μ : List Addr} {m : Me} {H : Hp} {N : List Str} {vs : List V} {ws : List W} (M : MemOk K B μ m H) (r : RWs K B μ vs ws) : Rel K B μ (startE N ws) m (L2.start N vs) H := by
  refine ⟨M, by simp [startE, L2.start, r.len], fun i x e => ?_⟩
  unfold startE at e
  unfold L2.start
  have at_ : ∀ {vs : List V} {ws : List W} {i : Nat} {x : W}, RWs K B μ vs ws → ws[i]? = some x → ∃ v, vs[i]? = some v ∧ RW K B μ v x := by
    intro vs ws i x r
    induction r generalizing i with
    | nil => intro e; simp at e
    | cons a _ ih =>
      intro e
      cases i with
      | zero => simp at e; subst e; exact ⟨_, rfl, a⟩
      | succ i =>
        obtain ⟨v, h1, h2⟩ := ih (i := i) (by simpa using e)
        exact ⟨v, by simpa using h1, h2⟩
  by_cases c : i < ws.length
  · rw [List.getElem?_append_left (by simpa using c), List.getElem?_map] at e
    obtain ⟨w, hw, ew⟩ : ∃ w, ws[i]? = some w ∧ some w = some x := by
      cases q : ws[i]? with
      | none => rw [q] at e; cases e
      | some w => rw [q] at e; exact ⟨w, rfl, Option.some.inj e⟩
    cases ew
    obtain ⟨v, h1, h2⟩ := at_ r hw
    refine ⟨v, ?_, h2⟩
    rw [List.getElem?_append_left (by rw [List.length_map, r.len]; exact c), List.getElem?_map, h1]
    rfl
  · rw [List.getElem?_append_right (by simpa using Nat.le_of_not_lt c)] at e
    have z := List.mem_of_getElem? e
    rw [List.mem_replicate] at z
    cases z.2
section
variable {P : Program} {w : World} {K : Frag} {mg : Str → Option Value} {base : Heap} {x : Str} {st : Stmt} {N ps : List Str} {k : Nat} {sp : SpD}
theorem SS.def_ {X : Cx} {E : XK} {t : TS} {T : DTS} (h : SS X E t T) {vs : List V} {H : Hp} {Q : VK} (hT : ∀ ws m Qd Qx, sp ws m Qd Qx → T (startE N ws) m (defN m Qd Qx)) (q : lift X.K sp vs H Q E) : t { nx := fun _ H' => Q .non H', rt := Q } (L2.start N vs) H := by
  obtain ⟨B, μ, m, ws, Qd, Qx, M, r, hs, hx, hq⟩ := q
  have fin : ∀ B' μ' m' H' x v, Stp B μ m H B' μ' m' H' → MemOk X.K B' μ' m' H' → RW X.K B' μ' v x → rtD m Qd x m' → Q v H' := fun B' μ' m' H' x v s M' r q => by
    cases x with
    | loc n => exact q.elim
    | v d =>
      obtain ⟨⟨more, rfl⟩, q⟩ := q
      exact hq B' μ m H' (.v d) v s.drop (M.drop s.pre M') r q
  refine h B μ (startE N ws) m (L2.start N vs) H (defN m Qd Qx) _ (startE_rel M r) (fun B' μ' m' H' er dd fvs s M' hd rf q => ?_) (hT ws m Qd Qx hs) ⟨fun B' μ' en' m' σ' H' s R' q => ?_, fin, fun _ _ _ _ _ _ _ _ q => q.elim, fun _ _ _ _ _ _ _ _ q => q.elim⟩
  · obtain ⟨⟨more, rfl⟩, q⟩ := q
    exact hx B' μ m H' er dd fvs s.drop (M.drop s.pre M') hd rf q
  · exact fin B' μ' m' H' (.v .non) .non s R'.mem (RW.d .non) q
theorem SS.defo {X : Cx} {E : XK} {t : TS} {T : DTS} (h : SS X E t T) {vs : List V} {H : Hp} {Q : VK} (hT : ∀ ws m Qd Qx, sp ws m Qd Qx → T (startE N ws) m (defO Qd Qx)) (q : lift X.K sp vs H Q E) : t { nx := fun _ H' => Q .non H', rt := Q } (L2.start N vs) H := by
  obtain ⟨B, μ, m, ws, Qd, Qx, M, r, hs, hx, hq⟩ := q
  refine h B μ (startE N ws) m (L2.start N vs) H (defO Qd Qx) _ (startE_rel M r) hx (hT ws m Qd Qx hs) ⟨fun B' μ' en' m' σ' H' s R' q => ?_, fun B' μ' m' H' x v s M' r q => hq B' μ' m' H' x v s M' r q, fun _ _ _ _ _ _ _ _ q => q.elim, fun _ _ _ _ _ _ _ _ q => q.elim⟩
  exact hq B' μ' m' H' (.v .non) .non s R'.mem (RW.d .non) q
/-- THE RULE for a def -/
theorem fo_d (S : FnScope N ps (defScope st)) (ar : ∀ ws m Q Qx, sp ws m Q Qx → ws.length = ps.length)
    (hbody : ∀ (f : Addr) (cdv : Value) (A : Around) (outer : List Env) (s : Shared) (H : Hp) (E : XK), Room k (A.deeper (envOfC x (defScope st) s.heap.objs.size f cdv)) →
      ∃ T, DSs (cxOf (L2.CX P w) P w K mg base N x (defScope st) f cdv A outer s H E) E (defBody st) T ∧ ∀ ws m Qd Qx, sp ws m Qd Qx → T (startE N ws) m (defN m Qd Qx))
    (dfl : List V) (kwd : List (Str × V)) : Fo P w K mg base (L2.CX P w) (k + 1) x st dfl kwd ps (lift K sp) := by
  refine fo_okX S (fun vs H Q E ⟨B, μ, m, ws, Qd, Qx, M, r, hs, _⟩ => by rw [r.len]; exact ar _ _ _ _ hs) fun f cdv A outer s H vs Q E hr h => ?_
  obtain ⟨T, hd, hT⟩ := hbody f cdv A outer s H E hr
  obtain ⟨t, hp, hs⟩ := hd.ex
  exact ⟨t, hp, hs.def_ hT h⟩
theorem fo_o (S : FnScope N ps (defScope st)) (ar : ∀ ws m Q Qx, sp ws m Q Qx → ws.length = ps.length)
    (hbody : ∀ (f : Addr) (cdv : Value) (A : Around) (outer : List Env) (s : Shared) (H : Hp) (E : XK), Room k (A.deeper (envOfC x (defScope st) s.heap.objs.size f cdv)) →
      ∃ T, DSs (cxOf (L2.CX P w) P w K mg base N x (defScope st) f cdv A outer s H E) E (defBody st) T ∧ ∀ ws m Qd Qx, sp ws m Qd Qx → T (startE N ws) m (defO Qd Qx))
    (dfl : List V) (kwd : List (Str × V)) : Fo P w K mg base (L2.CX P w) (k + 1) x st dfl kwd ps (lift K sp) := by
  refine fo_okX S (fun vs H Q E ⟨B, μ, m, ws, Qd, Qx, M, r, hs, _⟩ => by rw [r.len]; exact ar _ _ _ _ hs) fun f cdv A outer s H vs Q E hr h => ?_
  obtain ⟨T, hd, hT⟩ := hbody f cdv A outer s H E hr
  obtain ⟨t, hp, hs⟩ := hd.ex
  exact ⟨t, hp, hs.defo hT h⟩
end
theorem passF {X : Cx} : Passes (L2.CX X.prog X.w) X E0 := fun pins σ H s e s' I ⟨a, B, H', cls, d, _, _, _, _, _, _, _, q⟩ => q.elim
/-! ### own objects become data -/
def sbs (n : Nat) (d : D) : Option W → Option W
  | some (.loc k) => if k = n then some (.v d) else some (.loc k)
  | o => o
/-- the own list at n -/
def lstAt (m : Me) (n : Nat) (Q : List D → Prop) : Prop := match m[n]? with
  | some (.lst ds) => Q ds
  | _ => False
theorem lstAt_ok {m : Me} {n : Nat} {Q : List D → Prop} (h : lstAt m n Q) : ∃ ds, m[n]? = some (.lst ds) ∧ Q ds := by
  unfold lstAt at h
  split at h
  · rename_i ds e
    exact ⟨ds, e, h⟩
  · exact h.elim
/-- the slot i's own list becomes a datum -/
def sFz (i : Nat) (u : DTS) : DTS := fun en m N => match En.get en i with
  | some (.loc n) => lstAt m n fun ds => u (en.map (sbs n (.lst ds))) (m.set n .gone) N
  | some (.v _) => u en m N
  | none => False
section
variable {X : Cx} {E : XK}
theorem Rel.freeze {K : Frag} {B : Hp} {μ : List Addr} {en : En} {m : Me} {σ : L2.St} {H : Hp} {n : Nat} {a : Addr} {mo : MO} {d : D} {o : HO} (R : Rel K B μ en m σ H) (ha : μ[n]? = some a) (hm : m[n]? = some mo) (hl : mo.live = true) (ho : H a = some o) (hr : Rv K (upd B a o) (.ref a) d) (no : ∀ ps, o ≠ .tbl ps := by exact fun _ z => nomatch z) : Rel K (upd B a o) μ (en.map (sbs n d)) (m.set n .gone) σ H := by
  have nb := R.mem.off a ⟨n, mo, ha, hm, hl⟩
  refine ⟨R.mem.freeze ha hm hl ho no, by simp [R.len], fun i x e => ?_⟩
  rw [List.getElem?_map] at e
  cases q : en[i]? with
  | none => rw [q] at e; cases e
  | some y =>
    rw [q] at e
    have e : sbs n d y = some x := Option.some.inj e
    cases y with
    | none => cases e
    | some y =>
      obtain ⟨v, h1, h2⟩ := R.env i y q
      cases y with
      | v d2 =>
        cases e
        exact ⟨v, h1, h2.to (same_new nb o) (List.prefix_refl _)⟩
      | loc k =>
        have e : (if k = n then some (W.v d) else some (W.loc k)) = some x := e
        obtain ⟨b, rfl, hb⟩ := h2
        by_cases c : k = n
        · rw [if_pos c] at e
          cases e
          subst c
          have z : a = b := Option.some.inj (ha.symm.trans hb)
          subst z
          exact ⟨_, h1, hr⟩
        · rw [if_neg c] at e
          cases e
          exact ⟨_, h1, b, rfl, hb⟩
theorem dss_fz {st : List Stmt} {u : DTS} (i : Nat) (h : DSs X E st u) : DSs X E st (sFz i u) := by
  obtain ⟨t1, p1, k1⟩ := h.ex
  refine ⟨_, p1, fun B μ en m σ H N D R hx T e => ?_⟩
  unfold sFz at T
  split at T
  · rename_i n hn
    obtain ⟨ds, hm, T⟩ := lstAt_ok T
    obtain ⟨v, h1, a, rfl, ha⟩ := R.env i _ (En.get_some hn)
    obtain ⟨vs, hv, rl⟩ := R.mem.at_ n a _ ha hm rfl
    have nb := R.mem.off a ⟨n, _, ha, hm, rfl⟩
    have sf := Stp.freeze (H := H) (o := .lst vs) ha hm rfl nb
    have R1 := R.freeze ha hm rfl hv (.lst upd_same (rl.to sf.same))
    exact k1 _ μ _ _ σ H N D R1 (hx.step sf R1.mem R.mem.le) T (e.step sf R1.mem R.mem.le)
  · exact k1 B μ en m σ H N D R hx T e
  · exact T.elim
/-! ### methods of built-in types -/
abbrev DMt := W → List W → Me → (D → Me → Prop) → Prop
def SM (X : Cx) (r : V → List V → Hp → VK → Prop) (o : DMt) : Prop := ∀ B μ m H x xs v vs (Q : D → Me → Prop) (QV : VK), MemOk X.K B μ m H → RW X.K B μ v x → RWs X.K B μ vs xs → o x xs m Q →
  (∀ B' m' H' d z, Stp B μ m H B' μ m' H' → MemOk X.K B' μ m' H' → Rv X.K B' z d → Q d m' → QV z H') → r v vs H QV
def STy (X : Cx) (T : String) (ty : W → Me → Prop) : Prop := ∀ B μ m H x v, MemOk X.K B μ m H → RW X.K B μ v x → ty x m → tyV X.K T v H
def tMe (ty : W → Me → Prop) (o : DMt) (to : DTE) (ta : DTA) : DTE := fun en m Q Qx => to en m (fun x m1 => ty x m1 ∧ ta en m1 (fun xs m2 => o x xs m2 fun d m3 => Q (.v d) m3) Qx) Qx
theorem d_bm {T : String} {name : Str} {id : String} {r : V → List V → Hp → VK → Prop} {op : DMt} {ty : W → Me → Prop} {o e : Expr} {es : List Expr} {to : DTE} {ta : DTA} {apos cpos : Pos} (pa : PlainAttrs T) (slot : Slot T name id) (hty : typeOf (.builtin id) = pure (.type "method_descriptor")) (hm : MtR X id r) (so : SM X r op) (st : STy X T ty) (ho : DE X E o to) (ha : DA X E (e :: es) ta)
    (hbase : attributeBase o name X.env (eval o X.env) = eval o X.env := by rfl)
    (hfew : ((backTo cpos (starEach (e :: es) X.env)).all (fun x => !x.1) && (backToKw cpos (keywordEach [] X.env)).all (fun x => x.1.isSome)
      && decide ((e :: es).length + ([] : List Keyword).length + (if ([] : List Keyword).isEmpty then 0 else 1) < 30)) = true := by rfl)
    (hline : (apos.endLine == cpos.line) = true := by rfl) (hs : starEach (e :: es) X.env = (false, eval e X.env) :: starEach es X.env := by rfl) (hplain : (backTo cpos (starEach es X.env)).any (·.1) = false := by rfl) :
    DE X E (.Call (.Attribute o name apos) (e :: es) [] cpos) (tMe ty op to ta) := by
  obtain ⟨t1, p1, k1⟩ := ho.ex
  obtain ⟨t2, p2, k2⟩ := ha.ex
  refine ⟨_, pe_bm pa slot hty hm p1 p2 hbase hfew hline hs hplain, fun B μ en m σ H Q Qx QV R hx T k => ?_⟩
  refine k1 B μ en m σ H _ Qx _ R hx T fun B1 μ1 m1 H1 x v s1 R1 r1 ⟨q1, q2⟩ => ⟨st B1 μ1 m1 H1 x v R1.mem r1 q1, ?_⟩
  refine k2 B1 μ1 en m1 σ H1 _ Qx _ R1 (hx.step s1 R1.mem R.mem.le) q2 fun B2 μ2 m2 H2 xs vs s2 R2 r2 q3 => ?_
  refine so B2 μ2 m2 H2 x xs v vs _ _ R2.mem (r1.to s2.same s2.pre) r2 q3 fun B3 m3 H3 d z s3 M3 rz q4 => ?_
  have st := (s1.trans R1.mem s2 R.mem.le).trans R2.mem s3 R.mem.le
  exact k B3 μ2 m3 H3 (.v d) z st (R.stp st M3) rz q4
/-! ### append -/
def isOl : W → Me → Prop
  | .loc n, m => lstAt m n fun _ => True
  | _, _ => False
def aApp : DMt := fun x xs m Q => match x, xs with
  | .loc n, [.v d] => lstAt m n fun ds => ds.length < sizeLine ∧ Q .non (m.set n (.lst (ds ++ [d])))
  | _, _ => False
theorem isOl_ok : STy X "list" isOl := by
  intro B μ m H x v M r q
  cases x with
  | v d => exact q.elim
  | loc n =>
    obtain ⟨ds, hm, _⟩ := lstAt_ok q
    obtain ⟨a, rfl, ha⟩ := r
    obtain ⟨vs, hv, _⟩ := M.at_ n a _ ha hm rfl
    exact .inl ⟨rfl, vs, .inl (.inl hv)⟩
theorem aApp_ok : SM X rAppend aApp := by
  intro B μ m H x xs v vs Q QV M r rs q k
  unfold aApp at q
  split at q
  · rename_i x xs n d
    obtain ⟨ds, hm, q⟩ := lstAt_ok q
    obtain ⟨a, rfl, ha⟩ := r
    obtain ⟨us, hv, rl⟩ := M.at_ n a _ ha hm rfl
    cases rs with
    | cons rd rn =>
      cases rn with
      | nil =>
        rename_i vd
        have kp : ∀ b o, b ≠ a → H b = some o → upd H a (.lst (us ++ [vd])) b = some o := fun b o c e => by rw [upd_ne c]; exact e
        refine ⟨a, us, vd, rfl, rfl, hv, by rw [rl.len]; exact q.1, ?_⟩
        have new : OO X.K B μ (upd H a (.lst (us ++ [vd]))) a (.lst (ds ++ [d])) := ⟨_, upd_same, rl.append (.one rd)⟩
        exact k B _ _ .non _ (Stp.store ha hm rfl kp) (M.store ha hm rfl rfl kp new) .non q.2
  · exact q.elim
theorem d_app {o e : Expr} {to : DTE} {ta : DTA} {apos pos : Pos} (ho : DE X E o to) (ha : DA X E [e] ta) (hb : attributeBase o "append" X.env (eval o X.env) = eval o X.env := by rfl)
    (hfew : ((backTo pos (starEach [e] X.env)).all (fun x => !x.1) && (backToKw pos (keywordEach [] X.env)).all (fun x => x.1.isSome)
      && decide ([e].length + ([] : List Keyword).length + (if ([] : List Keyword).isEmpty then 0 else 1) < 30)) = true := by rfl)
    (hline : (apos.endLine == pos.line) = true := by rfl) (hs : starEach [e] X.env = (false, eval e X.env) :: starEach [] X.env := by rfl) (hplain : (backTo pos (starEach [] X.env)).any (·.1) = false := by rfl) :
    DE X E (.Call (.Attribute o "append" apos) [e] [] pos) (tMe isOl aApp to ta) := d_bm PySem.F.plainAttrs_list PySem.F.slot_list_append PySem.F.type_list_append mt_append aApp_ok isOl_ok ho ha hb hfew hline hs hplain
/-! ### what a value shows: its datum, own objects too -/
def lookO : Option MO → (D → Prop) → Prop
  | some (.lst ds), Q => Q (.lst ds)
  | some (.dic ds), Q => Q (.dic ds)
  | _, _ => False
def look : W → Me → (D → Prop) → Prop
  | .v d, _, Q => Q d
  | .loc n, m, Q => lookO m[n]? Q
/-- the datum d is to be read at v -/
def Top (K : Frag) (B H : Hp) (v : V) : D → Prop
  | .tup ds => ∃ a vs, v = .ref a ∧ TqT K B a vs ∧ RvL K B vs ds
  | .lst ds => ∃ a vs, v = .ref a ∧ H a = some (.lst vs) ∧ RvL K B vs ds
  | .dic ds => ∃ a vs, v = .ref a ∧ Rd H a (.dK vs) ∧ RvK K B vs ds
  | .obj C ds => ∃ a dx vs, v = .ref a ∧ H a = some (.ins C dx vs) ∧ RvF K B vs ds
  | d => Rv K B v d
theorem Rv.top {K : Frag} {B H : Hp} (le : Le B H) {v : V} {d : D} (r : Rv K B v d) : Top K B H v d := by
  cases r with
  | tup h a => exact ⟨_, _, rfl, h, a⟩
  | lst h a => exact ⟨_, _, rfl, le _ _ h, a⟩
  | dic h a => exact ⟨_, _, rfl, .inr ⟨_, le _ _ h⟩, a⟩
  | obj h a => exact ⟨_, _, _, rfl, le _ _ h, a⟩
  | exc h g a => exact .exc h g a
  | non => exact .non
  | bl b => exact .bl b
  | int i => exact .int i
  | str h => exact .str h
  | ty n => exact .ty n
  | fn a => exact .fn a
theorem look_ok {K : Frag} {B : Hp} {μ : List Addr} {m : Me} {H : Hp} {v : V} (M : MemOk K B μ m H) : ∀ {x : W} {Q : D → Prop}, RW K B μ v x → look x m Q → ∃ d, Top K B H v d ∧ Q d
  | .v d, Q, r, q => ⟨d, Rv.top M.le r, q⟩
  | .loc n, Q, ⟨a, e, ha⟩, q => by
    subst e
    have q : lookO m[n]? Q := q
    cases hm : m[n]? with
    | none => rw [hm] at q; exact q.elim
    | some mo =>
      rw [hm] at q
      cases mo with
      | lst ds =>
        obtain ⟨vs, hv, rl⟩ := M.at_ n a _ ha hm rfl
        exact ⟨.lst ds, ⟨a, vs, rfl, hv, rl⟩, q⟩
      | dic ds =>
        obtain ⟨vs, hv, rl⟩ := M.at_ n a _ ha hm rfl
        exact ⟨.dic ds, ⟨a, vs, rfl, .inl hv, rl⟩, q⟩
      | ins C fs => exact q.elim
      | bag => exact q.elim
      | tab _ _ => exact q.elim
      | gone => exact q.elim
end
end Fs
set_option Elab.async false
set_option linter.all false
set_option maxRecDepth 100000
set_option maxHeartbeats 8000000
namespace Fs
open PySem PySem.Spec PyProof.Rows L2
abbrev okS (x : Str) : Bool := PySem.PyData.strOk x
theorem okS_app {x y : Str} (h : okS x = true) (k : okS y = true) : okS (x ++ y) = true := by
  unfold okS PySem.PyData.strOk at *
  show Array.all (x.cps ++ y.cps) _ = true
  rw [Array.all_append, h, k]
  rfl
theorem okS_iff {x : Str} : okS x = true ↔ ∀ c ∈ x.cps.toList, c < 0x110000 := by
  unfold okS PySem.PyData.strOk
  rw [← Array.all_toList, List.all_eq_true]
  simp
/-! ### data as the library's data -/
mutual
def plainD : D → Bool
  | .non | .bl _ | .int _ | .str _ => true
  | .tup xs => plainL xs
  | .lst xs => plainL xs
  | _ => false
def plainL : List D → Bool
  | [] => true
  | x :: xs => plainD x && plainL xs
end
mutual
def pyD : D → PyData
  | .bl b => .bool b
  | .int i => .int i
  | .str x => .str x
  | .tup xs => .tuple (pyL xs)
  | .lst xs => .list (pyL xs)
  | _ => .none
def pyL : List D → List PyData
  | [] => []
  | x :: xs => pyD x :: pyL xs
end
mutual
def depD : D → Nat
  | .tup xs => depL xs + 1
  | .lst xs => depL xs + 1
  | _ => 0
def depL : List D → Nat
  | [] => 0
  | x :: xs => max (depD x) (depL xs)
end
mutual
/-- == -/
def deq : D → D → Bool
  | .non, .non => true
  | .bl a, .bl b => a == b
  | .bl a, .int j => (if a then 1 else 0) == j
  | .int i, .bl b => i == (if b then 1 else 0)
  | .int i, .int j => i == j
  | .str x, .str y => x == y
  | .lst xs, .lst ys => deqL xs ys
  | .tup xs, .tup ys => deqL xs ys
  | _, _ => false
def deqL : List D → List D → Bool
  | [], [] => true
  | x :: xs, y :: ys => deq x y && deqL xs ys
  | _, _ => false
end
mutual
theorem deq_py : ∀ {x y : D}, plainD x = true → plainD y = true → PyData.eqv (pyD x) (pyD y) = deq x y
  | .non, y, _, h => by cases y <;> first | rfl | cases h
  | .bl _, y, _, h => by cases y <;> first | rfl | cases h
  | .int _, y, _, h => by cases y <;> first | rfl | cases h
  | .str _, y, _, h => by cases y <;> first | rfl | cases h
  | .lst xs, y, g, h => by
    cases y with
    | lst ys => exact deqL_py (x := xs) (y := ys) g h
    | non => rfl
    | bl _ => rfl
    | int _ => rfl
    | str _ => rfl
    | tup _ => rfl
    | dic _ => cases h
    | obj _ _ => cases h
    | exc _ _ => cases h
    | ty _ => cases h
    | fn _ => cases h
  | .tup xs, y, g, h => by
    cases y with
    | tup ys => exact deqL_py (x := xs) (y := ys) g h
    | non => rfl
    | bl _ => rfl
    | int _ => rfl
    | str _ => rfl
    | lst _ => rfl
    | dic _ => cases h
    | obj _ _ => cases h
    | exc _ _ => cases h
    | ty _ => cases h
    | fn _ => cases h
theorem deqL_py : ∀ {x y : List D}, plainL x = true → plainL y = true → PyData.eqvAll (pyL x) (pyL y) = deqL x y
  | [], [], _, _ => rfl
  | [], _ :: _, _, _ => rfl
  | _ :: _, [], _, _ => rfl
  | x :: xs, y :: ys, g, h => by
    have g := Bool.and_eq_true_iff.mp g
    have h := Bool.and_eq_true_iff.mp h
    show (PyData.eqv (pyD x) (pyD y) && PyData.eqvAll (pyL xs) (pyL ys)) = (deq x y && deqL xs ys)
    rw [deq_py g.1 h.1, deqL_py g.2 h.2]
end
mutual
theorem dep_py : ∀ (x : D), (pyD x).depth = depD x
  | .tup xs => congrArg (· + 1) (depL_py xs)
  | .lst xs => congrArg (· + 1) (depL_py xs)
  | .non => rfl
  | .bl _ => rfl
  | .int _ => rfl
  | .str _ => rfl
  | .dic _ => rfl
  | .obj _ _ => rfl
  | .exc _ _ => rfl
  | .ty _ => rfl
  | .fn _ => rfl
theorem depL_py : ∀ (x : List D), PyData.depthAll (pyL x) = depL x
  | [] => rfl
  | x :: xs => by
    show max (pyD x).depth (PyData.depthAll (pyL xs)) = max (depD x) (depL xs)
    rw [dep_py x, depL_py xs]
end
mutual
theorem Rv.dp {K : Frag} {B : Hp} : ∀ {v : V} {d : D}, Rv K B v d → plainD d = true → Dp K B v (pyD d)
  | _, _, .non, _ => .non
  | _, _, .bl b, _ => .bl b
  | _, _, .int i, _ => .int i
  | _, _, .str _, _ => .str _
  | _, _, .tup h r, p => .tup h.sq (RvL.dp r p)
  | _, _, .lst h r, p => .lst (.inl (.inl h)) (RvL.dp r p)
  | _, _, .ty _, p => by cases p
  | _, _, .fn _, p => by cases p
  | _, _, .dic _ _, p => by cases p
  | _, _, .obj _ _, p => by cases p
  | _, _, .exc _ _ _, p => by cases p
theorem RvL.dp {K : Frag} {B : Hp} : ∀ {v : List V} {d : List D}, RvL K B v d → plainL d = true → DpAll K B v (pyL d)
  | _, _, .nil, _ => .nil
  | _, _, .cons h t, p => .cons (Rv.dp h (Bool.and_eq_true_iff.mp p).1) (RvL.dp t (Bool.and_eq_true_iff.mp p).2)
end
mutual
theorem Rv.lay {K : Frag} {B : Hp} : ∀ {v : V} {d : D}, Rv K B v d → plainD d = true → (pyD d).canLay0 = true
  | _, _, .non, _ => rfl
  | _, _, .bl b, _ => rfl
  | _, _, .int i, _ => rfl
  | _, _, .str h, _ => h
  | _, _, .tup h r, p => RvL.lay r p
  | _, _, .lst h r, p => RvL.lay r p
  | _, _, .ty _, p => by cases p
  | _, _, .fn _, p => by cases p
  | _, _, .dic _ _, p => by cases p
  | _, _, .obj _ _, p => by cases p
  | _, _, .exc _ _ _, p => by cases p
theorem RvL.lay {K : Frag} {B : Hp} : ∀ {v : List V} {d : List D}, RvL K B v d → plainL d = true → PyData.canLayAll0 (pyL d) = true
  | _, _, .nil, _ => rfl
  | _, _, .cons h t, p => by
    show ((pyD _).canLay0 && PyData.canLayAll0 (pyL _)) = true
    rw [Rv.lay h (Bool.and_eq_true_iff.mp p).1, RvL.lay t (Bool.and_eq_true_iff.mp p).2]
    rfl
end
/-- a value that shows d, as the library's datum -/
theorem Top.dp {K : Frag} {B H : Hp} (le : Le B H) {v : V} : ∀ {d : D}, Top K B H v d → plainD d = true → Dp K H v (pyD d) ∧ (pyD d).canLay0 = true
  | .non, h, p => ⟨Dp.to le (Rv.dp h p), Rv.lay h p⟩
  | .bl b, h, p => ⟨Dp.to le (Rv.dp h p), Rv.lay h p⟩
  | .int i, h, p => ⟨Dp.to le (Rv.dp h p), Rv.lay h p⟩
  | .str x, h, p => ⟨Dp.to le (Rv.dp h p), Rv.lay h p⟩
  | .tup xs, ⟨a, vs, e, hs, r⟩, p => by
    subst e
    exact ⟨.tup (le.tup hs) (DpAll.to le (RvL.dp r p)), RvL.lay r p⟩
  | .lst xs, ⟨a, vs, e, hs, r⟩, p => by
    subst e
    exact ⟨.lst (.inl (.inl hs)) (DpAll.to le (RvL.dp r p)), RvL.lay r p⟩
  | .ty _, _, p => by cases p
  | .fn _, _, p => by cases p
  | .dic _, _, p => by cases p
  | .obj _ _, _, p => by cases p
  | .exc _ _, _, p => by cases p
/-! ### operators by what both sides show -/
abbrev F2 := D → D → (D → Prop) → Prop
def oL (f : F2) : DOp := fun x y m Q => look x m fun dx => look y m fun dy => f dx dy Q
section
variable {X : Cx} {E : XK}
theorem SO.of {r : R2} {f : F2} (h : ∀ B μ m H v u dx dy (Q : D → Prop) (QV : VK), MemOk X.K B μ m H → Top X.K B H v dx → Top X.K B H u dy → f dx dy Q →
    (∀ B' H' d z, Stp B μ m H B' μ m H' → MemOk X.K B' μ m H' → Rv X.K B' z d → Q d → QV z H') → r v u H QV) : SO X r (oL f) := by
  intro B μ m H x y v u Q QV M rx ry q k
  obtain ⟨dx, tx, q⟩ := look_ok M rx q
  obtain ⟨dy, ty, q⟩ := look_ok M ry q
  exact h B μ m H v u dx dy Q QV M tx ty q k
theorem SO.pure {B : Hp} {μ : List Addr} {m : Me} {H : Hp} {Q : D → Prop} {QV : VK} (M : MemOk X.K B μ m H) (k : ∀ B' H' d z, Stp B μ m H B' μ m H' → MemOk X.K B' μ m H' → Rv X.K B' z d → Q d → QV z H') {d : D} {z : V} (r : Rv X.K B z d) (q : Q d) : QV z H := k B H d z .refl M r q
theorem SO.new {B : Hp} {μ : List Addr} {m : Me} {H : Hp} {Q : D → Prop} {QV : VK} (M : MemOk X.K B μ m H) (k : ∀ B' H' d z, Stp B μ m H B' μ m H' → MemOk X.K B' μ m H' → Rv X.K B' z d → Q d → QV z H') {d : D} {p : Addr} {o : HO} (np : H p = none) (r : Rv X.K (upd B p o) (.ref p) d) (q : Q d) (no : ∀ ps, o ≠ .tbl ps := by exact fun _ z => nomatch z) : QV (.ref p) (upd H p o) :=
  k _ _ d _ (Stp.laid M np) (M.laid np no) r q
theorem new_lst {K : Frag} {B : Hp} {μ : List Addr} {m : Me} {H : Hp} {p : Addr} {vs : List V} {ds : List D} (M : MemOk K B μ m H) (np : H p = none) (r : RvL K B vs ds) : Rv K (upd B p (.lst vs)) (.ref p) (.lst ds) := .lst upd_same (r.to (laid_same M np))
theorem new_tup {K : Frag} {B : Hp} {μ : List Addr} {m : Me} {H : Hp} {p : Addr} {vs : List V} {ds : List D} (M : MemOk K B μ m H) (np : H p = none) (r : RvL K B vs ds) : Rv K (upd B p (.tup vs)) (.ref p) (.tup ds) := .tup (.inl upd_same) (r.to (laid_same M np))
def addD : F2
  | .int i, .int j, Q => Q (.int (i + j))
  | .str a, .str b, Q => a.length + b.length ≤ sizeLine ∧ Q (.str (a ++ b))
  | .lst a, .lst b, Q => a.length + b.length ≤ sizeLine ∧ Q (.lst (a ++ b))
  | .tup a, .tup b, Q => a.length + b.length ≤ sizeLine ∧ Q (.tup (a ++ b))
  | _, _, _ => False
theorem o_add : OpD X (binaryOp .Add) (oL addD) := by
  refine ⟨_, (op_add.or op_add_str).or (op_cat.or op_catA), SO.of fun B μ m H v u dx dy Q QV M tx ty q k => ?_⟩
  unfold addD at q
  split at q
  · cases tx
    cases ty
    exact .inl (.inl ⟨_, _, rfl, rfl, SO.pure M k (.int _) q⟩)
  · cases tx with
    | str h1 => cases ty with
      | str h2 => exact .inl (.inr ⟨_, _, rfl, rfl, q.1, SO.pure M k (.str (okS_app h1 h2)) q.2⟩)
  · obtain ⟨a, vs, rfl, h1, r1⟩ := tx
    obtain ⟨b, us, rfl, h2, r2⟩ := ty
    exact .inr (.inl ⟨a, b, vs, us, rfl, rfl, h1, h2, by rw [r1.len, r2.len]; exact q.1, fun p np => SO.new M k np (new_lst M np (r1.append r2)) q.2⟩)
  · obtain ⟨a, vs, rfl, h1, r1⟩ := tx
    obtain ⟨b, us, rfl, h2, r2⟩ := ty
    refine .inr (.inr ⟨a, b, vs, us, rfl, rfl, M.le.tup h1, M.le.tup h2, by rw [r1.len, r2.len]; exact q.1, fun z => ?_, fun _ z => ?_, fun _ _ p np => SO.new M k np (new_tup M np (r1.append r2)) q.2⟩)
    · subst z
      cases r1
      exact SO.pure M k (.tup h2 r2) q.2
    · subst z
      cases r2
      have q2 := q.2
      rw [List.append_nil] at q2
      exact SO.pure M k (.tup h1 r1) q2
  · exact q.elim
def intF (f : Int → Int → (D → Prop) → Prop) : F2
  | .int i, .int j, Q => f i j Q
  | _, _, _ => False
theorem intF_ok {f : Int → Int → (D → Prop) → Prop} {K : Frag} {B H : Hp} {v u : V} {dx dy : D} {Q : D → Prop} (tx : Top K B H v dx) (ty : Top K B H u dy) (q : intF f dx dy Q) : ∃ i j, v = .int i ∧ u = .int j ∧ f i j Q := by
  unfold intF at q
  split at q
  · cases tx
    cases ty
    exact ⟨_, _, rfl, rfl, q⟩
  · exact q.elim
theorem o_sub : OpD X (binaryOp .Sub) (oL (intF fun i j Q => Q (.int (i - j)))) := ⟨_, op_sub, SO.of fun B μ m H v u dx dy Q QV M tx ty q k => by
  obtain ⟨i, j, rfl, rfl, q⟩ := intF_ok tx ty q
  exact ⟨_, _, rfl, rfl, SO.pure M k (.int _) q⟩⟩
/-- products, list * int -/
def mulD : F2
  | .int i, .int j, Q => CMulW i j ∧ Q (.int (i * j))
  | .lst a, .int n, Q => 0 ≤ n ∧ n < 2 ^ 62 ∧ a.length * n.toNat ≤ sizeLine ∧ Q (.lst (List.replicate n.toNat a).flatten)
  | _, _, _ => False
theorem RvL.rep {K : Frag} {B : Hp} {vs : List V} {ds : List D} (r : RvL K B vs ds) : ∀ n : Nat, RvL K B (List.replicate n vs).flatten (List.replicate n ds).flatten
  | 0 => .nil
  | n + 1 => by
    rw [List.replicate_succ, List.replicate_succ, List.flatten_cons, List.flatten_cons]
    exact r.append (RvL.rep r n)
theorem o_mod : OpD X (binaryOp .Mod) (oL (intF fun i j Q => 0 < j ∧ Q (.int (i % j)))) := ⟨_, op_mod, SO.of fun B μ m H v u dx dy Q QV M tx ty q k => by
  obtain ⟨i, j, rfl, rfl, q1, q⟩ := intF_ok tx ty q
  exact ⟨_, _, rfl, rfl, q1, SO.pure M k (.int _) q⟩⟩
theorem o_fdiv : OpD X (binaryOp .FloorDiv) (oL (intF fun i j Q => 0 < j ∧ j.natAbs.log2 < 9000 ∧ Q (.int (i / j)))) := ⟨_, op_fdivW, SO.of fun B μ m H v u dx dy Q QV M tx ty q k => by
  obtain ⟨i, j, rfl, rfl, q1, q2, q⟩ := intF_ok tx ty q
  exact ⟨_, _, rfl, rfl, ⟨q1, q2⟩, SO.pure M k (.int _) q⟩⟩
/-- // by a divisor of either sign -/
theorem op_fdivZ : OpR X (binaryOp .FloorDiv) (rI (fun _ j => j ≠ 0 ∧ j.natAbs.log2 < 9000) fun i j => .int (i.fdiv j)) := opI fun _ _ _ _ _ _ _ hc q => floordiv_int hc.1 q (.inl (PyProof.noPylong_of_log2 hc.2))
theorem o_fdivZ : OpD X (binaryOp .FloorDiv) (oL (intF fun i j Q => j ≠ 0 ∧ j.natAbs.log2 < 9000 ∧ Q (.int (i.fdiv j)))) := ⟨_, op_fdivZ, SO.of fun B μ m H v u dx dy Q QV M tx ty q k => by
  obtain ⟨i, j, rfl, rfl, q1, q2, q⟩ := intF_ok tx ty q
  exact ⟨_, _, rfl, rfl, ⟨q1, q2⟩, SO.pure M k (.int _) q⟩⟩
/-! ### comparisons -/
def cmpI (f : Int → Int → Bool) : F2 := intF fun i j Q => Q (.bl (f i j))
theorem o_lt : OpD X (compareOp .Lt) (oL (cmpI fun i j => decide (i < j))) := ⟨_, op_lt, SO.of fun B μ m H v u dx dy Q QV M tx ty q k => by
  obtain ⟨i, j, rfl, rfl, q⟩ := intF_ok tx ty q
  exact ⟨_, _, rfl, rfl, SO.pure M k (.bl _) q⟩⟩
theorem o_le : OpD X (compareOp .LtE) (oL (cmpI fun i j => decide (i ≤ j))) := ⟨_, op_le, SO.of fun B μ m H v u dx dy Q QV M tx ty q k => by
  obtain ⟨i, j, rfl, rfl, q⟩ := intF_ok tx ty q
  exact ⟨_, _, rfl, rfl, SO.pure M k (.bl _) q⟩⟩
theorem o_gt : OpD X (compareOp .Gt) (oL (cmpI fun i j => decide (j < i))) := ⟨_, op_gt, SO.of fun B μ m H v u dx dy Q QV M tx ty q k => by
  obtain ⟨i, j, rfl, rfl, q⟩ := intF_ok tx ty q
  exact ⟨_, _, rfl, rfl, SO.pure M k (.bl _) q⟩⟩
theorem o_ge : OpD X (compareOp .GtE) (oL (cmpI fun i j => decide (j ≤ i))) := ⟨_, op_ge, SO.of fun B μ m H v u dx dy Q QV M tx ty q k => by
  obtain ⟨i, j, rfl, rfl, q⟩ := intF_ok tx ty q
  exact ⟨_, _, rfl, rfl, SO.pure M k (.bl _) q⟩⟩
/-- ==: plain data not too deep -/
def eqD (g : Bool → Bool) : F2 := fun x y Q => plainD x = true ∧ plainD y = true ∧ depD x ≤ 64 ∧ depD y ≤ 64 ∧ Q (.bl (g (deq x y)))
theorem eqD_ok {K : Frag} {B H : Hp} {v u : V} {dx dy : D} (le : Le B H) (tx : Top K B H v dx) (ty : Top K B H u dy) (h1 : plainD dx = true) (h2 : plainD dy = true) (h3 : depD dx ≤ 64) (h4 : depD dy ≤ 64) : Dp K H v (pyD dx) ∧ Dp K H u (pyD dy) ∧ SeqAt.shaped (pyD dx) = true ∧ SeqAt.shaped (pyD dy) = true := by
  obtain ⟨a1, a2⟩ := Top.dp le tx h1
  obtain ⟨b1, b2⟩ := Top.dp le ty h2
  refine ⟨a1, b1, ?_, ?_⟩
  · unfold SeqAt.shaped
    rw [a2, dep_py]
    simpa using h3
  · unfold SeqAt.shaped
    rw [b2, dep_py]
    simpa using h4
theorem o_eq (hu : X.A.units + 64 < cLine) : OpD X (compareOp .Eq) (oL (eqD id)) := ⟨_, op_eqD hu, SO.of fun B μ m H v u dx dy Q QV M tx ty ⟨h1, h2, h3, h4, q⟩ k => by
  obtain ⟨a, b, c, d⟩ := eqD_ok M.le tx ty h1 h2 h3 h4
  exact ⟨_, _, a, b, c, d, by rw [deq_py h1 h2]; exact SO.pure M k (.bl _) q⟩⟩
theorem o_ne (hu : X.A.units + 64 < cLine) : OpD X (compareOp .NotEq) (oL (eqD (!·))) := ⟨_, op_neD hu, SO.of fun B μ m H v u dx dy Q QV M tx ty ⟨h1, h2, h3, h4, q⟩ k => by
  obtain ⟨a, b, c, d⟩ := eqD_ok M.le tx ty h1 h2 h3 h4
  exact ⟨_, _, a, b, c, d, by rw [deq_py h1 h2]; exact SO.pure M k (.bl _) q⟩⟩
/-- is None -/
def isNon : D → Bool
  | .non => true
  | _ => false
def isF (g : Bool → Bool) : F2 := fun x y Q => isNon y = true ∧ Q (.bl (g (isNon x)))
theorem Top.nonI {K : Frag} {B H : Hp} {v : V} {d : D} (t : Top K B H v d) : decide (v = .non) = isNon d := by
  cases d with
  | non => cases t; rfl
  | bl b => cases t; rfl
  | int b => cases t; rfl
  | str b => cases t; rfl
  | ty b => cases t; rfl
  | fn b => cases t; rfl
  | tup _ => obtain ⟨a, _, rfl, _⟩ := t; rfl
  | lst _ => obtain ⟨a, _, rfl, _⟩ := t; rfl
  | dic _ => obtain ⟨a, _, rfl, _⟩ := t; rfl
  | obj _ _ => obtain ⟨a, _, _, rfl, _⟩ := t; rfl
  | exc _ _ => cases t; rfl
theorem o_is : OpD X (compareOp .Is) (oL (isF id)) := ⟨_, op_isN, SO.of fun B μ m H v u dx dy Q QV M tx ty ⟨h, q⟩ k => by
  refine ⟨of_decide_eq_true (by rw [ty.nonI]; exact h), ?_⟩
  rw [tx.nonI]
  exact SO.pure M k (.bl _) q⟩
theorem o_isnot : OpD X (compareOp .IsNot) (oL (isF (!·))) := ⟨_, op_notN, SO.of fun B μ m H v u dx dy Q QV M tx ty ⟨h, q⟩ k => by
  refine ⟨of_decide_eq_true (by rw [ty.nonI]; exact h), ?_⟩
  rw [tx.nonI]
  exact SO.pure M k (.bl _) q⟩
/-! ### in -/
def flatD : D → Bool
  | .non | .bl _ | .int _ | .str _ => true
  | _ => false
def subS (x y : Str) : Bool := !(Builtin.Str.occurrences y x 0 y.length 1).isEmpty
/-- x in y: flat items; a text in a text; plain data in a list -/
def inD (g : Bool → Bool) : F2
  | .str x, .str y, Q => Q (.bl (g (subS x y)))
  | x, .tup ds, Q => flatD x = true ∧ ds.all flatD = true ∧ Q (.bl (g (ds.any fun y => deq y x)))
  | x, .lst ds, Q => plainD x = true ∧ plainL ds = true ∧ depD x ≤ 64 ∧ depL ds + 1 ≤ 64 ∧ Q (.bl (g (ds.any fun y => deq y x)))
  | _, _, _ => False
theorem flat_v {K : Frag} {B H : Hp} {v : V} {d : D} (t : Top K B H v d) (h : flatD d = true) : flatV v = true := by
  cases d with
  | non => cases t; rfl
  | bl b => cases t; rfl
  | int b => cases t; rfl
  | str b => cases t; rfl
  | _ => cases h
theorem flat_vs {K : Frag} {B : Hp} : ∀ {vs : List V} {ds : List D}, RvL K B vs ds → ds.all flatD = true → vs.all flatV = true
  | _, _, .nil, _ => rfl
  | _, _, .cons a t, h => by
    rw [List.all_cons] at h ⊢
    have h := Bool.and_eq_true_iff.mp h
    rw [flat_v (H := B) (Rv.top (Le.refl B) a) h.1, flat_vs t h.2]
    rfl
theorem deq_v {K : Frag} {B H B2 H2 : Hp} {v u : V} {d e : D} (t : Top K B H v d) (t2 : Top K B2 H2 u e) (h : flatD d = true) (k : flatD e = true) : eqV v u = deq d e := by
  cases d with
  | non => cases t; cases e <;> first | (cases t2; rfl) | cases k
  | bl b => cases t; cases e <;> first | (cases t2; rfl) | cases k
  | int b => cases t; cases e <;> first | (cases t2; rfl) | cases k
  | str b => cases t; cases e <;> first | (cases t2; rfl) | cases k
  | _ => cases h
theorem inV_d {K : Frag} {B H : Hp} {v : V} {d : D} (t : Top K B H v d) (h : flatD d = true) : ∀ {vs : List V} {ds : List D}, RvL K B vs ds → ds.all flatD = true → inV v vs = ds.any fun y => deq y d
  | _, _, .nil, _ => rfl
  | _, _, .cons (ds := ds) a r, k => by
    rw [List.all_cons] at k
    have k := Bool.and_eq_true_iff.mp k
    show (eqV _ v || inV v _) = (_ || _)
    rw [inV_d t h r k.2, deq_v (Rv.top (Le.refl B) a) t k.1 h]
theorem any_py : ∀ {ds : List D} {x : D}, plainL ds = true → plainD x = true → ((pyL ds).any fun z => PyData.eqv z (pyD x)) = ds.any fun y => deq y x
  | [], _, _, _ => rfl
  | d :: ds, x, h, k => by
    have h := Bool.and_eq_true_iff.mp h
    show (PyData.eqv (pyD d) (pyD x) || (pyL ds).any _) = (deq d x || ds.any _)
    rw [deq_py h.1 k, any_py h.2 k]
theorem o_in (hu : X.A.units + 65 < cLine) : OpD X (compareOp .In) (oL (inD id)) := by
  refine ⟨_, op_in_str.or (op_in_seq.or (op_inD hu)), SO.of fun B μ m H v u dx dy Q QV M tx ty q k => ?_⟩
  unfold inD at q
  split at q
  · cases tx with
    | str h1 => cases ty with
      | str h2 => exact .inl ⟨_, _, rfl, rfl, SO.pure M k (.bl _) q⟩
  · obtain ⟨a, vs, rfl, hs, r⟩ := ty
    obtain ⟨q1, q2, q⟩ := q
    refine .inr (.inl ⟨a, vs, rfl, .inr (M.le.tup hs), flat_v tx q1, flat_vs r q2, ?_⟩)
    rw [inV_d tx q1 r q2]
    exact SO.pure M k (.bl _) q
  · obtain ⟨q1, q2, q3, q4, q⟩ := q
    obtain ⟨a, b, c, d⟩ := eqD_ok (dy := .lst _) M.le tx ty q1 q2 q3 q4
    refine .inr (.inr ⟨_, pyL _, a, b, c, d, ?_⟩)
    rw [any_py q2 q1]
    exact SO.pure M k (.bl _) q
  · exact q.elim
theorem o_notin (hu : X.A.units + 65 < cLine) : OpD X (compareOp .NotIn) (oL (inD (!·))) := by
  refine ⟨_, op_notIn_str.or (op_notIn_seq.or (op_notInD hu)), SO.of fun B μ m H v u dx dy Q QV M tx ty q k => ?_⟩
  unfold inD at q
  split at q
  · cases tx with
    | str h1 => cases ty with
      | str h2 => exact .inl ⟨_, _, rfl, rfl, SO.pure M k (.bl _) q⟩
  · obtain ⟨a, vs, rfl, hs, r⟩ := ty
    obtain ⟨q1, q2, q⟩ := q
    refine .inr (.inl ⟨a, vs, rfl, .inr (M.le.tup hs), flat_v tx q1, flat_vs r q2, ?_⟩)
    rw [inV_d tx q1 r q2]
    exact SO.pure M k (.bl _) q
  · obtain ⟨q1, q2, q3, q4, q⟩ := q
    obtain ⟨a, b, c, d⟩ := eqD_ok (dy := .lst _) M.le tx ty q1 q2 q3 q4
    refine .inr (.inr ⟨_, pyL _, a, b, c, d, ?_⟩)
    rw [any_py q2 q1]
    exact SO.pure M k (.bl _) q
  · exact q.elim
end
end Fs
set_option Elab.async false
set_option linter.all false
set_option maxRecDepth 100000
set_option maxHeartbeats 8000000
namespace Fs
open PySem PySem.Spec PyProof.Rows L2
/-! ### subscripts -/
def ixD : F2
  | .lst ds, .int i, Q => ∃ d, atI ds i = some d ∧ Q d
  | .tup ds, .int i, Q => ∃ d, atI ds i = some d ∧ Q d
  | .str x, .int i, Q => x.length ≤ sizeLine ∧ ∃ c, atI x.cps.toList i = some c ∧ Q (.str ⟨#[c]⟩)
  | _, _, _ => False
theorem atI_d {K : Frag} {B : Hp} {vs : List V} {ds : List D} {i : Int} {d : D} (r : RvL K B vs ds) (h : atI ds i = some d) : ∃ v, atI vs i = some v ∧ Rv K B v d := by
  unfold atI at h ⊢
  rw [r.len]
  cases q : ixN ds.length i with
  | none => rw [q] at h; cases h
  | some j =>
    rw [q] at h
    obtain ⟨v, h1, h2⟩ := r.at (i := j) (d := d) h
    exact ⟨v, h1, h2⟩
theorem atI_mem {α : Type} {xs : List α} {i : Int} {x : α} (h : atI xs i = some x) : x ∈ xs := by
  unfold atI at h
  cases q : ixN xs.length i with
  | none => rw [q] at h; cases h
  | some j =>
    rw [q] at h
    exact List.mem_of_getElem? h
section
variable {X : Cx} {E : XK}
theorem d_ix {a b : Expr} {ta tb : DTE} {pos : Pos} (ha : DE X E a ta) (hb : DE X E b tb) (hs : PlainIx b := by exact fun _ _ => rfl) : DE X E (.Subscript a b pos) (tO2 (oL ixD) ta tb) := by
  obtain ⟨t1, p1, k1⟩ := ha.ex
  obtain ⟨t2, p2, k2⟩ := hb.ex
  refine ⟨_, pe_ix ((IxR.or ix_list ix_tup).or ix_str) p1 p2 hs, SE.two (SO.of fun B μ m H v u dx dy Q QV M tx ty q k => ?_) k1 k2⟩
  unfold ixD at q
  split at q
  · obtain ⟨p, vs, rfl, hp, r⟩ := tx
    cases ty
    obtain ⟨d, hd, q⟩ := q
    obtain ⟨z, hz, rz⟩ := atI_d r hd
    exact .inl (.inl ⟨p, vs, _, z, rfl, rfl, .inl (.inl hp), hz, SO.pure M k rz q⟩)
  · obtain ⟨p, vs, rfl, hp, r⟩ := tx
    cases ty
    obtain ⟨d, hd, q⟩ := q
    obtain ⟨z, hz, rz⟩ := atI_d r hd
    exact .inl (.inr ⟨p, vs, _, z, rfl, rfl, M.le.tup hp, hz, SO.pure M k rz q⟩)
  · cases tx with
    | str h1 =>
      cases ty
      obtain ⟨hl, c, hc, q⟩ := q
      refine .inr ⟨_, _, c, rfl, rfl, hl, hc, SO.pure M k (.str ?_) q⟩
      refine okS_iff.mpr fun c' h' => ?_
      have e : c' = c := by simpa using h'
      rw [e]
      exact okS_iff.mp h1 _ (atI_mem hc)
  · exact q.elim
/-! ### slices -/
abbrev DTO := En → Me → (Option Int → Me → Prop) → QX → Prop
structure DO (X : Cx) (E : XK) (e : Option Expr) (T : DTO) : Prop where
  ex : ∃ t, PO X e t ∧ ∀ B μ en m σ H (Q : Option Int → Me → Prop) (Qx : QX) (QV : Option Int → Hp → Prop), Rel X.K B μ en m σ H → ExOf X.K E B μ m H Qx → T en m Q Qx →
    (∀ B' μ' m' H' b, Stp B μ m H B' μ' m' H' → Rel X.K B' μ' en m' σ H' → Q b m' → QV b H') → t σ H QV
def tNoP : DTO := fun _ m Q _ => Q none m
def iD : W → (Int → Prop) → Prop
  | .v (.int i), Q => Q i
  | _, _ => False
def tSoP (te : DTE) : DTO := fun en m Q Qx => te en m (fun x m1 => iD x fun i => Q (some i) m1) Qx
theorem iD_ok {K : Frag} {B : Hp} {μ : List Addr} {v : V} {x : W} {Q : Int → Prop} (r : RW K B μ v x) (q : iD x Q) : ∃ i, v = .int i ∧ Q i := by
  unfold iD at q
  split at q
  · cases (show Rv K B v (.int _) from r)
    exact ⟨_, rfl, q⟩
  · exact q.elim
theorem do_none : DO X E none tNoP := ⟨_, po_none, fun B μ en m σ H Q Qx QV R hx T k => k B μ m H none .refl R T⟩
theorem do_some {e : Expr} {te : DTE} (h : DE X E e te) : DO X E (some e) (tSoP te) := by
  obtain ⟨t1, p1, k1⟩ := h.ex
  refine ⟨_, po_some p1, fun B μ en m σ H Q Qx QV R hx T k => ?_⟩
  refine k1 B μ en m σ H _ Qx _ R hx T fun B1 μ1 m1 H1 x v s1 R1 r q => ?_
  obtain ⟨i, rfl, q⟩ := iD_ok r q
  exact ⟨i, rfl, k B1 μ1 m1 H1 _ s1 R1 q⟩
def cutD (xs : List D) (lo hi : Option Int) : List D := (xs.drop (HT.sIx xs.length 0 lo)).take (HT.sIx xs.length xs.length hi - HT.sIx xs.length 0 lo)
theorem cut_d {K : Frag} {B : Hp} {vs : List V} {ds : List D} (r : RvL K B vs ds) (lo hi : Option Int) : RvL K B (cutV vs lo hi) (cutD ds lo hi) := by
  unfold cutV cutD
  rw [r.len]
  exact (r.drop _).take _
def slD (lo hi : Option Int) : D → (D → Prop) → Prop
  | .lst ds, Q => Q (.lst (cutD ds lo hi))
  | .tup ds, Q => Q (.tup (cutD ds lo hi))
  | .str x, Q => x.length ≤ sizeLine ∧ Q (.str (Txt.slice x lo hi))
  | _, _ => False
theorem okS_slice {x : Str} {lo hi : Option Int} (h : okS x = true) : okS (Txt.slice x lo hi) = true := by
  rw [← C8.cutS_slice]
  refine okS_iff.mpr fun c hc => okS_iff.mp h c ?_
  unfold cutS at hc
  simp only at hc
  exact List.mem_of_mem_drop (List.mem_of_mem_take hc)
def tSlD (te : DTE) (tl th : DTO) : DTE := fun en m Q Qx => te en m (fun x m1 => tl en m1 (fun l m2 => th en m2 (fun u m3 => look x m3 fun d => slD l u d fun r => Q (.v r) m3) Qx) Qx) Qx
theorem d_slice {e : Expr} {lo hi : Option Expr} {te : DTE} {tl th : DTO} {p2 pos : Pos} (he : DE X E e te) (hl : DO X E lo tl) (hh : DO X E hi th) : DE X E (.Subscript e (.Slice lo hi none p2) pos) (tSlD te tl th) := by
  obtain ⟨t1, p1, k1⟩ := he.ex
  obtain ⟨t2, p2, k2⟩ := hl.ex
  obtain ⟨t3, p3, k3⟩ := hh.ex
  refine ⟨_, pe_slice ((SlR.or sl_list sl_tupA).or C8.sl_txt) p1 p2 p3, fun B μ en m σ H Q Qx QV R hx T k => ?_⟩
  refine k1 B μ en m σ H _ Qx _ R hx T fun B1 μ1 m1 H1 x v s1 R1 r T1 => ?_
  refine k2 B1 μ1 en m1 σ H1 _ Qx _ R1 (hx.step s1 R1.mem R.mem.le) T1 fun B2 μ2 m2 H2 l s2 R2 T2 => ?_
  have s12 := s1.trans R1.mem s2 R.mem.le
  refine k3 B2 μ2 en m2 σ H2 _ Qx _ R2 (hx.step s12 R2.mem R.mem.le) T2 fun B3 μ3 m3 H3 u s3 R3 T3 => ?_
  have s13 := s12.trans R2.mem s3 R.mem.le
  obtain ⟨d, tx, q⟩ := look_ok R3.mem ((r.to s2.same s2.pre).to s3.same s3.pre) T3
  have fin : ∀ B' H' d z, Stp B3 μ3 m3 H3 B' μ3 m3 H' → MemOk X.K B' μ3 m3 H' → Rv X.K B' z d → Q (.v d) m3 → QV z H' := fun B' H' d z s' M' rz q => by
    have st := s13.trans R3.mem s' R.mem.le
    exact k B' μ3 m3 H' (.v d) z st (R.stp st M') rz q
  cases d with
  | lst ds =>
    obtain ⟨p, vs, rfl, hp, rl⟩ := tx
    exact .inl (.inl ⟨p, vs, rfl, .inl (.inl hp), fun p np => SO.new (Q := fun d => Q (.v d) m3) R3.mem fin np (new_lst R3.mem np (cut_d rl l u)) q⟩)
  | tup ds =>
    obtain ⟨p, vs, rfl, hp, rl⟩ := tx
    refine .inl (.inr ⟨p, vs, rfl, R3.mem.le.tup hp, fun hw => ?_, fun _ p np => SO.new (Q := fun d => Q (.v d) m3) R3.mem fin np (new_tup R3.mem np (cut_d rl l u)) q⟩)
    have e : cutD ds l u = ds := by
      unfold cutD
      rw [← rl.len, hw.1, hw.2, List.drop_zero, Nat.sub_zero, List.take_of_length_le (by rw [rl.len]; exact Nat.le_refl _)]
    have q : Q (.v (.tup (cutD ds l u))) m3 := q
    rw [e] at q
    exact SO.pure (Q := fun d => Q (.v d) m3) R3.mem fin (.tup hp rl) q
  | str z =>
    cases tx with
    | str h1 => exact .inr ⟨_, rfl, q.1, SO.pure (Q := fun d => Q (.v d) m3) R3.mem fin (.str (okS_slice h1)) q.2⟩
  | _ => exact q.elim
end
/-! ### calls of built-in functions -/
abbrev DCa := List W → Me → (D → Prop) → Prop
def SC (X : Cx) (r : List V → Hp → VK → Prop) (o : DCa) : Prop := ∀ B μ m H xs vs (Q : D → Prop) (QV : VK), MemOk X.K B μ m H → RWs X.K B μ vs xs → o xs m Q →
  (∀ B' H' d z, Stp B μ m H B' μ m H' → MemOk X.K B' μ m H' → Rv X.K B' z d → Q d → QV z H') → r vs H QV
def tCa (o : DCa) (ta : DTA) : DTE := fun en m Q Qx => ta en m (fun xs m1 => o xs m1 fun d => Q (.v d) m1) Qx
section
variable {X : Cx} {E : XK} {x : Str} {e : Expr} {es : List Expr} {p pos : Pos} {ta : DTA} {o : DCa} {r : List V → Hp → VK → Prop}
theorem SA.ca {t : TA} (h : SA X E t ta) (so : SC X r o) : SE X E (fun σ H Q => t σ H fun xs H1 => r xs H1 Q) (tCa o ta) := by
  intro B μ en m σ H Q Qx QV R hx T k
  refine h B μ en m σ H _ Qx _ R hx T fun B1 μ1 m1 H1 xs vs s1 R1 r1 q => ?_
  refine so B1 μ1 m1 H1 xs vs _ _ R1.mem r1 q fun B2 H2 d z s2 M2 rz q2 => ?_
  have st := s1.trans R1.mem s2 R.mem.le
  exact k B2 μ1 m1 H2 (.v d) z st (R.stp st M2) rz q2
theorem d_fn {id : String} (hc : CallR X (.builtin id) r) (so : SC X r o) (hm : X.mg x = none) (hv : bootBuiltins x = some (.builtin id)) (ha : DA X E (e :: es) ta) (hg : Gl X x := by rfl) (hn : x ≠ "__name__" := by decide) (hdb : (x == ("__debug__" : Str)) = false := by decide)
    (he : starEach (e :: es) X.env = (false, eval e X.env) :: starEach es X.env := by rfl) (hpl : (backTo pos (starEach es X.env)).any (·.1) = false := by rfl) :
    DE X E (.Call (.Name x p) (e :: es) [] pos) (tCa o ta) := by
  obtain ⟨t1, p1, k1⟩ := ha.ex
  exact ⟨_, pe_callB hc hg hm hv p1 hn hdb he hpl, k1.ca so⟩
theorem d_tyc {T : String} (hc : CallR X (.type T) r) (so : SC X r o) (hm : X.mg x = none) (hv : bootBuiltins x = some (.type T)) (ha : DA X E (e :: es) ta) (hg : Gl X x := by rfl) (hn : x ≠ "__name__" := by decide) (hdb : (x == ("__debug__" : Str)) = false := by decide)
    (he : starEach (e :: es) X.env = (false, eval e X.env) :: starEach es X.env := by rfl) (hpl : (backTo pos (starEach es X.env)).any (·.1) = false := by rfl) :
    DE X E (.Call (.Name x p) (e :: es) [] pos) (tCa o ta) := by
  obtain ⟨t1, p1, k1⟩ := ha.ex
  exact ⟨_, pe_callTy hc hg hm hv p1 hn hdb he hpl, k1.ca so⟩
theorem CallR.or {f : Value} {r r' : List V → Hp → VK → Prop} (h : CallR X f r) (h' : CallR X f r') : CallR X f (fun xs H Q => r xs H Q ∨ r' xs H Q) := by
  intro pins s σ H xs us Q I rx q
  rcases q with q | q
  · exact h pins s σ H xs us Q I rx q
  · exact h' pins s σ H xs us Q I rx q
/-- of one argument, by what it shows -/
def c1 (f : D → (D → Prop) → Prop) : DCa := fun xs m Q => match xs with
  | [x] => look x m fun d => f d Q
  | _ => False
theorem SC.of1 {f : D → (D → Prop) → Prop} (h : ∀ B μ m H v d (Q : D → Prop) (QV : VK), MemOk X.K B μ m H → Top X.K B H v d → f d Q →
    (∀ B' H' d z, Stp B μ m H B' μ m H' → MemOk X.K B' μ m H' → Rv X.K B' z d → Q d → QV z H') → r [v] H QV) : SC X r (c1 f) := by
  intro B μ m H xs vs Q QV M rs q k
  cases rs with
  | nil => exact q.elim
  | cons a t =>
    cases t with
    | cons _ _ => exact q.elim
    | nil =>
      obtain ⟨d, td, q⟩ := look_ok M a q
      exact h B μ m H _ d Q QV M td q k
def c2 (f : F2) : DCa := fun xs m Q => match xs with
  | [x, y] => look x m fun d => look y m fun e => f d e Q
  | _ => False
theorem SC.of2 {f : F2} (h : ∀ B μ m H v u d e (Q : D → Prop) (QV : VK), MemOk X.K B μ m H → Top X.K B H v d → Top X.K B H u e → f d e Q →
    (∀ B' H' d z, Stp B μ m H B' μ m H' → MemOk X.K B' μ m H' → Rv X.K B' z d → Q d → QV z H') → r [v, u] H QV) : SC X r (c2 f) := by
  intro B μ m H xs vs Q QV M rs q k
  cases rs with
  | nil => exact q.elim
  | cons a t =>
    cases t with
    | nil => exact q.elim
    | cons b t =>
      cases t with
      | cons _ _ => exact q.elim
      | nil =>
        obtain ⟨d, td, q⟩ := look_ok M a q
        obtain ⟨e, te, q⟩ := look_ok M b q
        exact h B μ m H _ _ d e Q QV M td te q k
/-! len -/
def lenD : D → (D → Prop) → Prop
  | .lst ds, Q => Q (.int ds.length)
  | .tup ds, Q => Q (.int ds.length)
  | .str x, Q => x.length ≤ sizeLine ∧ Q (.int x.length)
  | .dic ds, Q => Q (.int ds.length)
  | _, _ => False
/-- len of a dict, locked or not -/
theorem call_lenF : CallR X (.builtin "len") (fun xs H Q => ∃ d kvs, xs = [.ref d] ∧ Rd H d (.dK kvs) ∧ Q (.int kvs.length) H) := by
  intro pins s σ H xs us Q I r h
  obtain ⟨d, kvs, rfl, hd, q⟩ := h
  obtain ⟨u, rfl, rx⟩ := vals1 r
  cases rx
  obtain ⟨z, dd, vs, rel, hD⟩ := (show ObjOk X.prog X.w H s.heap d (.dK kvs) from hd.ok I.hok)
  have hl := line63
  have hs : sizeLine = 16777216 := sizeLine_eq
  have rl := rel.length
  refine call_len_dict dd hD (by omega) ?_
  exact ⟨.int _, H, I.tok _, ⟨_, by rw [← rl]⟩, q⟩
theorem c_len : SC X (fun xs H Q => (∃ p ys, xs = [.ref p] ∧ (SqL X.K H p ys ∨ SqT X.K H p ys) ∧ Q (.int ys.length) H) ∨ (∃ z, xs = [.str z] ∧ z.length ≤ sizeLine ∧ Q (.int z.length) H) ∨ (∃ d kvs, xs = [.ref d] ∧ Rd H d (.dK kvs) ∧ Q (.int kvs.length) H)) (c1 lenD) := SC.of1 fun B μ m H v d Q QV M td q k => by
  cases d with
  | lst ds =>
    obtain ⟨p, vs, rfl, hp, r⟩ := td
    exact .inl ⟨p, vs, rfl, .inl (.inl (.inl hp)), SO.pure M k (.int _) (by rw [r.len]; exact q)⟩
  | tup ds =>
    obtain ⟨p, vs, rfl, hp, r⟩ := td
    exact .inl ⟨p, vs, rfl, .inr (M.le.tup hp), SO.pure M k (.int _) (by rw [r.len]; exact q)⟩
  | str x =>
    cases td
    exact .inr (.inl ⟨_, rfl, q.1, SO.pure M k (.int _) q.2⟩)
  | dic ds =>
    obtain ⟨p, vs, rfl, hp, r⟩ := td
    exact .inr (.inr ⟨p, vs, rfl, hp, SO.pure M k (.int _) (by rw [r.len]; exact q)⟩)
  | _ => exact q.elim
theorem cr_len : CallR X (.builtin "len") (fun xs H Q => (∃ p ys, xs = [.ref p] ∧ (SqL X.K H p ys ∨ SqT X.K H p ys) ∧ Q (.int ys.length) H) ∨ (∃ z, xs = [.str z] ∧ z.length ≤ sizeLine ∧ Q (.int z.length) H) ∨ (∃ d kvs, xs = [.ref d] ∧ Rd H d (.dK kvs) ∧ Q (.int kvs.length) H)) := call_len_seq.or (call_len_str.or call_lenF)
theorem d_len (hm : X.mg "len" = none) (ha : DA X E [e] ta) (hg : Gl X "len" := by rfl) (he : starEach [e] X.env = (false, eval e X.env) :: starEach [] X.env := by rfl) (hpl : (backTo pos (starEach [] X.env)).any (·.1) = false := by rfl) : DE X E (.Call (.Name "len" p) [e] [] pos) (tCa (c1 lenD) ta) :=
  d_fn cr_len c_len hm PySem.boot_len ha hg (by decide) (by decide) he hpl
/-! int(x), str(i), abs -/
def intD : D → (D → Prop) → Prop
  | .int i, Q => Q (.int i)
  | .bl b, Q => Q (.int (if b then 1 else 0))
  | .str x, Q => ∃ n, PySem.intText? x = some n ∧ x.length ≤ 640 ∧ Q (.int n)
  | _, _ => False
theorem c_int : SC X (fun xs H Q => ((∃ i, xs = [.int i] ∧ Q (.int i) H) ∨ ∃ k, xs = [.bl k] ∧ Q (.int (if k then 1 else 0)) H) ∨ (∃ a n, xs = [.str a] ∧ PySem.intText? a = some n ∧ a.length ≤ 640 ∧ Q (.int n) H)) (c1 intD) := SC.of1 fun B μ m H v d Q QV M td q k => by
  cases d with
  | int i => cases td; exact .inl (.inl ⟨_, rfl, SO.pure M k (.int _) q⟩)
  | bl i => cases td; exact .inl (.inr ⟨_, rfl, SO.pure M k (.int _) q⟩)
  | str x =>
    cases td
    obtain ⟨n, h1, h2, q⟩ := q
    exact .inr ⟨_, n, rfl, h1, h2, SO.pure M k (.int _) q⟩
  | _ => exact q.elim
theorem d_toInt (hm : X.mg "int" = none) (ha : DA X E [e] ta) (hg : Gl X "int" := by rfl) (he : starEach [e] X.env = (false, eval e X.env) :: starEach [] X.env := by rfl) (hpl : (backTo pos (starEach [] X.env)).any (·.1) = false := by rfl) : DE X E (.Call (.Name "int" p) [e] [] pos) (tCa (c1 intD) ta) :=
  d_tyc (call_int1.or call_int_str) c_int hm (by decide +kernel) ha hg (by decide) (by decide) he hpl
theorem char_lt (c : Char) : c.toNat < 0x110000 := by
  have h := c.valid
  unfold UInt32.isValidChar Nat.isValidChar at h
  show c.val.toNat < 0x110000
  omega
theorem okS_ofString (z : String) : okS (Str.ofString z) = true := by
  rw [Str.ofString_eq_toList]
  refine okS_iff.mpr fun c hc => ?_
  simp only [List.mem_map] at hc
  obtain ⟨d, _, rfl⟩ := hc
  exact char_lt d
theorem okS_int (i : Int) : okS (toString i : Str) = true := okS_ofString _
def strD : D → (D → Prop) → Prop
  | .int i, Q => i.natAbs.log2 < 1920 ∧ Q (.str (toString i))
  | .str x, Q => Q (.str x)
  | _, _ => False
theorem c_str : SC X (fun xs H Q => (∃ i, xs = [.int i] ∧ i.natAbs.log2 < 1920 ∧ Q (.str (toString i)) H) ∨ (∃ a, xs = [.str a] ∧ Q (.str a) H)) (c1 strD) := SC.of1 fun B μ m H v d Q QV M td q k => by
  cases d with
  | int i => cases td; exact .inl ⟨_, rfl, q.1, SO.pure M k (.str (okS_int i)) q.2⟩
  | str i => cases td with
    | str h => exact .inr ⟨_, rfl, SO.pure M k (.str h) q⟩
  | _ => exact q.elim
theorem d_toStr (hm : X.mg "str" = none) (ha : DA X E [e] ta) (hg : Gl X "str" := by rfl) (he : starEach [e] X.env = (false, eval e X.env) :: starEach [] X.env := by rfl) (hpl : (backTo pos (starEach [] X.env)).any (·.1) = false := by rfl) : DE X E (.Call (.Name "str" p) [e] [] pos) (tCa (c1 strD) ta) :=
  d_tyc (call_str_int.or SkE.call_str_str) c_str hm (by decide +kernel) ha hg (by decide) (by decide) he hpl
def absD : D → (D → Prop) → Prop
  | .int i, Q => Q (.int (i.natAbs : Nat))
  | _, _ => False
theorem d_abs (hm : X.mg "abs" = none) (ha : DA X E [e] ta) (hg : Gl X "abs" := by rfl) (he : starEach [e] X.env = (false, eval e X.env) :: starEach [] X.env := by rfl) (hpl : (backTo pos (starEach [] X.env)).any (·.1) = false := by rfl) : DE X E (.Call (.Name "abs" p) [e] [] pos) (tCa (c1 absD) ta) :=
  d_fn call_abs (SC.of1 fun B μ m H v d Q QV M td q k => by
    cases d with
    | int i =>
      cases td
      have e : (if i < 0 then -i else i) = ((i.natAbs : Nat) : Int) := by split <;> omega
      exact ⟨_, rfl, by rw [e]; exact SO.pure M k (.int _) q⟩
    | _ => exact q.elim) hm (by decide +kernel) ha hg (by decide) (by decide) he hpl
/-! list(x), tuple(x) -/
def toLst : D → (D → Prop) → Prop
  | .lst ds, Q => Q (.lst ds)
  | .tup ds, Q => Q (.lst ds)
  | _, _ => False
theorem d_list (hm : X.mg "list" = none) (ha : DA X E [e] ta) (hg : Gl X "list" := by rfl) (he : starEach [e] X.env = (false, eval e X.env) :: starEach [] X.env := by rfl) (hpl : (backTo pos (starEach [] X.env)).any (·.1) = false := by rfl) : DE X E (.Call (.Name "list" p) [e] [] pos) (tCa (c1 toLst) ta) :=
  d_tyc call_list_of (SC.of1 fun B μ m H v d Q QV M td q k => by
    cases d with
    | lst ds =>
      obtain ⟨p, vs, rfl, hp, r⟩ := td
      exact ⟨p, vs, rfl, .inl (.inl (.inl hp)), fun l nl => SO.new M k nl (new_lst M nl r) q⟩
    | tup ds =>
      obtain ⟨p, vs, rfl, hp, r⟩ := td
      exact ⟨p, vs, rfl, .inr (M.le.tup hp), fun l nl => SO.new M k nl (new_lst M nl r) q⟩
    | _ => exact q.elim) hm (by decide +kernel) ha hg (by decide) (by decide) he hpl
def toTup : D → (D → Prop) → Prop
  | .lst ds, Q => Q (.tup ds)
  | .tup ds, Q => Q (.tup ds)
  | _, _ => False
theorem d_tuple (hm : X.mg "tuple" = none) (ha : DA X E [e] ta) (hg : Gl X "tuple" := by rfl) (he : starEach [e] X.env = (false, eval e X.env) :: starEach [] X.env := by rfl) (hpl : (backTo pos (starEach [] X.env)).any (·.1) = false := by rfl) : DE X E (.Call (.Name "tuple" p) [e] [] pos) (tCa (c1 toTup) ta) :=
  d_tyc call_tuple_of (SC.of1 fun B μ m H v d Q QV M td q k => by
    cases d with
    | lst ds =>
      obtain ⟨p, vs, rfl, hp, r⟩ := td
      exact ⟨p, vs, rfl, .inl ⟨.inl (.inl hp), fun l nl => SO.new M k nl (new_tup M nl r) q⟩⟩
    | tup ds =>
      obtain ⟨p, vs, rfl, hp, r⟩ := td
      exact ⟨p, vs, rfl, .inr ⟨M.le.tup hp, SO.pure M k (.tup hp r) q⟩⟩
    | _ => exact q.elim) hm (by decide +kernel) ha hg (by decide) (by decide) he hpl
/-! all, any, sum -/
def bools : List D → (List Bool → Prop) → Prop
  | [], Q => Q []
  | .bl b :: r, Q => bools r fun bs => Q (b :: bs)
  | _ :: _, _ => False
theorem bools_ok {K : Frag} {B : Hp} : ∀ {ds : List D} {vs : List V} {Q : List Bool → Prop}, RvL K B vs ds → bools ds Q → ∃ bs, vs = bs.map V.bl ∧ Q bs
  | [], _, _, .nil, q => ⟨[], rfl, q⟩
  | .bl b :: r, _, Q, .cons a t, q => by
    cases a
    obtain ⟨bs, rfl, k⟩ := bools_ok (Q := fun bs => Q (b :: bs)) t q
    exact ⟨b :: bs, rfl, k⟩
  | .non :: _, _, _, _, q => q.elim
  | .int _ :: _, _, _, _, q => q.elim
  | .str _ :: _, _, _, _, q => q.elim
  | .ty _ :: _, _, _, _, q => q.elim
  | .fn _ :: _, _, _, _, q => q.elim
  | .tup _ :: _, _, _, _, q => q.elim
  | .lst _ :: _, _, _, _, q => q.elim
  | .dic _ :: _, _, _, _, q => q.elim
  | .obj _ _ :: _, _, _, _, q => q.elim
  | .exc _ _ :: _, _, _, _, q => q.elim
def blL (f : List Bool → Bool) : D → (D → Prop) → Prop
  | .lst ds, Q => bools ds fun bs => Q (.bl (f bs))
  | _, _ => False
theorem d_all (hc : X.calm = true) (hm : X.mg "all" = none) (ha : DA X E [e] ta) (hg : Gl X "all" := by rfl) (he : starEach [e] X.env = (false, eval e X.env) :: starEach [] X.env := by rfl) (hpl : (backTo pos (starEach [] X.env)).any (·.1) = false := by rfl) : DE X E (.Call (.Name "all" p) [e] [] pos) (tCa (c1 (blL fun bs => bs.all id)) ta) :=
  d_fn (cr_all hc) (SC.of1 fun B μ m H v d Q QV M td q k => by
    cases d with
    | lst ds =>
      obtain ⟨p, vs, rfl, hp, r⟩ := td
      obtain ⟨bs, rfl, q⟩ := bools_ok r q
      exact ⟨p, bs, rfl, .inl (.inl hp), SO.pure M k (.bl _) q⟩
    | _ => exact q.elim) hm (by decide +kernel) ha hg (by decide) (by decide) he hpl
theorem d_any (hc : X.calm = true) (hm : X.mg "any" = none) (ha : DA X E [e] ta) (hg : Gl X "any" := by rfl) (he : starEach [e] X.env = (false, eval e X.env) :: starEach [] X.env := by rfl) (hpl : (backTo pos (starEach [] X.env)).any (·.1) = false := by rfl) : DE X E (.Call (.Name "any" p) [e] [] pos) (tCa (c1 (blL fun bs => bs.any id)) ta) :=
  d_fn (cr_any hc) (SC.of1 fun B μ m H v d Q QV M td q k => by
    cases d with
    | lst ds =>
      obtain ⟨p, vs, rfl, hp, r⟩ := td
      obtain ⟨bs, rfl, q⟩ := bools_ok r q
      exact ⟨p, bs, rfl, .inl (.inl hp), SO.pure M k (.bl _) q⟩
    | _ => exact q.elim) hm (by decide +kernel) ha hg (by decide) (by decide) he hpl
end
end Fs
set_option Elab.async false
set_option linter.all false
set_option maxRecDepth 100000
set_option maxHeartbeats 8000000
namespace Fs
open PySem PySem.Spec PyProof.Rows L2
section
variable {X : Cx} {E : XK} {tg : Expr}
/-! ### iterables -/
def chD (x : Str) : List D := x.cps.toList.map fun c => .str ⟨#[c]⟩
theorem walkD_fn {K : Frag} {B0 : Hp} {J : It} {its : List D} {f : Nat → V} (w : Walk J its.length (fun _ => True) (YFn f)) (h : ∀ (i : Nat) (d : D), its[i]? = some d → Rv K B0 (f i) d) : WalkD K B0 J its :=
  ⟨_, _, w, fun _ _ _ _ _ _ => True.intro, fun i B μ mem H x H' hi s M ⟨y1, y2⟩ => by
    subst y1 y2
    exact ⟨B, its[i], List.getElem?_eq_getElem hi, .refl, M, (h i _ (List.getElem?_eq_getElem hi)).to s⟩⟩
theorem walkD_lst {K : Frag} {B0 : Hp} {a : Addr} {vs : List V} {ds : List D} (h : B0 a = some (.lst vs)) (r : RvL K B0 vs ds) : WalkD K B0 (Itl K a) ds := by
  refine ⟨fun H => SqL K H a vs, YAt vs, by rw [← r.len]; exact walk_list, fun B μ mem H s M => .inl (.inl (M.le _ _ (s _ _ h))), fun i B μ mem H x H' hi s M ⟨y1, y2⟩ => ?_⟩
  subst y1
  obtain ⟨d, hd, rd⟩ := r.at' y2
  exact ⟨B, d, hd, .refl, M, rd.to s⟩
theorem walkD_tup {K : Frag} {B0 : Hp} {a : Addr} {vs : List V} {ds : List D} (h : TqT K B0 a vs) (r : RvL K B0 vs ds) : WalkD K B0 (Itt K a) ds := by
  refine ⟨fun H => SqT K H a vs, YAt vs, by rw [← r.len]; exact walk_tup, fun B μ mem H s M => M.le.tup (TqT.to s h), fun i B μ mem H x H' hi s M ⟨y1, y2⟩ => ?_⟩
  subst y1
  obtain ⟨d, hd, rd⟩ := r.at' y2
  exact ⟨B, d, hd, .refl, M, rd.to s⟩
theorem walkD_str {K : Frag} {B0 : Hp} {x : Str} (h : okS x = true) : WalkD K B0 (Its x) (chD x) := by
  refine ⟨fun _ => True, fun i H v H' => H' = H ∧ ∃ c, x.cps[i]? = some c ∧ v = .str ⟨#[c]⟩, by unfold chD; rw [List.length_map, Array.length_toList]; exact walk_str, fun _ _ _ _ _ _ => True.intro, fun i B μ mem H y H' hi s M ⟨y1, c, hc, y2⟩ => ?_⟩
  subst y1 y2
  rw [← Array.getElem?_toList] at hc
  refine ⟨B, .str ⟨#[c]⟩, ?_, .refl, M, .str (okS_iff.mpr fun c' hc' => ?_)⟩
  · unfold chD
    rw [List.getElem?_map, hc]
    rfl
  · have e : c' = c := by simpa using hc'
    rw [e]
    exact okS_iff.mp h _ (List.mem_of_getElem? hc)
/-- a key as a datum -/
def kD : Key → D
  | .inl i => .int i
  | .inr x => .str x
/-- by what is walked, whatever it is -/
def iAny (K : Frag) (te : TE) : TI := fun σ H R => te σ H fun x H1 => (∃ a xs, x = .ref a ∧ SqL K H1 a xs ∧ R (Itl K a) H1) ∨ (∃ a xs, x = .ref a ∧ SqT K H1 a xs ∧ R (Itt K a) H1) ∨ (∃ z, x = .str z ∧ R (Its z) H1) ∨
  ∃ d o kvs, x = .ref d ∧ H1 d = some (.frz o (.dK kvs)) ∧ R (Itk d o kvs) H1
theorem pi_any {e : Expr} {te : TE} (he : PE X e te) : PI X tg e (iAny X.K te) := by
  refine ⟨fun pins s σ H R I h => ?_⟩
  refine thn (he.run pins s σ H _ I h) fun v s1 ⟨x, H1, I1, r1, q1⟩ => ?_
  rcases q1 with ⟨a, xs, rfl, hq, q⟩ | ⟨a, xs, rfl, hq, q⟩ | ⟨z, rfl, q⟩ | ⟨d, o, kvs, rfl, hd, q⟩
  · cases r1
    obtain ⟨its, rv, p, hz⟩ := I1.list hq
    exact wpAny_pyIter_list p.isList (pi_one (tk := s1.toks) I1 _ (turn_list a _) ⟨_, Heap.get?_push_size _ rfl, rfl, rfl⟩ q)
  · cases r1
    obtain ⟨its, rv, p, hz⟩ := I1.tuple hq
    exact wpAny_pyIter_tuple (show s1.heap.IsTuple a its.toArray from p) (pi_one (tk := s1.toks) I1 _ (turn_tuple a _) ⟨_, Heap.get?_push_size _ rfl, rfl, rfl⟩ q)
  · obtain ⟨t, rfl⟩ := r1
    cases ha : z.cps.all (· < 128)
    · exact wpAny_pyIter_wide ha (pi_one (tk := s1.toks) I1 _ (turn_str _ z t "str_iterator" (.inr rfl)) ⟨_, Heap.get?_push_size _ rfl, rfl, rfl⟩ q)
    · exact wpAny_pyIter_ascii ha (pi_one (tk := s1.toks) I1 _ (turn_str _ z t "str_ascii_iterator" (.inl rfl)) ⟨_, Heap.get?_push_size _ rfl, rfl, rfl⟩ q)
  · cases r1
    obtain ⟨hs, hgd, hx, es, ep, vs, hdt, hsz, kv, hm⟩ := I1.frzK hd
    refine iter_keys hs hgd hx hdt (pi_one (tk := s1.toks) I1 _ (turn_keys _ hdt) ⟨_, Heap.get?_push_size _ rfl, rfl, ?_⟩ q)
    rw [hsz] <;> rfl
def iterD : D → (List D → Prop) → Prop
  | .lst ds, Q => Q ds
  | .tup ds, Q => Q ds
  | .str x, Q => Q (chD x)
  | .dic kvs, Q => Q (kvs.map fun p => kD p.1)
  | _, _ => False
/-- an own list is walked as a datum alone -/
def tIt (te : DTE) : DTI := fun en m Q Qx => te en m (fun x m1 => oD x fun d => iterD d fun its => Q its m1) Qx
theorem kD_rv {K : Frag} {B : Hp} {k : Key} (h : KeyOk k) : Rv K B (kV k) (kD k) := by
  cases k with
  | inl i => exact .int i
  | inr x => exact .str h
theorem RvK.at' {K : Frag} {H : Hp} : ∀ {vs : List (Key × V)} {ds : List (Key × D)} {i : Nat} {k : Key} {v : V}, RvK K H vs ds → vs[i]? = some (k, v) → ∃ d, ds[i]? = some (k, d) ∧ Rv K H v d ∧ KeyOk k
  | _, _, _, _, _, .nil, e => by simp at e
  | _, _, 0, k, v, .cons (d := d) ko h _, e => by
    simp at e
    obtain ⟨rfl, rfl⟩ := e
    exact ⟨d, rfl, h, ko⟩
  | _, _, i + 1, k, v, .cons _ _ t, e => by
    obtain ⟨d, h1, h2⟩ := RvK.at' (i := i) (k := k) (v := v) t (by simpa using e)
    exact ⟨d, by simpa using h1, h2⟩
theorem walkD_keys {K : Frag} {B0 : Hp} {d : Addr} {o : Obj} {vs : List (Key × V)} {ds : List (Key × D)} (h : B0 d = some (.frz o (.dK vs))) (r : RvK K B0 vs ds) : WalkD K B0 (Itk d o vs) (ds.map fun p => kD p.1) := by
  refine ⟨fun H => H d = some (.frz o (.dK vs)), fun i H x H' => H' = H ∧ ∃ k v, vs[i]? = some (k, v) ∧ x = kV k, by rw [List.length_map, ← r.len]; exact walk_keys, fun B μ mem H s M => M.le _ _ (s _ _ h), fun i B μ mem H x H' hi s M ⟨y1, k, v, y2, y3⟩ => ?_⟩
  subst y1 y3
  obtain ⟨dd, hd, _, ko⟩ := r.at' y2
  exact ⟨B, kD k, by rw [List.getElem?_map, hd]; rfl, .refl, M, kD_rv ko⟩
theorem di_seq {e : Expr} {te : DTE} (he : DE X E e te) : DI X E tg e (tIt te) := by
  obtain ⟨t1, p1, k1⟩ := he.ex
  refine ⟨_, pi_any p1, fun B μ en m σ H Q Qx QV R hx T k => ?_⟩
  refine k1 B μ en m σ H _ Qx _ R hx T fun B1 μ1 m1 H1 x v s1 R1 r q => ?_
  cases x with
  | loc n => exact q.elim
  | v d =>
    cases r with
    | lst h rl => exact .inl ⟨_, _, rfl, .inl (.inl (R1.mem.le _ _ h)), k B1 μ1 m1 H1 _ _ s1 R1 (walkD_lst h rl) q⟩
    | tup h rl => exact .inr (.inl ⟨_, _, rfl, R1.mem.le.tup h, k B1 μ1 m1 H1 _ _ s1 R1 (walkD_tup h rl) q⟩)
    | str h => exact .inr (.inr (.inl ⟨_, rfl, k B1 μ1 m1 H1 _ _ s1 R1 (walkD_str h) q⟩))
    | dic h rl => exact .inr (.inr (.inr ⟨_, _, _, rfl, R1.mem.le _ _ h, k B1 μ1 m1 H1 _ _ s1 R1 (walkD_keys h rl) q⟩))
    | non => exact q.elim
    | bl _ => exact q.elim
    | int _ => exact q.elim
    | ty _ => exact q.elim
    | fn _ => exact q.elim
    | obj _ _ => exact q.elim
    | exc _ _ _ => exact q.elim
/-! range -/
def rngD (lo : Int) (n : Nat) : List D := (List.range n).map fun i => .int (lo + (i : Nat))
theorem walkD_range {K : Frag} {B0 : Hp} {lo : Int} {n : Nat} : WalkD K B0 (Itr lo n) (rngD lo n) := by
  refine walkD_fn (f := fun i => .int (lo + i)) (by unfold rngD; rw [List.length_map, List.length_range]; exact walk_range) fun i d h => ?_
  unfold rngD at h
  rw [List.getElem?_map] at h
  cases q : (List.range n)[i]? with
  | none => rw [q] at h; cases h
  | some j =>
    rw [q] at h
    have e : i = j := by
      have z := List.getElem?_range (n := n) (i := i) (by
        have := (List.getElem?_eq_some_iff.mp q).1
        simpa using this)
      rw [z] at q
      exact Option.some.inj q
    subst e
    cases h
    exact .int _
def rng1 : List W → (List D → Prop) → Prop
  | [.v (.int j)], Q => -(2 ^ 62) ≤ j ∧ j < 2 ^ 62 ∧ Q (rngD 0 j.toNat)
  | _, _ => False
def rng2 : List W → (List D → Prop) → Prop
  | [.v (.int i), .v (.int j)], Q => (-(2 ^ 62) ≤ i ∧ i < 2 ^ 62 ∧ -(2 ^ 62) ≤ j ∧ j < 2 ^ 62) ∧ Q (rngD i (j - i).toNat)
  | _, _ => False
def tRg (f : List W → (List D → Prop) → Prop) (ta : DTA) : DTI := fun en m Q Qx => ta en m (fun xs m1 => f xs fun its => Q its m1) Qx
theorem di_range1 {a : Expr} {ta : DTA} {p pos : Pos} (hm : X.mg "range" = none) (ha : DA X E [a] ta) (hg : Gl X "range" := by rfl) (hs : starEach [a] X.env = [(false, eval a X.env)] := by rfl) : DI X E tg (.Call (.Name "range" p) [a] [] pos) (tRg rng1 ta) := by
  obtain ⟨t1, p1, k1⟩ := ha.ex
  refine ⟨_, pi_range1 hg hm p1 hs, fun B μ en m σ H Q Qx QV R hx T k => ?_⟩
  refine k1 B μ en m σ H _ Qx _ R hx T fun B1 μ1 m1 H1 xs vs s1 R1 r q => ?_
  unfold rng1 at q
  split at q
  · cases r with
    | cons a t =>
      cases t
      cases a
      exact ⟨_, rfl, q.1, q.2.1, k B1 μ1 m1 H1 _ _ s1 R1 walkD_range q.2.2⟩
  · exact q.elim
theorem di_range2 {a b : Expr} {ta : DTA} {p pos : Pos} (hm : X.mg "range" = none) (ha : DA X E [a, b] ta) (hg : Gl X "range" := by rfl) (hs : starEach [a, b] X.env = [(false, eval a X.env), (false, eval b X.env)] := by rfl) (hs2 : starEach [b] X.env = [(false, eval b X.env)] := by rfl) : DI X E tg (.Call (.Name "range" p) [a, b] [] pos) (tRg rng2 ta) := by
  obtain ⟨t1, p1, k1⟩ := ha.ex
  refine ⟨_, pi_range2 hg hm p1 hs hs2, fun B μ en m σ H Q Qx QV R hx T k => ?_⟩
  refine k1 B μ en m σ H _ Qx _ R hx T fun B1 μ1 m1 H1 xs vs s1 R1 r q => ?_
  unfold rng2 at q
  split at q
  · cases r with
    | cons a t =>
      cases t with
      | cons b t =>
        cases t
        cases a
        cases b
        exact ⟨_, _, rfl, q.1, k B1 μ1 m1 H1 _ _ s1 R1 walkD_range q.2⟩
  · exact q.elim
/-! enumerate(list), zip(list, list) -/
theorem walkD_pair {K : Frag} {B0 : Hp} {J : It} {its : List D} {G : Hp → Prop} {f g : Nat → Option V} {n : Nat} (hn : n = its.length) (w : Walk J n G (YPair f g)) (hG : ∀ B μ mem H, Same B0 B → MemOk K B μ mem H → G H)
    (h : ∀ (i : Nat) x y, i < its.length → f i = some x → g i = some y → ∃ d e, its[i]? = some (.tup [d, e]) ∧ Rv K B0 x d ∧ Rv K B0 y e) : WalkD K B0 J its := by
  subst hn
  refine ⟨G, _, w, hG, fun i B μ mem H x H' hi s M ⟨T, a, b, e1, nT, e2, e3, e4⟩ => ?_⟩
  subst e1 e2
  obtain ⟨d, e, h1, h2, h3⟩ := h i a b hi e3 e4
  have st := Stp.laid M nT (o := .tup [a, b])
  exact ⟨_, .tup [d, e], h1, st, M.laid nT, .tup (.inl upd_same) (.cons (h2.to (s.trans st.same)) (.cons (h3.to (s.trans st.same)) .nil))⟩
def enumD : Nat → List D → List D
  | _, [] => []
  | i, d :: ds => .tup [.int i, d] :: enumD (i + 1) ds
theorem enumD_len : ∀ (i : Nat) (ds : List D), (enumD i ds).length = ds.length
  | _, [] => rfl
  | i, _ :: ds => congrArg Nat.succ (enumD_len (i + 1) ds)
theorem enumD_at : ∀ (i k : Nat) (ds : List D) (d : D), ds[k]? = some d → (enumD i ds)[k]? = some (.tup [.int ((i + k : Nat) : Int), d])
  | _, _, [], _, h => by simp at h
  | i, 0, d :: ds, e, h => by
    simp at h
    subst h
    rfl
  | i, k + 1, d :: ds, e, h => by
    have z := enumD_at (i + 1) k ds e (by simpa using h)
    show (enumD (i + 1) ds)[k]? = _
    rw [z]
    congr 4
    omega
def enuW : List W → (List D → Prop) → Prop
  | [.v (.lst ds)], Q => Q (enumD 0 ds)
  | _, _ => False
theorem di_enum {e : Expr} {ta : DTA} {elts : List Expr} {kk : Nat} {tpos p pos : Pos} (hm : X.mg "enumerate" = none) (ha : DA X E [e] ta) (hg : Gl X "enumerate" := by rfl) (hs : starEach [e] X.env = [(false, eval e X.env)] := by rfl) : DI X E (.Tuple elts kk tpos) (.Call (.Name "enumerate" p) [e] [] pos) (tRg enuW ta) := by
  obtain ⟨t1, p1, k1⟩ := ha.ex
  refine ⟨_, pi_enum hg hm p1 hs, fun B μ en m σ H Q Qx QV R hx T k => ?_⟩
  refine k1 B μ en m σ H _ Qx _ R hx T fun B1 μ1 m1 H1 xs vs s1 R1 r q => ?_
  unfold enuW at q
  split at q
  · rename_i ds
    cases r with
    | cons a t =>
      cases t
      cases (show Rv X.K B1 _ (.lst _) from a) with
      | lst h rl =>
        refine ⟨_, _, rfl, .inl (.inl (R1.mem.le _ _ h)), k B1 μ1 m1 H1 _ _ s1 R1 ?_ q⟩
        refine walkD_pair (by rw [enumD_len, ← rl.len]) walk_enum (fun B μ mem H s M => .inl (.inl (M.le _ _ (s _ _ h)))) fun i x y hi e1 e2 => ?_
        cases e1
        obtain ⟨d, hd, rd⟩ := rl.at' e2
        exact ⟨.int ((i : Nat) : Int), d, by rw [enumD_at 0 i _ d hd, Nat.zero_add], .int _, rd⟩
  · exact q.elim
def zipD : List D → List D → List D
  | a :: as, b :: bs => .tup [a, b] :: zipD as bs
  | _, _ => []
theorem zipD_len : ∀ (as bs : List D), (zipD as bs).length = min as.length bs.length
  | [], _ => by simp [zipD]
  | _ :: _, [] => by simp [zipD]
  | _ :: as, _ :: bs => by simp [zipD, zipD_len as bs]
theorem zipD_at : ∀ (k : Nat) (as bs : List D) (a b : D), as[k]? = some a → bs[k]? = some b → (zipD as bs)[k]? = some (.tup [a, b])
  | _, [], _, _, _, h, _ => by simp at h
  | _, _ :: _, [], _, _, _, h => by simp at h
  | 0, a :: as, b :: bs, x, y, h, h' => by
    simp at h h'
    subst h h'
    rfl
  | k + 1, _ :: as, _ :: bs, a, b, h, h' => by
    show (zipD as bs)[k]? = _
    exact zipD_at k as bs a b (by simpa using h) (by simpa using h')
def zipW : List W → (List D → Prop) → Prop
  | [.v (.lst as), .v (.lst bs)], Q => Q (zipD as bs)
  | _, _ => False
theorem di_zip {e e2 : Expr} {ta : DTA} {elts : List Expr} {kk : Nat} {tpos p pos : Pos} (hm : X.mg "zip" = none) (ha : DA X E [e, e2] ta) (hg : Gl X "zip" := by rfl) (hs : starEach [e, e2] X.env = (false, eval e X.env) :: starEach [e2] X.env := by rfl) (hpl : (backTo pos (starEach [e2] X.env)).any (·.1) = false := by rfl) : DI X E (.Tuple elts kk tpos) (.Call (.Name "zip" p) [e, e2] [] pos) (tRg zipW ta) := by
  obtain ⟨t1, p1, k1⟩ := ha.ex
  refine ⟨_, pi_zip hg hm p1 hs hpl, fun B μ en m σ H Q Qx QV R hx T k => ?_⟩
  refine k1 B μ en m σ H _ Qx _ R hx T fun B1 μ1 m1 H1 xs vs s1 R1 r q => ?_
  unfold zipW at q
  split at q
  · cases r with
    | cons a t =>
      cases t with
      | cons b t =>
        cases t
        cases (show Rv X.K B1 _ (.lst _) from a) with
        | lst h rl =>
          cases (show Rv X.K B1 _ (.lst _) from b) with
          | lst h2 rl2 =>
            refine ⟨_, _, _, _, rfl, .inl (.inl (R1.mem.le _ _ h)), .inl (.inl (R1.mem.le _ _ h2)), k B1 μ1 m1 H1 _ _ s1 R1 ?_ q⟩
            refine walkD_pair (by rw [zipD_len, ← rl.len, ← rl2.len]) (walk_zip rfl) (fun B μ mem H s M => ⟨.inl (.inl (M.le _ _ (s _ _ h))), .inl (.inl (M.le _ _ (s _ _ h2)))⟩) fun i x y hi e1 e2 => ?_
            obtain ⟨d, hd, rd⟩ := rl.at' e1
            obtain ⟨e, he, re⟩ := rl2.at' e2
            exact ⟨d, e, zipD_at i _ _ d e hd he, rd, re⟩
  · exact q.elim
/-! ### methods of texts -/
def isSt : W → Me → Prop
  | .v (.str _), _ => True
  | _, _ => False
theorem isSt_ok : STy X "str" isSt := by
  intro B μ m H x v M r q
  unfold isSt at q
  split at q
  · cases (show Rv X.K B v (.str _) from r)
    rfl
  · exact q.elim
/-- of a text and one argument -/
def m1 (f : Str → D → (D → Prop) → Prop) : DMt := fun x xs m Q => match x, xs with
  | .v (.str a), [y] => look y m fun d => f a d fun r => Q r m
  | _, _ => False
theorem SM.of1 {r : V → List V → Hp → VK → Prop} {f : Str → D → (D → Prop) → Prop} (h : ∀ B μ m H a v d (Q : D → Prop) (QV : VK), MemOk X.K B μ m H → okS a = true → Top X.K B H v d → f a d Q →
    (∀ B' H' d z, Stp B μ m H B' μ m H' → MemOk X.K B' μ m H' → Rv X.K B' z d → Q d → QV z H') → r (.str a) [v] H QV) : SM X r (m1 f) := by
  intro B μ m H x xs v vs Q QV M rx rs q k
  unfold m1 at q
  split at q
  · cases (show Rv X.K B v (.str _) from rx) with
    | str ho =>
      cases rs with
      | cons a t =>
        cases t
        obtain ⟨d, td, q⟩ := look_ok M a q
        exact h B μ m H _ _ d (fun r => Q r m) QV M ho td q fun B' H' d z s M' rz q' => k B' m H' d z s M' rz q'
  · exact q.elim
def texts : List D → (List Str → Prop) → Prop
  | [], Q => Q []
  | .str b :: r, Q => texts r fun bs => Q (b :: bs)
  | _ :: _, _ => False
theorem texts_ok {K : Frag} {B : Hp} : ∀ {ds : List D} {vs : List V} {Q : List Str → Prop}, RvL K B vs ds → texts ds Q → ∃ bs, vs = bs.map V.str ∧ (∀ b ∈ bs, okS b = true) ∧ Q bs
  | [], _, _, .nil, q => ⟨[], rfl, by simp, q⟩
  | .str b :: r, _, Q, .cons a t, q => by
    cases a with
    | str hb =>
      obtain ⟨bs, rfl, ho, k⟩ := texts_ok (Q := fun bs => Q (b :: bs)) t q
      exact ⟨b :: bs, rfl, by simp [hb, ho]; exact ho, k⟩
  | .non :: _, _, _, _, q => q.elim
  | .int _ :: _, _, _, _, q => q.elim
  | .bl _ :: _, _, _, _, q => q.elim
  | .ty _ :: _, _, _, _, q => q.elim
  | .fn _ :: _, _, _, _, q => q.elim
  | .tup _ :: _, _, _, _, q => q.elim
  | .lst _ :: _, _, _, _, q => q.elim
  | .dic _ :: _, _, _, _, q => q.elim
  | .obj _ _ :: _, _, _, _, q => q.elim
  | .exc _ _ :: _, _, _, _, q => q.elim
theorem jfold_cps : ∀ (sep : Str) (rest : List Str) (acc : Array Nat), (rest.foldl (fun acc p => acc ++ sep.cps ++ p.cps) acc).toList = acc.toList ++ rest.flatMap (fun p => sep.cps.toList ++ p.cps.toList)
  | _, [], acc => by simp
  | sep, p :: rest, acc => by
    rw [List.foldl_cons, jfold_cps sep rest]
    simp
theorem okS_join {sep : Str} (h : okS sep = true) : ∀ {zs : List Str}, (∀ z ∈ zs, okS z = true) → okS (Txt.join sep zs) = true
  | [], _ => okS_iff.mpr fun c hc => by
    have hc : c ∈ (#[] : Array Nat).toList := hc
    simp at hc
  | x :: rest, k => by
    refine okS_iff.mpr fun c hc => ?_
    have e : Txt.join sep (x :: rest) = (⟨rest.foldl (fun acc p => acc ++ sep.cps ++ p.cps) x.cps⟩ : Str) := rfl
    rw [e] at hc
    have hc : c ∈ (rest.foldl (fun acc p => acc ++ sep.cps ++ p.cps) x.cps).toList := hc
    rw [jfold_cps] at hc
    rcases List.mem_append.mp hc with hc | hc
    · exact okS_iff.mp (k x List.mem_cons_self) c hc
    · obtain ⟨p, hp, hc⟩ := List.mem_flatMap.mp hc
      rcases List.mem_append.mp hc with hc | hc
      · exact okS_iff.mp h c hc
      · exact okS_iff.mp (k p (List.mem_cons_of_mem _ hp)) c hc
def joinF : Str → D → (D → Prop) → Prop
  | a, .lst ds, Q => texts ds fun ys => (ys.map (·.length)).sum + ys.length * a.length ≤ 16777216 ∧ Q (.str (Txt.join a ys))
  | _, _, _ => False
theorem d_join {o e : Expr} {to : DTE} {ta : DTA} {apos cpos : Pos} (ho : DE X E o to) (ha : DA X E [e] ta)
    (hbase : attributeBase o "join" X.env (eval o X.env) = eval o X.env := by rfl)
    (hfew : ((backTo cpos (starEach [e] X.env)).all (fun x => !x.1) && (backToKw cpos (keywordEach [] X.env)).all (fun x => x.1.isSome)
      && decide ([e].length + ([] : List Keyword).length + (if ([] : List Keyword).isEmpty then 0 else 1) < 30)) = true := by rfl)
    (hline : (apos.endLine == cpos.line) = true := by rfl) (hs : starEach [e] X.env = (false, eval e X.env) :: starEach [] X.env := by rfl) (hplain : (backTo cpos (starEach [] X.env)).any (·.1) = false := by rfl) :
    DE X E (.Call (.Attribute o "join" apos) [e] [] cpos) (tMe isSt (m1 joinF) to ta) :=
  d_bm PySem.F.plainAttrs_str PySem.F.slot_str_join PySem.F.type_str_join mt_join (SM.of1 fun B μ m H a v d Q QV M ha td q k => by
    cases d with
    | lst ds =>
      obtain ⟨p, vs, rfl, hp, r⟩ := td
      obtain ⟨bs, rfl, ho, q1, q⟩ := texts_ok r q
      exact ⟨a, p, bs, rfl, rfl, .inl (.inl (.inl hp)), q1, SO.pure M k (.str (okS_join ha ho)) q⟩
    | _ => exact q.elim) isSt_ok ho ha hbase hfew hline hs hplain
/-! ### f-strings -/
inductive DJ (X : Cx) (E : XK) : List Expr → List DTE → Prop where
  | nil : DJ X E [] []
  | cons {e : Expr} {t : DTE} {es : List Expr} {ts : List DTE} (h : DE X E e t) (r : DJ X E es ts) : DJ X E (e :: es) (t :: ts)
def sD : W → (Str → Prop) → Prop
  | .v (.str x), Q => Q x
  | _, _ => False
theorem sD_ok {K : Frag} {B : Hp} {μ : List Addr} {v : V} {x : W} {Q : Str → Prop} (r : RW K B μ v x) (q : sD x Q) : ∃ z, v = .str z ∧ okS z = true ∧ Q z := by
  unfold sD at q
  split at q
  · cases (show Rv K B v (.str _) from r) with
    | str h => exact ⟨_, rfl, h, q⟩
  · exact q.elim
/-- the texts one behind the other -/
def tJo : List DTE → Str → En → Me → (Str → Me → Prop) → QX → Prop
  | [], acc, _, m, Q, _ => Q acc m
  | t :: ts, acc, en, m, Q, Qx => t en m (fun x m1 => sD x fun y => (acc ++ y).length ≤ sizeLine ∧ tJo ts (acc ++ y) en m1 Q Qx) Qx
theorem DJ.pj {es : List Expr} {ts : List DTE} (h : DJ X E es ts) : ∃ us, PJ X es us ∧ ∀ (acc : Str) B μ en m σ H (Q : Str → Me → Prop) (Qx : QX) (QV : Str → Hp → Prop), okS acc = true → Rel X.K B μ en m σ H → ExOf X.K E B μ m H Qx → tJo ts acc en m Q Qx →
    (∀ B' μ' m' H' z, okS z = true → Stp B μ m H B' μ' m' H' → Rel X.K B' μ' en m' σ H' → Q z m' → QV z H') → tJs us acc σ H QV := by
  induction h with
  | nil => exact ⟨[], .nil, fun acc B μ en m σ H Q Qx QV ho R hx T k => k B μ m H acc ho .refl R T⟩
  | cons h r ih =>
    obtain ⟨t1, p1, k1⟩ := h.ex
    obtain ⟨us, p2, k2⟩ := ih
    refine ⟨t1 :: us, .cons p1 p2, fun acc B μ en m σ H Q Qx QV ho R hx T k => ?_⟩
    refine k1 B μ en m σ H _ Qx _ R hx T fun B1 μ1 m1 H1 x v s1 R1 r q => ?_
    obtain ⟨z, rfl, hz, q1, q⟩ := sD_ok r q
    refine ⟨z, rfl, q1, k2 _ B1 μ1 en m1 σ H1 _ Qx _ (okS_app ho hz) R1 (hx.step s1 R1.mem R.mem.le) q fun B2 μ2 m2 H2 z2 h2 s2 R2 q2 => ?_⟩
    exact k B2 μ2 m2 H2 z2 h2 (s1.trans R1.mem s2 R.mem.le) R2 q2
def tJoin (ts : List DTE) : DTE := fun en m Q Qx => tJo ts Str.empty en m (fun z m1 => Q (.v (.str z)) m1) Qx
theorem okS_empty : okS Str.empty = true := okS_iff.mpr fun c hc => by
  have hc : c ∈ (#[] : Array Nat).toList := hc
  simp at hc
theorem d_joined {v1 v2 : Expr} {rest : List Expr} {ts : List DTE} {pos : Pos} (h : DJ X E (v1 :: v2 :: rest) ts) : DE X E (.JoinedStr (v1 :: v2 :: rest) pos) (tJoin ts) := by
  obtain ⟨us, p, k⟩ := h.pj
  refine ⟨_, pe_joined p, fun B μ en m σ H Q Qx QV R hx T kk => ?_⟩
  exact k Str.empty B μ en m σ H _ Qx _ okS_empty R hx T fun B' μ' m' H' z hz s R' q => kk B' μ' m' H' (.v (.str z)) _ s R' (RW.d (.str hz)) q
def tFm (te : DTE) : DTE := fun en m Q Qx => te en m (fun x m1 => match x with
  | .v (.str y) => y.length ≤ sizeLine ∧ Q (.v (.str y)) m1
  | .v (.int i) => i.natAbs.log2 < 1920 ∧ Q (.v (.str (toString i))) m1
  | _ => False) Qx
theorem d_fmt {e : Expr} {te : DTE} {pos : Pos} (he : DE X E e te) : DE X E (.FormattedValue e (-1) none pos) (tFm te) := by
  obtain ⟨t1, p1, k1⟩ := he.ex
  refine ⟨_, pe_fmt p1, fun B μ en m σ H Q Qx QV R hx T k => ?_⟩
  refine k1 B μ en m σ H _ Qx _ R hx T fun B1 μ1 m1 H1 x v s1 R1 r q => ?_
  split at q
  · cases (show Rv X.K B1 v (.str _) from r) with
    | str h => exact .inl ⟨_, rfl, q.1, k B1 μ1 m1 H1 _ _ s1 R1 (RW.d (.str h)) q.2⟩
  · cases (show Rv X.K B1 v (.int _) from r)
    exact .inr ⟨_, rfl, q.1, k B1 μ1 m1 H1 (.v (.str (toString _))) _ s1 R1 (RW.d (.str (okS_int _))) q.2⟩
  · exact q.elim
/-! ### isinstance with built-in types -/
def tyD' : D → Option String
  | .non => some "NoneType" | .bl _ => some "bool" | .int _ => some "int" | .str _ => some "str" | .lst _ => some "list" | .tup _ => some "tuple" | .dic _ => some "dict"
  | _ => none
def isTD : Tg → D → Bool
  | .list, .lst _ => true
  | .tuple, .tup _ => true
  | .dict, .dic _ => true
  | .bool, .bl _ => true
  | .int, .bl _ => true
  | .int, .int _ => true
  | .str, .str _ => true
  | _, _ => false
def tgS : String → Option Tg
  | "list" => some .list | "tuple" => some .tuple | "dict" => some .dict | "bool" => some .bool | "int" => some .int | "str" => some .str
  | _ => none
theorem tgS_nm {s : String} {t : Tg} (h : tgS s = some t) : s = t.nm := by
  unfold tgS at h
  split at h <;> cases h <;> rfl
theorem tyD_kit {d : D} {s : String} (h : tyD' d = some s) (t : Tg) : kitB s t.nm = some (isTD t d) := by
  cases d <;> cases h <;> cases t <;> simp only [Tg.nm, isTD] <;> decide +kernel
theorem Top.ty {K : Frag} {B H : Hp} (le : Le B H) {v : V} {d : D} {s : String} (t : Top K B H v d) (h : tyD' d = some s) : TyX K H v (.type s) := by
  cases d with
  | non => cases t; cases h; exact .base .non
  | bl b => cases t; cases h; exact .base (.bl b)
  | int b => cases t; cases h; exact .base (.int b)
  | str b => cases t; cases h; exact .base (.str b)
  | tup _ => obtain ⟨a, vs, rfl, hs, _⟩ := t; cases h; exact SqT.ty (le.tup hs)
  | lst _ => obtain ⟨a, vs, rfl, hs, _⟩ := t; cases h; exact .base (.lst hs)
  | dic _ =>
    obtain ⟨a, vs, rfl, hs, _⟩ := t
    cases h
    rcases hs with hs | ⟨o, hs⟩
    · exact .base (.dK hs)
    · exact .fDict hs
  | ty _ => cases h
  | fn _ => cases h
  | obj _ _ => cases h
  | exc _ _ => cases h
def isiD : F2 := fun d c Q => match c with
  | .ty n => (match tgS n with
    | some t => (tyD' d).isSome = true ∧ Q (.bl (isTD t d))
    | none => False)
  | _ => False
theorem c_isi : SC X (rIsi X.K) (c2 isiD) := SC.of2 fun B μ m H v u d e Q QV M td te q k => by
  unfold isiD at q
  cases e with
  | ty n =>
    cases te
    cases ht : tgS n with
    | none => simp only [ht] at q
    | some t =>
      simp only [ht] at q
      obtain ⟨s, hs⟩ := Option.isSome_iff_exists.mp q.1
      have en := tgS_nm ht
      subst en
      exact ⟨v, _, _, _, _, rfl, .ty _, Top.ty M.le td hs, kit_ty (tyD_kit hs t), SO.pure M k (.bl _) q.2⟩
  | _ => exact q.elim
theorem d_isi {e e2 : Expr} {ta : DTA} {p pos : Pos} (hm : X.mg "isinstance" = none) (ha : DA X E [e, e2] ta) (hg : Gl X "isinstance" := by rfl) (he : starEach [e, e2] X.env = (false, eval e X.env) :: starEach [e2] X.env := by rfl) (hpl : (backTo pos (starEach [e2] X.env)).any (·.1) = false := by rfl) : DE X E (.Call (.Name "isinstance" p) [e, e2] [] pos) (tCa (c2 isiD) ta) :=
  d_fn call_isi c_isi hm (by decide +kernel) ha hg (by decide) (by decide) he hpl
end
end Fs
set_option Elab.async false
set_option linter.all false
set_option maxRecDepth 100000
set_option maxHeartbeats 8000000
namespace Fs
open PySem PySem.Spec PyProof.Rows L2
theorem u64 {k : Nat} {A : Around} (r : Room k A) : A.units + 64 < cLine := r.units
theorem u65 {k : Nat} {A : Around} (r : Room k A) : A.units + 65 < cLine := by have := r.un; omega
section
variable {X : Cx} {E : XK}
theorem dv (i : Nat) {x : Str} {pos : Pos} (hN : X.N[i]? = some x := by rfl) (hv : Vis X.env.scope x := by first | exact Or.inl rfl | exact Or.inr (Or.inl rfl) | exact Or.inr (Or.inr rfl)) (hd : (x == ("__debug__" : Str)) = false := by decide)
    (hcd : (x == ("__classdict__" : Str)) = false := by decide) : DE X E (.Name x pos) (tV i) := d_var hN hv hd hcd
theorem o_mul : OpD X (binaryOp .Mult) (oL mulD) := by
  refine ⟨_, op_mulW.or op_rep, SO.of fun B μ m H v u dx dy Q QV M tx ty q k => ?_⟩
  unfold mulD at q
  split at q
  · cases tx
    cases ty
    exact .inl ⟨_, _, rfl, rfl, q.1, SO.pure M k (.int _) q.2⟩
  · obtain ⟨a, vs, rfl, h1, r1⟩ := tx
    cases ty
    obtain ⟨q0, q1, q2, q⟩ := q
    exact .inr ⟨a, _, vs, rfl, rfl, h1, by omega, by omega, by rw [r1.len]; exact q2, fun p np => SO.new M k np (new_lst M np (r1.rep _)) q⟩
  · exact q.elim
def powD : F2 := intF fun i j Q => CPow i j ∧ Q (.int (i ^ j.toNat))
theorem o_pow : OpD X (binaryOp .Pow) (oL powD) := ⟨_, op_pow, SO.of fun B μ m H v u dx dy Q QV M tx ty q k => by
  obtain ⟨i, j, rfl, rfl, q1, q⟩ := intF_ok tx ty q
  exact ⟨_, _, rfl, rfl, q1, SO.pure M k (.int _) q⟩⟩
def negD : W → (D → Prop) → Prop
  | .v (.int i), Q => Q (.int (-i))
  | _, _ => False
def tUnD (f : W → (D → Prop) → Prop) (ta : DTE) : DTE := fun en m Q Qx => ta en m (fun x m1 => f x fun d => Q (.v d) m1) Qx
theorem o_neg : ∃ r, UnR X (unaryOp .USub) r ∧ ∀ B μ m H x v (Q : D → Prop) (QV : VK), MemOk X.K B μ m H → RW X.K B μ v x → negD x Q → (∀ z d, Rv X.K B z d → Q d → QV z H) → r v H QV := ⟨_, un_neg, fun B μ m H x v Q QV M r q k => by
  unfold negD at q
  split at q
  · cases (show Rv X.K B v (.int _) from r)
    exact ⟨_, rfl, k _ _ (.int _) q⟩
  · exact q.elim⟩
theorem d_un {a : Expr} {ta : DTE} {pos : Pos} {op : UnaryOp} {f : W → (D → Prop) → Prop} (ho : ∃ r, UnR X (unaryOp op) r ∧ ∀ B μ m H x v (Q : D → Prop) (QV : VK), MemOk X.K B μ m H → RW X.K B μ v x → f x Q → (∀ z d, Rv X.K B z d → Q d → QV z H) → r v H QV) (ha : DE X E a ta) : DE X E (.UnaryOp op a pos) (tUnD f ta) := by
  obtain ⟨t1, p1, k1⟩ := ha.ex
  obtain ⟨r, h1, h2⟩ := ho
  refine ⟨_, pe_un h1 p1, fun B μ en m σ H Q Qx QV R hx T k => ?_⟩
  refine k1 B μ en m σ H _ Qx _ R hx T fun B1 μ1 m1 H1 x v s1 R1 r1 q => ?_
  exact h2 B1 μ1 m1 H1 x v _ _ R1.mem r1 q fun z d rz qd => k B1 μ1 m1 H1 (.v d) z s1 R1 (RW.d rz) qd
/-! name = [..] -/
theorem SE.lc {elt tg iter : Expr} {is : List Nat} {own : List (Str × Nat)} {ti : DTI} {g : DTG} {tt : DTT} {te : DTE} {t0 : TI} (p0 : PI X tg iter t0) (k0 : ∀ B μ en m σ H (Q : List D → Me → Prop) (Qx : QX) (QV : It → Hp → Prop), Rel X.K B μ en m σ H → ExOf X.K E B μ m H Qx → ti en m Q Qx →
    (∀ B' μ' m' H' its J, Stp B μ m H B' μ' m' H' → Rel X.K B' μ' en m' σ H' → WalkD X.K B' J its → Q its m' → QV J H') → t0 σ H QV) (hv : is.all (fun i => (own.map (·.2)).contains i) = true) :
    SE X E (tLc t0 (Fs.lG X.K is g) (Fs.lT X.K E0 tt) (Fs.lE X.K E0 te) (own.map (·.2))) (tLcD ti g tt te (own.map (·.2))) := by
  have hv' : ∀ i ∈ is, i ∈ own.map (·.2) := fun i h => List.contains_iff_mem.mp (List.all_eq_true.mp hv i h)
  intro B μ en m σ H Q Qx QV R hx T k
  refine k0 B μ en m σ H _ Qx _ R hx T fun B1 μ1 m1 H1 its J s1 R1 ⟨G, Y, w, hG, hY⟩ q => ?_
  intro L nL
  obtain ⟨nb1, nl1⟩ := R1.mem.none nL
  have Rw := R1.wipe (own.map (·.2))
  generalize hen : wipeE en (own.map (·.2)) = enw at q Rw
  refine lc_it w (fun i H' => ∃ B' μ' m' vs acc, Stp B1 μ1 m1 H1 B' μ' m' H' ∧ MemOk X.K B' μ' m' H' ∧ B' L = none ∧ ¬ Live μ' m' L ∧ H' L = some (.lst vs) ∧ RvL X.K B' vs acc ∧ lcL g tt te enw (its.drop i) acc m' Q) ?_ (fun i H' _ ⟨B', μ', m', vs, acc, s', M', _⟩ => hG B' μ' m' H' s'.same M') (fun i x H2 H3 hi ⟨B', μ', m', vs, acc, s', M', nb, nl, hL, rv, q'⟩ y => ?_) (fun H' ⟨B', μ', m', vs, acc, s', M', nb, nl, hL, rv, q'⟩ => ?_)
  · have kp : ∀ b o, b ≠ L → H1 b = some o → upd H1 L (.lst []) b = some o := fun b o c e => by rw [upd_ne c]; exact e
    exact ⟨B1, μ1, m1, [], [], Stp.refl.touch nL kp, R1.mem.touch nb1 nl1 kp, nb1, nl1, upd_same, .nil, q⟩
  · obtain ⟨B3, d, hd, s3, m3, rd⟩ := hY i B' μ' m' H2 x H3 hi s'.same M' y
    have s13 := s'.trans M' s3 R1.mem.le
    obtain ⟨nb3, nl3⟩ := s3.hid L _ nl hL ⟨(fun _ z => nomatch z), (fun _ z => nomatch z)⟩ nb
    have hL3 := s3.out L _ nl hL (fun _ z => nomatch z)
    have R3 : Rel X.K B3 μ' enw m' (L2.wipe σ (own.map (·.2))) H3 := Rw.stp s13 m3
    rw [List.drop_eq_getElem_cons hi] at q'
    have ed : its[i] = d := by
      rw [List.getElem?_eq_getElem hi] at hd
      exact Option.some.inj hd
    rw [ed] at q'
    refine ⟨B3, μ', enw, m', .v d, _, R3, rd, q', fun B4 μ4 en4 m4 σ4 H4 s4 R4 st4 q4 => ⟨by rw [st4.wipe hv', wipe_wipe], ?_⟩⟩
    have s14 := s13.trans m3 s4 R1.mem.le
    obtain ⟨nb4, nl4⟩ := s4.hid L _ nl3 hL3 ⟨(fun _ z => nomatch z), (fun _ z => nomatch z)⟩ nb3
    have hL4 := s4.out L _ nl3 hL3 (fun _ z => nomatch z)
    refine ⟨B4, μ4, en4, m4, _, noX, R4, ExOf.no, q4, fun B5 μ5 m5 H5 b s5 R5 q5 => ?_⟩
    have s15 := s14.trans R4.mem s5 R1.mem.le
    obtain ⟨nb5, nl5⟩ := s5.hid L _ nl4 hL4 ⟨(fun _ z => nomatch z), (fun _ z => nomatch z)⟩ nb4
    have hL5 := s5.out L _ nl4 hL4 (fun _ z => nomatch z)
    have rv5 := rv.to ((s3.same.trans s4.same).trans s5.same)
    cases b with
    | false => exact iteF ⟨B5, μ5, m5, vs, acc, s15, R5.mem, nb5, nl5, hL5, rv5, q5⟩
    | true =>
      refine iteT ⟨B5, μ5, en4, m5, _, noX, R5, ExOf.no, q5, fun B6 μ6 m6 H6 y v s6 R6 r6 q6 => ?_⟩
      cases y with
      | loc n => exact q6.elim
      | v dy =>
        obtain ⟨lz, q6⟩ := q6
        have s16 := s15.trans R5.mem s6 R1.mem.le
        obtain ⟨nb6, nl6⟩ := s6.hid L _ nl5 hL5 ⟨(fun _ z => nomatch z), (fun _ z => nomatch z)⟩ nb5
        have hL6 := s6.out L _ nl5 hL5 (fun _ z => nomatch z)
        have rv6 := rv5.to s6.same
        have kp : ∀ b o, b ≠ L → H6 b = some o → upd H6 L (.lst (vs ++ [v])) b = some o := fun b o c e => by rw [upd_ne c]; exact e
        exact ⟨vs, hL6, by rw [rv6.len]; exact lz, B6, μ6, m6, vs ++ [v], acc ++ [dy], s16.touch nL kp, R6.mem.touch nb6 nl6 kp, nb6, nl6, upd_same, rv6.append (.one r6), q6⟩
  · rw [List.drop_length] at q'
    have same : Same B' (upd B' L (.lst vs)) := same_new nb _
    have M2 : MemOk X.K (upd B' L (.lst vs)) μ' m' H' := by
      refine ⟨fun a o e => ?_, M'.len, fun a l => ?_, fun n a x e1 e2 e3 => OO.to same (List.prefix_refl _) (fun _ z => z) (M'.at_ n a x e1 e2 e3), M'.inj, fun a ps e => by
        by_cases c : a = L
        · subst c
          rw [upd_same] at e
          cases e
        · rw [upd_ne c] at e
          exact M'.ntb a ps e⟩
      · by_cases c : a = L
        · subst c
          rw [upd_same] at e
          cases e
          exact hL
        · rw [upd_ne c] at e
          exact M'.le a o e
      · have c : a ≠ L := fun z => by
          subst z
          exact nl l
        rw [upd_ne c]
        exact M'.off a l
    have st : Stp B1 μ1 m1 H1 (upd B' L (.lst vs)) μ' m' H' := ⟨s'.same.trans same, s'.pre, s'.out, fun a o n e x b => by
      obtain ⟨h1, h2⟩ := s'.hid a o n e x b
      refine ⟨?_, h2⟩
      rw [upd_ne (ne_of_none e nL)]
      exact h1⟩
    have stt := s1.trans R1.mem st R.mem.le
    exact k _ μ' m' H' _ _ stt (R.stp stt M2) (RW.d (.lst upd_same (rv.to same))) q'
theorem ds_setLc {i : Nat} {y : Str} {py : Pos} {elt tg iter : Expr} {ifs : List Expr} {scope : Scope} {own : List (Str × Nat)} {is : List Nat} {pos spos : Pos} {ti : DTI} {g : DTG} {tt : DTT} {te : DTE} (hy : X.N[i]? = some y) (hyl : X.env.scope.names.lookup y = some .local)
    (hsw : swapsWith (.ListComp elt [⟨tg, iter, ifs, 0⟩] scope pos) (some (.Name y py)) spos.line X.env = pure true) (hc : X.calm = true) (hN : X.N.Nodup) (hi : DI X E tg iter ti) (ok : BlkOk X.N X.env.scope scope own)
    (hg : ∀ (s : Shared) (H : Hp) (C : Addr) (cl : List (Str × Addr)) (fp : List Addr), DG (X.blk s H scope (compEnvC scope cl C X.env) fp) tg is g) (ht : ∀ (s : Shared) (H : Hp) (C : Addr) (cl : List (Str × Addr)) (fp : List Addr), DTs (X.blk s H scope (compEnvC scope cl C X.env) fp) E0 ifs tt)
    (he : ∀ (s : Shared) (H : Hp) (C : Addr) (cl : List (Str × Addr)) (fp : List Addr), DE (X.blk s H scope (compEnvC scope cl C X.env) fp) E0 elt te) (hs : ∀ x, foldedSetIterable iter X.env x = pure x := by intro _; rfl) (hv : is.all (fun i => (own.map (·.2)).contains i) = true := by rfl) :
    DS X E (.Assign [.Name y py] (.ListComp elt [⟨tg, iter, ifs, 0⟩] scope pos) spos) (sSet i (tLcD ti g tt te (own.map (·.2)))) := by
  obtain ⟨t0, p0, k0⟩ := hi.ex
  have se := SE.lc (elt := elt) (E := E) (g := g) (tt := tt) (te := te) (own := own) p0 k0 hv
  refine ⟨_, ps_setLc hc hN hy hyl hsw p0 ok (g := lG X.K is g) (tt := lT X.K E0 tt) (te := lE X.K E0 te) (fun s H C cl fp => (hg s H C cl fp).pg) (fun s H C cl fp => (ht s H C cl fp).pts) (fun s H C cl fp => (he s H C cl fp).pe) hs, fun B μ en m σ H N D R hx T e => ?_⟩
  exact se B μ en m σ H _ _ _ R hx T fun B1 μ1 m1 H1 x v s1 R1 r q => e.nx B1 μ1 _ m1 _ H1 s1 (R1.set r) q
/-! name op= e -/
abbrev DIp := W → W → Me → (D → Prop) → Prop
def sAug (i : Nat) (te : DTE) (o : DIp) : DTS := fun en m N => match En.get en i with
  | some x => te en m (fun y m1 => o x y m1 fun d => N.nx (List.set en i (some (.v d))) m1) N.xc
  | none => False
def IpD (X : Cx) (op : Operator) (o : DIp) : Prop := ∃ r : TIp, PIp X op r ∧ SO X r o
theorem ds_aug {i : Nat} {x : Str} {e : Expr} {te : DTE} {op : Operator} {o : DIp} {pos' pos : Pos} (hN : X.N.Nodup) (hi : X.N[i]? = some x) (hx : Loc X.env.scope x) (he : DE X E e te) (ho : IpD X op o) (hf : X.fn x = true ∨ X.env.scope.names.lookup x = some .local := by first | exact .inl rfl | exact .inr rfl | assumption) : DS X E (.AugAssign (.Name x pos') op e pos) (sAug i te o) := by
  obtain ⟨t1, p1, k1⟩ := he.ex
  obtain ⟨r, h1, h2⟩ := ho
  refine ⟨_, ps_aug hN hi hx p1 h1 hf, fun B μ en m σ H N D R hx T e => ?_⟩
  unfold sAug at T
  split at T
  · rename_i x hg
    obtain ⟨v, hv, rv⟩ := R.env i x (En.get_some hg)
    refine ⟨v, hv, k1 B μ en m σ H _ _ _ R hx T fun B1 μ1 m1 H1 y u s1 R1 ry q => ?_⟩
    refine h2 B1 μ1 m1 H1 x y v u _ _ R1.mem (rv.to s1.same s1.pre) ry q fun B2 H2 d z s2 M2 rz q2 => ?_
    have st := s1.trans R1.mem s2 R.mem.le
    exact e.nx B2 μ1 _ m1 _ H2 st ((R.stp st M2).set (RW.d rz)) q2
  · exact T.elim
theorem ia_add : IpD X .Add (oL (intF fun i j Q => Q (.int (i + j)))) := ⟨_, ip_add, SO.of fun B μ m H v u dx dy Q QV M tx ty q k => by
  obtain ⟨i, j, rfl, rfl, q⟩ := intF_ok tx ty q
  exact ⟨_, _, rfl, rfl, SO.pure M k (.int _) q⟩⟩
theorem ia_sub : IpD X .Sub (oL (intF fun i j Q => Q (.int (i - j)))) := ⟨_, ip_sub, SO.of fun B μ m H v u dx dy Q QV M tx ty q k => by
  obtain ⟨i, j, rfl, rfl, q⟩ := intF_ok tx ty q
  exact ⟨_, _, rfl, rfl, SO.pure M k (.int _) q⟩⟩
/-! isinstance(x, (S, T)) -/
def isi2D (s t : String) (d : D) (Q : D → Prop) : Prop := match tgS s, tgS t with
  | some a, some b => (tyD' d).isSome = true ∧ Q (.bl (isTD a d || isTD b d))
  | _, _ => False
def tIsi2 (s t : String) (te : DTE) : DTE := fun en m Q Qx => te en m (fun x m1 => look x m1 fun d => isi2D s t d fun r => Q (.v r) m1) Qx
theorem d_isi2 {e a b : Expr} {te : DTE} {s t : String} {p pos tpos : Pos} {k : Nat} (hm : X.mg "isinstance" = none) (he : DE X E e te) (hpa : PE X a (tC (.ty s))) (hpb : PE X b (tC (.ty t))) (hg : Gl X "isinstance" := by rfl)
    (hst : starEach [e, .Tuple [a, b] k tpos] X.env = (false, eval e X.env) :: starEach [.Tuple [a, b] k tpos] X.env := by rfl) (hst2 : starEach [.Tuple [a, b] k tpos] X.env = (false, eval (.Tuple [a, b] k tpos) X.env) :: starEach [] X.env := by rfl)
    (hpl : (backTo pos (starEach [.Tuple [a, b] k tpos] X.env)).any (·.1) = false := by rfl) (h1 : starEach [a, b] X.env = (false, eval a X.env) :: starEach [b] X.env := by rfl) (h2 : starEach [b] X.env = (false, eval b X.env) :: starEach [] X.env := by rfl) :
    DE X E (.Call (.Name "isinstance" p) [e, .Tuple [a, b] k tpos] [] pos) (tIsi2 s t te) := by
  obtain ⟨t1, p1, k1⟩ := he.ex
  refine ⟨_, pe_callB call_isiT hg hm (by decide +kernel) (pa_cons p1 (pa_cons (pe_tup (pa_cons hpa (pa_cons hpb pa_nil h2) h1)) pa_nil hst2) hst) (by decide) (by decide) hst hpl, fun B μ en m σ H Q Qx QV R hx T k => ?_⟩
  refine k1 B μ en m σ H _ Qx _ R hx T fun B1 μ1 m1 H1 x v s1 R1 r q => ⟨by show 2 ≤ sizeLine; decide, fun p np => ?_⟩
  have sl := Stp.laid R1.mem np (o := .tup [.ty s, .ty t])
  have ml := R1.mem.laid np (o := .tup [.ty s, .ty t])
  obtain ⟨d, td, q2⟩ := look_ok ml (r.to sl.same sl.pre) q
  unfold isi2D at q2
  split at q2
  · rename_i a' b' e1 e2
    obtain ⟨ts, hs⟩ := Option.isSome_iff_exists.mp q2.1
    have en1 := tgS_nm e1
    have en2 := tgS_nm e2
    subst en1 en2
    refine ⟨v, p, [.ty a'.nm, .ty b'.nm], .type ts, [.type a'.nm, .type b'.nm], isTD a' d || isTD b' d, rfl, upd_same, .cons (.ty _) (.cons (.ty _) .nil), Top.ty ml.le td hs, ?_, ?_⟩
    · refine kitAny_cons (kit_ty (tyD_kit hs a')) (fun e => ?_) (fun e => by rw [e]; rfl)
      rw [e, Bool.false_or]
      refine kitAny_cons (kit_ty (tyD_kit hs b')) (fun e => ?_) (fun e => e)
      rw [e]
      rfl
    · have st := s1.trans R1.mem sl R.mem.le
      exact k _ μ1 m1 _ (.v (.bl _)) _ st (R.stp st ml) (RW.d (.bl _)) q2.2
  · exact q2.elim
/-! calls without arguments, with keywords -/
section
variable {CX : CXT} {k : Nat} {x : Str} {ps : List Str} {sp : SpD} {e : Expr} {es : List Expr} {p pos : Pos} {ta : DTA}
theorem d_call0 (G : Gd X.prog X.w X.K X.mg X.base CX k x ps (lift X.K sp)) (hr : Room k X.A) (hx : Passes CX X E) (hg : Gl X x := by rfl) (hdb : (x == ("__debug__" : Str)) = false := by decide) : DE X E (.Call (.Name x p) [] [] pos) (tCal sp tN) := by
  obtain ⟨f, fd, a, b, c, F⟩ := G.ex
  refine ⟨_, pe_call0 F hr hg a b c .nil hx hdb, (SA.call (E := E) (dv := []) (dw := []) (ta := tN) (fun B μ en m σ H Q Qx QV R hx T k => k B μ m H [] [] .refl R .nil T) fun _ => .nil).imp fun en m Q Qx q => ?_⟩
  unfold tCal at q ⊢
  simpa using q
structure DK (X : Cx) (E : XK) (kws : List Keyword) (T : DTA) : Prop where
  ex : ∃ t, PK X kws t ∧ SA X E t T
def tCalk (n j : Nat) (sp : SpD) (g : List W → List W → List W) (ta tk : DTA) : DTE := fun en m Q Qx => ta en m (fun xs m1 => tk en m1 (fun zs m2 => xs.length = n ∧ zs.length = j ∧ sp (g xs zs) m2 Q Qx) Qx) Qx
/-- the reordering is the same for worlds' values -/
def Reo (K : Frag) (gV : List V → List V → List V) (gW : List W → List W → List W) : Prop := ∀ B μ (vs : List V) (xs : List W) (us : List V) (zs : List W), RWs K B μ vs xs → RWs K B μ us zs → RWs K B μ (gV vs us) (gW xs zs)
theorem SE.callk {n j : Nat} {t tk : TA} {Tk : DTA} {gV : List V → List V → List V} {gW : List W → List W → List W} (hr : Reo X.K gV gW) (k1 : SA X E t ta) (k2 : SA X E tk Tk) : SE X E (tCallN n j (lift X.K sp) gV E t tk) (tCalk n j sp gW ta Tk) := by
  intro B μ en m σ H Q Qx QV R hx T k
  refine k1 B μ en m σ H _ Qx _ R hx T fun B1 μ1 m1 H1 xs vs s1 R1 r1 T1 => ?_
  refine k2 B1 μ1 en m1 σ H1 _ Qx _ R1 (hx.step s1 R1.mem R.mem.le) T1 fun B2 μ2 m2 H2 zs us s2 R2 r2 ⟨l1, l2, T2⟩ => ?_
  have r1' := r1.to s2.same s2.pre
  refine ⟨by rw [r1'.len]; exact l1, by rw [r2.len]; exact l2, ?_⟩
  have s12 := s1.trans R1.mem s2 R.mem.le
  refine ⟨B2, μ2, m2, _, _, Qx, R2.mem, hr _ _ _ _ _ _ r1' r2, T2, hx.step s12 R2.mem R.mem.le, fun B3 μ3 m3 H3 y v s3 m3' r3 q3 => ?_⟩
  have st := s12.trans R2.mem s3 R.mem.le
  exact k B3 μ3 m3 H3 y v st (R.stp st m3') r3 q3
theorem d_callk {n : Nat} {ks : List Str} {kws : List Keyword} {Tk : DTA} {gV : List V → List V → List V} {gW : List W → List W → List W} (G : Gk X.prog X.w X.K X.mg X.base CX k x n ks gV ps (lift X.K sp) ∧ Reo X.K gV gW) (hr : Room k X.A) (hx : Passes CX X E) (ha : DA X E (e :: es) ta) (hkw : DK X E kws Tk) (hg : Gl X x := by rfl)
    (hall : (backToKw pos (keywordEach kws X.env)).all (·.1.isSome) = true := by rfl) (hks : (backToKw pos (keywordEach kws X.env)).filterMap (·.1) = ks := by rfl)
    (hdb : (x == ("__debug__" : Str)) = false := by decide) (he : starEach (e :: es) X.env = (false, eval e X.env) :: starEach es X.env := by rfl)
    (hpl : ((backTo pos (starEach (e :: es) X.env)).any (·.1) || (backToKw pos (keywordEach kws X.env)).any (·.1.isNone)) = false := by rfl) : DE X E (.Call (.Name x p) (e :: es) kws pos) (tCalk n ks.length sp gW ta Tk) := by
  obtain ⟨t1, p1, k1⟩ := ha.ex
  obtain ⟨t2, p2, k2⟩ := hkw.ex
  exact ⟨_, pe_gk G.1 hr hx p1 p2 hg hall hks hdb he hpl, SE.callk G.2 k1 k2⟩
theorem d_callk0 {ks : List Str} {kws : List Keyword} {Tk : DTA} {gV : List V → List V → List V} {gW : List W → List W → List W} (G : Gk X.prog X.w X.K X.mg X.base CX k x 0 ks gV ps (lift X.K sp) ∧ Reo X.K gV gW) (hr : Room k X.A) (hx : Passes CX X E) (hkw : DK X E kws Tk) (hg : Gl X x := by rfl)
    (hall : (backToKw pos (keywordEach kws X.env)).all (·.1.isSome) = true := by rfl) (hks : (backToKw pos (keywordEach kws X.env)).filterMap (·.1) = ks := by rfl)
    (hdb : (x == ("__debug__" : Str)) = false := by decide)
    (hpl : ((backTo pos (starEach [] X.env)).any (·.1) || (backToKw pos (keywordEach kws X.env)).any (·.1.isNone)) = false := by rfl) : DE X E (.Call (.Name x p) [] kws pos) (tCalk 0 ks.length sp gW tN Tk) := by
  obtain ⟨t2, p2, k2⟩ := hkw.ex
  exact ⟨_, pe_gk0 G.1 hr hx p2 hg hall hks hdb hpl, SE.callk G.2 (fun B μ en m σ H Q Qx QV R hx T k => k B μ m H [] [] .refl R .nil T) k2⟩
end
end
/-! ### the laws' bag -/
section
variable {P : Program} {w : World} {K : Frag} {mg : Str → Option Value} {base : Heap} {k : Nat} {x : Str} {ps : List Str}
theorem Gd.up {sp : Sp} (G : Gd P w K mg base CX0 k x ps sp) : Gd P w K mg base (L2.CX P w) k x ps sp := by
  obtain ⟨f, fd, a, b, c, F⟩ := G.ex
  refine ⟨f, fd, a, b, c, F.len, fun A outer s H args us vs Q E hr he hb hv hs => codeAny_mono (F.run A outer s H args us vs Q E hr he hb hv hs) fun r s' h => ?_⟩
  cases r with
  | error e => exact (show False from h).elim
  | ok fl => cases fl <;> exact h
/-- the bag at n -/
def isBag (m : Me) (n : Nat) : Prop := m[n]? = some .bag
def spPullD : SpD := fun ws m Q _ => ∃ n k, ws = [.loc n, .v (.int k)] ∧ m[n]? = some .bag ∧ 0 < k ∧ k < 2 ^ 100 ∧ ∀ r, 0 ≤ r → r < k → Q (.v (.int r)) m
theorem set_self {α : Type} {l : List α} {n : Nat} {x : α} (h : l[n]? = some x) : l.set n x = l := by
  apply List.ext_getElem?
  intro i
  by_cases c : i = n
  · subst c
    rw [List.getElem?_set_self (List.getElem?_eq_some_iff.mp h).1, h]
  · rw [List.getElem?_set_ne (fun z => c z.symm)]
theorem lift_pull {vs : List V} {H : Hp} {Q : VK} {E E' : XK} (h : lift K spPullD vs H Q E) : spPull vs H Q E' := by
  obtain ⟨B, μ, m, ws, Qd, Qx, M, r, ⟨n, j, rfl, hm, h0, h1, q⟩, hx, hq⟩ := h
  cases r with
  | cons a t =>
    cases t with
    | cons b t =>
      cases t
      cases (show Rv K B _ (.int j) from b)
      obtain ⟨p, rfl, hp⟩ := a
      obtain ⟨l, i, rs, sd, ns, e1, e2, e3⟩ := (show BagB B H p from M.at_ n p _ hp hm rfl).ex
      refine ⟨p, l, j, rfl, ⟨i, rs, sd, ns, e1, M.le _ _ e2, e3⟩, h0, h1, fun z H' z0 z1 sx B' => ?_⟩
      have kp : ∀ b o, b ≠ p → H b = some o → H' b = some o := fun b o c e => sx.at c e
      obtain ⟨i', rs', sd', ns', f1, f2, f3⟩ := B'.ex
      have nl : l ≠ p := fun z => by
        subst z
        rw [M.off l ⟨n, _, hp, hm, rfl⟩] at e2
        cases e2
      have e4 := kp l _ nl (M.le _ _ e2)
      have new : OO K B μ H' p .bag := ⟨l, i', rs', sd', ns, f1, e2, f3⟩
      have M2 := M.store hp hm rfl rfl kp new (m' := .bag)
      have S2 := Stp.store (B := B) (m' := .bag) hp hm rfl kp
      rw [set_self hm] at M2 S2
      exact hq B μ m H' (.v (.int z)) _ S2 M2 (.int z) (q z z0 z1)
theorem pullD (G : Gd P w K mg base CX0 k x ps spPull) : Gd P w K mg base (L2.CX P w) k x ps (lift K spPullD) := G.up.imp fun _ _ _ _ h => lift_pull h
end
end Fs
set_option Elab.async false
set_option linter.all false
set_option maxRecDepth 100000
set_option maxHeartbeats 8000000
namespace Fs
open PySem PySem.Spec PyProof.Rows L2
/-- a comprehension without tests: its items one by one -/
inductive All2 (R : Nat → D → D → Prop) : Nat → List D → List D → Prop
  | nil {i : Nat} : All2 R i [] []
  | cons {i : Nat} {d y : D} {ds ys : List D} : R i d y → All2 R (i + 1) ds ys → All2 R i (d :: ds) (y :: ys)
theorem All2.len {R : Nat → D → D → Prop} {i : Nat} {ds ys : List D} (h : All2 R i ds ys) : ds.length = ys.length := by
  induction h with
  | nil => rfl
  | cons _ _ ih => rw [List.length_cons, List.length_cons, ih]
theorem lcL_all {g : DTG} {te : DTE} {en : En} {m : Me} (R : Nat → D → D → Prop) : ∀ {its acc : List D} {Q : W → Me → Prop} (i : Nat), acc.length + its.length ≤ sizeLine →
    (∀ j d (Qt : W → Me → Prop), its[j]? = some d → (∀ y, R (i + j) d y → Qt (.v y) m) → g (.v d) en m fun en1 m1 => te en1 m1 Qt noX) → (∀ ys, All2 R i its ys → Q (.v (.lst (acc ++ ys))) m) → lcL g tYs te en its acc m Q
  | [], acc, Q, i, _, _, k => by
    have z := k [] .nil
    rw [List.append_nil] at z
    exact z
  | d :: ds, acc, Q, i, hl, h, k => by
    rw [List.length_cons] at hl
    refine h 0 d _ rfl fun y r => ?_
    refine ⟨by omega, ?_⟩
    refine lcL_all R (i + 1) (by rw [List.length_append, List.length_singleton]; omega) (fun j e Qt he hq => h (j + 1) e Qt (by simpa using he) fun y r => hq y (by rw [show i + 1 + j = i + (j + 1) by omega]; exact r)) fun ys a => ?_
    rw [List.append_assoc]
    exact k (y :: ys) (.cons r a)
/-- .. that computes f of each item -/
theorem lcL_map {g : DTG} {te : DTE} {en : En} {m : Me} (f : D → D) : ∀ {its acc : List D} {Q : W → Me → Prop}, acc.length + its.length ≤ sizeLine →
    (∀ d (Qt : W → Me → Prop), d ∈ its → Qt (.v (f d)) m → g (.v d) en m fun en1 m1 => te en1 m1 Qt noX) → Q (.v (.lst (acc ++ its.map f))) m → lcL g tYs te en its acc m Q
  | [], acc, Q, _, _, k => by
    rw [List.map_nil, List.append_nil] at k
    exact k
  | d :: ds, acc, Q, hl, h, k => by
    rw [List.length_cons] at hl
    refine h d _ List.mem_cons_self ⟨by omega, ?_⟩
    refine lcL_map f (by rw [List.length_append, List.length_singleton]; omega) (fun e Qt he => h e Qt (List.mem_cons_of_mem _ he)) ?_
    rw [List.append_assoc]
    exact k
/-- .. with a test -/
theorem lcL_filter {g : DTG} {tt : DTT} {te : DTE} {en : En} {m : Me} (c : D → Bool) (f : D → D) : ∀ {its acc : List D} {Q : W → Me → Prop}, acc.length + its.length ≤ sizeLine →
    (∀ d (Qt : W → Me → Prop) (Qn : Me → Prop), d ∈ its → (c d = true → Qt (.v (f d)) m) → (c d = false → Qn m) → g (.v d) en m fun en1 m1 => tt en1 m1 (fun b m2 => if b = true then te en1 m2 Qt noX else Qn m2) noX) → Q (.v (.lst (acc ++ (its.filter c).map f))) m → lcL g tt te en its acc m Q
  | [], acc, Q, _, _, k => by
    rw [List.filter_nil, List.map_nil, List.append_nil] at k
    exact k
  | d :: ds, acc, Q, hl, h, k => by
    rw [List.length_cons] at hl
    have ih := fun (acc : List D) (Q : W → Me → Prop) (hl : acc.length + ds.length ≤ sizeLine) => lcL_filter (its := ds) (acc := acc) (Q := Q) c f hl fun e Qt Qn he => h e Qt Qn (List.mem_cons_of_mem _ he)
    refine h d _ (fun m2 => lcL g tt te en ds acc m2 Q) List.mem_cons_self (fun hc => ⟨by omega, ?_⟩) fun hc => ?_
    · refine ih _ _ (by rw [List.length_append, List.length_singleton]; omega) ?_
      rw [List.filter_cons_of_pos hc] at k
      rw [List.append_assoc]
      exact k
    · refine ih _ _ (by omega) ?_
      rw [List.filter_cons_of_neg (by rw [hc]; decide)] at k
      exact k
/-- a for by an invariant: what a turn is to reach is any N' -/
theorem sFor_inv {g : DTG} {tb : DTS} {N : Dn} (I : Nat → En → Me → Prop) : ∀ {its : List D} {en : En} {m : Me} (i : Nat), I i en m →
    (∀ j d en m (N' : Dn), its[j]? = some d → I (i + j) en m → N'.rt = N.rt → N'.xc = N.xc → N'.bk = N.nx → (∀ en' m', I (i + j + 1) en' m' → N'.nx en' m' ∧ N'.ct en' m') → g (.v d) en m fun en1 m1 => tb en1 m1 N') →
    (∀ en m, I (i + its.length) en m → N.nx en m) → sForL g tb its en m N
  | [], en, m, i, h, _, k => k _ _ h
  | d :: ds, en, m, i, h, t, k => by
    have nxt : ∀ en' m', I (i + 1) en' m' → sForL g tb ds en' m' N := fun en' m' h' => by
      refine sFor_inv I (i + 1) h' (fun j e en m N' he hi r1 r2 r3 hn => t (j + 1) e en m N' (by simpa using he) (by rw [show i + (j + 1) = i + 1 + j by omega]; exact hi) r1 r2 r3 fun en' m' z => hn en' m' (by rw [show i + 1 + j + 1 = i + (j + 1) + 1 by omega]; exact z)) fun en m z => k en m ?_
      rw [List.length_cons, show i + (ds.length + 1) = i + 1 + ds.length by omega]
      exact z
    exact t 0 d en m _ rfl h rfl rfl rfl fun en' m' z => ⟨nxt en' m' z, nxt en' m' z⟩
theorem sFor0 {g : DTG} {tb : DTS} {N : Dn} (I : Nat → En → Me → Prop) {its : List D} {en : En} {m : Me} (h : I 0 en m)
    (t : ∀ j d en m (N' : Dn), its[j]? = some d → I j en m → N'.rt = N.rt → N'.xc = N.xc → N'.bk = N.nx → (∀ en' m', I (j + 1) en' m' → N'.nx en' m' ∧ N'.ct en' m') → g (.v d) en m fun en1 m1 => tb en1 m1 N')
    (k : ∀ en m, I its.length en m → N.nx en m) : sForL g tb its en m N :=
  sFor_inv I 0 h (fun j d en m N' hd hi r1 r2 r3 hn => t j d en m N' hd (by rw [Nat.zero_add] at hi; exact hi) r1 r2 r3 fun en' m' z => hn en' m' (by rw [Nat.zero_add]; exact z)) fun en m z => k en m (by rw [Nat.zero_add] at z; exact z)
/-- a while by an invariant and a measure -/
theorem sWh_inv {c : DTT} {tb : DTS} {N : Dn} (I : Nat → En → Me → Prop) : ∀ (n : Nat) {en : En} {m : Me}, I n en m →
    (∀ n en m (N' : Dn), I n en m → N'.rt = N.rt → N'.xc = N.xc → N'.bk = N.nx → (∀ k en' m', k < n → I k en' m' → N'.nx en' m' ∧ N'.ct en' m') → c en m (fun b m1 => if b = true then tb en m1 N' else N.nx en m1) N.xc) → sWh c tb en m N := by
  intro n en m h t
  refine ⟨n + 1, ?_⟩
  -- more turns do no harm: by strong induction on the measure, for any number of turns above it
  have key : ∀ (n : Nat) (f : Nat) (en : En) (m : Me), n < f → I n en m → whN c tb f en m N := by
    intro n
    induction n using Nat.strongRecOn with
    | _ n ih =>
      intro f en m hf h
      cases f with
      | zero => omega
      | succ f =>
        refine t n en m { N with nx := fun en2 m2 => whN c tb f en2 m2 N, ct := fun en2 m2 => whN c tb f en2 m2 N, bk := N.nx } h rfl rfl rfl fun k en' m' hk hi => ?_
        have z := ih k hk f en' m' (by omega) hi
        exact ⟨z, z⟩
  exact key n (n + 1) en m (Nat.lt_succ_self n) h
theorem rngD_len (lo : Int) (n : Nat) : (rngD lo n).length = n := by unfold rngD; rw [List.length_map, List.length_range]
theorem rngD_at {lo : Int} {n j : Nat} {d : D} (h : (rngD lo n)[j]? = some d) : d = .int (lo + (j : Nat)) ∧ j < n := by
  unfold rngD at h
  rw [List.getElem?_map] at h
  cases q : (List.range n)[j]? with
  | none => rw [q] at h; cases h
  | some i =>
    rw [q] at h
    have l : j < n := by
      have := (List.getElem?_eq_some_iff.mp q).1
      simpa using this
    rw [List.getElem?_range l] at q
    cases q
    cases h
    exact ⟨rfl, l⟩
/-! ### the last own object -/
theorem lstAt_last {m : Me} {ds : List D} {Q : List D → Prop} (h : Q ds) : lstAt (m ++ [.lst ds]) m.length Q := by
  unfold lstAt
  rw [List.getElem?_append_right (Nat.le_refl _), Nat.sub_self]
  exact h
theorem set_last {α : Type} {m : List α} {a b : α} : (m ++ [a]).set m.length b = m ++ [b] := by
  rw [List.set_append_right _ _ (Nat.le_refl _), Nat.sub_self]
  rfl
theorem at_more {m : Me} {n : Nat} {x : MO} {l : Me} (h : m[n]? = some x) : (m ++ l)[n]? = some x := by
  rw [List.getElem?_append_left (List.getElem?_eq_some_iff.mp h).1]
  exact h
theorem sbs_self {n : Nat} {d : D} : sbs n d (some (.loc n)) = some (.v d) := by
  show (if n = n then some (W.v d) else some (W.loc n)) = _
  rw [if_pos rfl]
theorem get_sbs {en : En} {i n : Nat} {d : D} (h : En.get en i = some (.loc n)) : En.get (en.map (sbs n d)) i = some (.v d) := by
  have e := En.get_some h
  unfold En.get
  rw [List.getElem?_map, e]
  show sbs n d (some (.loc n)) = _
  exact sbs_self
theorem sFz_last {i : Nat} {u : DTS} {en : En} {m : Me} {ds : List D} {N : Dn} (h : En.get en i = some (.loc m.length)) (k : u (en.map (sbs m.length (.lst ds))) (m ++ [.gone]) N) : sFz i u en (m ++ [.lst ds]) N := by
  unfold sFz
  rw [h]
  refine lstAt_last ?_
  rw [set_last]
  exact k
/-- return x, x the last own list -/
theorem ret_last {i : Nat} {en : En} {m : Me} {ds : List D} {N : Dn} (h : En.get en i = some (.loc m.length)) (k : N.rt (.v (.lst ds)) (m ++ [.gone])) : sFz i (sRet (tV i)) en (m ++ [.lst ds]) N := by
  refine sFz_last h ?_
  unfold sRet tV
  rw [get_sbs h]
  exact k
end Fs
set_option Elab.async false
set_option linter.all false
set_option maxRecDepth 100000
set_option maxHeartbeats 8000000
namespace Fs
open PySem PySem.Spec PyProof.Rows L2
section
variable {X : Cx} {E : XK}
theorem dk_nil : DK X E [] tN := ⟨_, pk_nil, fun B μ en m σ H Q Qx QV R hx T k => k B μ m H [] [] .refl R .nil T⟩
theorem dk_cons {e : Expr} {nm : Option Str} {kpos : Pos} {kws : List Keyword} {te : DTE} {ta : DTA} (he : DE X E e te) (ha : DK X E kws ta) : DK X E (⟨nm, e, kpos⟩ :: kws) (tCn te ta) := by
  obtain ⟨t1, p1, k1⟩ := he.ex
  obtain ⟨t2, p2, k2⟩ := ha.ex
  refine ⟨_, pk_cons p1 p2, fun B μ en m σ H Q Qx QV R hx T k => ?_⟩
  refine k1 B μ en m σ H _ Qx _ R hx T fun B1 μ1 m1 H1 x v s1 R1 r1 T1 => ?_
  refine k2 B1 μ1 en m1 σ H1 _ Qx _ R1 (hx.step s1 R1.mem R.mem.le) T1 fun B2 μ2 m2 H2 xs vs s2 R2 r2 T2 => ?_
  exact k B2 μ2 m2 H2 _ _ (s1.trans R1.mem s2 R.mem.le) R2 (.cons (r1.to s2.same s2.pre) r2) T2
theorem Reo.snd {K : Frag} : Reo K (fun _ zs => zs) (fun _ zs => zs) := fun _ _ _ _ _ _ _ h => h
end
def repS (a : Str) (n : Nat) : Str := ⟨(List.replicate n a.cps).foldl (· ++ ·) #[]⟩
theorem repS_tl (a : Str) : ∀ n : Nat, (repS a n).cps.toList = (List.replicate n a.cps.toList).flatten := by
  intro n
  have key : ∀ (l : List (Array Nat)) (acc : Array Nat), (l.foldl (· ++ ·) acc).toList = acc.toList ++ (l.map (·.toList)).flatten := by
    intro l
    induction l with
    | nil => simp
    | cons x l ih => intro acc; rw [List.foldl_cons, ih]; simp
  show ((List.replicate n a.cps).foldl (· ++ ·) #[]).toList = _
  rw [key, List.map_replicate]
  rfl
theorem repS_len (a : Str) (n : Nat) : (repS a n).length = n * a.length := by
  show (repS a n).cps.size = n * a.cps.size
  rw [← Array.length_toList, repS_tl, List.length_flatten, List.map_replicate, List.sum_replicate_nat, Array.length_toList]
theorem op_mulS {X : Cx} : OpR X (binaryOp .Mult) (fun x y H Q => ∃ a n, x = .str a ∧ y = .int n ∧ 1 < n ∧ n < 2 ^ 20 ∧ 0 < a.length ∧ a.length * n.toNat ≤ sizeLine ∧ Q (.str (repS a n.toNat)) H) := by
  intro pins s σ H x y v u Q I rx ry h
  obtain ⟨a, n, rfl, rfl, h1, h2, h3, h4, q⟩ := h
  obtain ⟨t, rfl⟩ := rx
  obtain ⟨t', rfl⟩ := ry
  have e : (n == 1 || a.length == 0) = false := by
    rw [Bool.or_eq_false_iff]
    exact ⟨beq_eq_false_iff_ne.mpr (by omega), beq_eq_false_iff_ne.mpr (by omega)⟩
  have hl : a.length ≤ sizeLine := by
    refine Nat.le_trans ?_ h4
    exact Nat.le_mul_of_pos_right _ (by omega)
  have ln := sizeLine_eq
  refine PySem.P.mul_str (by rw [decide_eq_false (by omega), decide_eq_false (by omega)]; rfl) (fun _ _ => ?_) (fun _ _ => decide_eq_false (by omega)) ?_
  · intro z
    have : (a.length : Int) * n ≤ 2 ^ 63 - 1 := by
      have : ((a.length * n.toNat : Nat) : Int) ≤ (sizeLine : Int) := by omega
      rw [Int.natCast_mul, Int.toNat_of_nonneg (by omega)] at this
      omega
    have := Int.le_ediv_of_mul_le (by omega : (0 : Int) < n) this
    omega
  · rw [if_neg (by omega), if_neg (by rw [e]; decide)]
    exact ⟨by show (repS a n.toNat).length ≤ _; rw [repS_len, Nat.mul_comm]; exact h4, ⟨.str (repS a n.toNat), H, I.tok _, ⟨_, rfl⟩, q⟩⟩
def mulSD : F2
  | .str a, .int n, Q => 1 < n ∧ n < 2 ^ 20 ∧ 0 < a.length ∧ a.length * n.toNat ≤ sizeLine ∧ Q (.str (repS a n.toNat))
  | _, _, _ => False
theorem o_mulS {X : Cx} : OpD X (binaryOp .Mult) (oL mulSD) := by
  refine ⟨_, op_mulS, SO.of fun B μ m H v u dx dy Q QV M tx ty q k => ?_⟩
  unfold mulSD at q
  split at q
  · cases tx with
    | str h1 => cases ty with
      | int =>
        obtain ⟨q1, q2, q3, q4, q⟩ := q
        refine ⟨_, _, rfl, rfl, q1, q2, q3, q4, SO.pure M k (.str (okS_iff.mpr fun c hc => ?_)) q⟩
        rw [repS_tl] at hc
        obtain ⟨l, hl, hc⟩ := List.mem_flatten.mp hc
        rw [(List.mem_replicate.mp hl).2] at hc
        exact okS_iff.mp h1 c hc
  · exact q.elim
end Fs
set_option Elab.async false
set_option linter.all false
set_option maxRecDepth 100000
set_option maxHeartbeats 8000000
namespace Fs
open PySem PySem.Spec PyProof.Rows L2
/-- t looks the names up in the dict at D, one behind another, and goes on as r -/
def KwTo {α : Type} (D : Addr) : List (Str × Value) → Sem α → Sem α → Prop
  | [], t, r => t = r
  | q :: l, t, r => ∃ (β γ : Type) (k1 : Option Value → Sem β) (k2 : β → Sem γ) (k3 : γ → Sem α) (a : β), t = ((nsGet D q.1 >>= k1) >>= k2) >>= k3 ∧ k1 (some q.2) = pure a ∧ KwTo D l (k2 a >>= k3) r
theorem KwTo.one {α β γ : Type} {D : Addr} {q : Str × Value} {l : List (Str × Value)} {t r : Sem α} {k1 : Option Value → Sem β} {k2 : β → Sem γ} {k3 : γ → Sem α} {a : β} (h1 : t = ((nsGet D q.1 >>= k1) >>= k2) >>= k3) (h2 : k1 (some q.2) = pure a) (h3 : KwTo D l (k2 a >>= k3) r) : KwTo D (q :: l) t r := ⟨β, γ, k1, k2, k3, a, h1, h2, h3⟩
theorem KwTo.run {α : Type} {K : Frag} {M : Model} {A : Around} {E : Value → Shared → Prop} {s : Shared} {Q : α → Shared → Prop} {D : Addr} (X : K.In s.heap) : ∀ {l : List (Str × Value)} {t r : Sem α}, (∀ q ∈ l, PySem.W.nsIn K D q.1 = some (some q.2)) → KwTo D l t r → wpAny M A r Q E s → wpAny M A t Q E s
  | [], t, r, _, e, h => by
    rw [show t = r from e]
    exact h
  | q :: l, t, r, hl, e, h => by
    obtain ⟨β, γ, k1, k2, k3, a, rfl, e2, e3⟩ := e
    rw [bind_assoc]
    have l1 : PySem.W.Looks M s.heap (nsGet D q.1 >>= k1) a := (PySem.W.looks_nsIn X (hl q List.mem_cons_self)).andThen (PySem.W.Looks.of_pure e2)
    exact wpAny_bind (l1.here (KwTo.run X (fun p hp => hl p (List.mem_cons_of_mem _ hp)) e3 h))
/-- a function called with positional values and keywords ks -/
def FnRK (P : Program) (w : World) (K : Frag) (mg : Str → Option Value) (base : Heap) (k : Nat) (f : Addr) (ks : List Str) (sp : List V → List V → Hp → VK → Prop) : Prop :=
  ∀ (A : Around) (outer : List Env) (s : Shared) (H : Hp) (us ws : List Value) (vs zs : List V) (Q : VK), Room k A → Env0 P w K mg base A outer s H → Vals vs us → Vals zs ws → zs.length = ks.length → sp vs zs H Q →
    codeAny (model P w) A (.call (.ref f) ⟨us, ks.zip ws⟩) (CR CX0 outer P w H s Q E0) s
section
variable {P : Program} {w : World} {K : Frag} {mg : Str → Option Value} {base : Heap} {x qual : Str} {params : Arguments} {body : List Stmt} {scope : Scope} {kws : List (Str × V)} {f : Addr} {fd : FuncData} {N ps : List Str} {k : Nat}
theorem fnk_star {sp : List V → Hp → VK → Prop} (F : FunD K x qual params body scope [] kws f fd) (hk : kws ≠ []) (S : FnScope N ps scope) (ks : List Str) (ms : List (Str × V)) (hms : ∀ q ∈ ms, q ∈ kws) (g : {α : Type} → List α → List α → List α)
    (hrel : ∀ {zs mz : List V} {ws mv : List Value}, Vals zs ws → Vals mz mv → Vals (g zs mz) (g ws mv)) (hlen : ∀ (zs : List V), zs.length = ks.length → (g zs (ms.map (·.2))).length + 1 = ps.length)
    (hb : ∀ (D : Addr) (doc pm : Value) (an : Option Addr) (cdv ct : Value) (us ws mv : List Value), ws.length = ks.length → mv.length = ms.length →
      KwTo D ((ms.map (·.1)).zip mv) (bindArgs (PySem.W.fnOf x qual params body scope .none (.ref D) doc pm an cdv ct) ⟨us, ks.zip ws⟩) (newTuple us >>= fun t => pure (ps.zip (g ws mv ++ [t]))))
    (hbody : ∀ (cdv : Value) (A : Around) (outer : List Env) (s : Shared) (H : Hp) (vs : List V) (Q : VK), Room k (A.deeper (envOfC qual scope s.heap.objs.size f cdv)) → sp vs H Q →
      ∃ t, PSs (cxOf CX0 P w K mg base N qual scope f cdv A outer s H E0).nox body t ∧ t { nx := fun _ H' => Q .non H', rt := Q } (L2.start N vs) H) :
    FnRK P w K mg base (k + 1) f ks (fun vs zs H Q => vs.length ≤ sizeLine ∧ ∀ p, H p = none → sp (g zs (ms.map (·.2)) ++ [V.ref p]) (upd H p (.tup vs)) Q) := by
  intro A outer s H us ws vs zs Q hr e0 r rz lz hsp
  obtain ⟨hz, hq⟩ := hsp
  obtain ⟨oc, od, dV, kV, doc, pm, an, cdv, ct, osl, rfl, lk, hcd, hD, hK⟩ := F.ex
  rcases hD with ⟨_, rfl⟩ | ⟨e, _⟩
  case inr => exact absurd rfl e
  rcases hK with e | ⟨D, rfl, hkw⟩
  · exact absurd e hk
  obtain ⟨mv, hl, rk, hks⟩ := kwd_vals (ms := ms) fun q hm => hkw q (hms q hm)
  have hn : H s.heap.objs.size = none := e0.hok.fresh (Nat.le_refl _)
  have KX : K.In s.heap := e0.mod.kin.keeps fun b o e => (e0.bs b o e).1
  have hl2 : us.length ≤ sizeLine := by rw [← r.length]; exact hz
  refine StX.run_bnd lk hcd S hr e0 (G := fun xs H2 => ∃ p, H p = none ∧ xs = g zs (ms.map (·.2)) ++ [V.ref p] ∧ H2 = upd H p (.tup vs)) (fun A' Ex Q' h => ?_) fun s2 H2 xs ⟨p, hp, ex, eH⟩ hr' => ?_
  · refine KwTo.run KX hks (hb D doc pm an cdv ct us ws mv (by rw [← rz.length]; exact lz) hl) ?_
    refine wpAny_bind (wpAny_newTuple (wpAny_pure ?_) hl2)
    have new : ObjOk P w (upd H s.heap.objs.size (.tup vs)) (s.heap.push ({ cls := .type "tuple", data := .seq us.toArray } : Obj)) s.heap.objs.size (.tup vs) := ⟨hz, us, r, ⟨_, Heap.get?_push_size _ rfl, rfl, _, rfl⟩⟩
    have un := StX.un_laid (fs := frs outer) (s := s) (o := ({ cls := .type "tuple", data := .seq us.toArray } : Obj)) (u := .tup vs) hn
    exact h _ _ (g zs (ms.map (·.2)) ++ [V.ref s.heap.objs.size]) _ (StX.env0_laid e0 new) un rfl (fun e s' z => z.elim) ((hrel rz rk).append (.cons rfl .nil))
      (by rw [List.length_append]; exact hlen zs lz) ⟨_, hn, rfl, rfl⟩
  · subst ex eH
    obtain ⟨t, h1, h2⟩ := hbody cdv A outer s2 _ _ Q hr' (hq p hp)
    exact ⟨t, h1.nox, h2⟩
end
section
variable {X : Cx} {k : Nat} {f : Addr} {x : Str} {ks : List Str} {sp : List V → List V → Hp → VK → Prop} {p pos : Pos}
/-- f(e, .., k = v, ..) of such a function -/
def tCallK (m : Nat) (sp : List V → List V → Hp → VK → Prop) (t tk : TA) : TE := fun σ H Q => t σ H fun vs H1 => tk σ H1 fun zs H2 => zs.length = m ∧ sp vs zs H2 Q
theorem run_fnk {pins : List (Addr × Obj)} {σ : L2.St} {H : Hp} {s : Shared} {Q : VK} {us ws : List Value} {vs zs : List V} (F : FnRK X.prog X.w X.K X.mg X.base k f ks sp) (hr : Room k X.A) (I : Inv X pins σ H s) (r : Vals vs us) (rz : Vals zs ws) (l : zs.length = ks.length) (h : sp vs zs H Q) :
    wpAny (model X.prog X.w) X.A (call (.ref f) us (ks.zip ws)) (fun u s' => ∃ v H', Inv X pins σ H' s' ∧ RelV v u ∧ Q v H') X.xe s := by
  refine wpAny_call (codeAny_mono (F X.A X.stack s H us ws vs zs Q hr I.env0 r rz l h) ?_)
  intro z s2 hz
  cases z with
  | error e => exact (show False from hz).elim
  | ok fl =>
    cases fl with
    | ret u => exact I.after hz
    | next => exact (show False from hz).elim
    | brk => exact (show False from hz).elim
    | cont => exact (show False from hz).elim
variable {e : Expr} {es : List Expr} {kws : List Keyword} {t tk : TA}
/-- such a def of the module's top -/
structure GsK (P : Program) (w : World) (K : Frag) (mg : Str → Option Value) (base : Heap) (k : Nat) (x : Str) (ks : List Str) (sp : List V → List V → Hp → VK → Prop) : Prop where
  ex : ∃ f, mg x = some (.ref f) ∧ PySem.W.keepIn K (.ref f) = true ∧ FnRK P w K mg base k f ks sp
theorem pe_k (G : GsK X.prog X.w X.K X.mg X.base k x ks sp) (hr : Room k X.A) (ha : PA X (e :: es) t) (hkw : PK X kws tk) (hg : Gl X x := by rfl)
    (hall : (backToKw pos (keywordEach kws X.env)).all (·.1.isSome) = true := by rfl) (hks : (backToKw pos (keywordEach kws X.env)).filterMap (·.1) = ks := by rfl)
    (hdb : (x == ("__debug__" : Str)) = false := by decide) (he : starEach (e :: es) X.env = (false, eval e X.env) :: starEach es X.env := by rfl)
    (hpl : ((backTo pos (starEach (e :: es) X.env)).any (·.1) || (backToKw pos (keywordEach kws X.env)).any (·.1.isNone)) = false := by rfl) : PE X (.Call (.Name x p) (e :: es) kws pos) (tCallK ks.length sp t tk) := by
  obtain ⟨f, hm, hk, F⟩ := G.ex
  constructor
  intro pins s σ H Q I h
  refine wpAny_Call_Name_kw (ld_glob I hg hm ?_ hdb)
  refine PySem.W.callWith_KW (h₀ := X.base) I.ok.mod.kin hk hall (thn (ha.run pos pins s σ H _ I h) fun us s1 ⟨vs, H1, I1, r, q⟩ => ?_) hpl he
  refine thn (hkw.run pos pins s1 σ H1 _ I1 q) fun ws s2 ⟨zs, H2, I2, rz, l, q2⟩ => ⟨I2.kIn, ?_⟩
  rw [hks]
  exact run_fnk F hr I2 r rz l q2
theorem pe_kp (G : GsK X.prog X.w X.K X.mg X.base k x [] sp) (hr : Room k X.A) (ha : PA X (e :: es) t) (hg : Gl X x := by rfl) (hdb : (x == ("__debug__" : Str)) = false := by decide)
    (he : starEach (e :: es) X.env = (false, eval e X.env) :: starEach es X.env := by rfl) (hpl : (backTo pos (starEach es X.env)).any (·.1) = false := by rfl) : PE X (.Call (.Name x p) (e :: es) [] pos) (fun σ H Q => t σ H fun vs H1 => sp vs [] H1 Q) := by
  obtain ⟨f, hm, hk, F⟩ := G.ex
  constructor
  intro pins s σ H Q I h
  refine wpAny_Call_Name_kw (ld_glob I hg hm ?_ hdb)
  refine PySem.W.callWith_K (h₀ := X.base) I.ok.mod.kin hk (thn (ha.run pos pins s σ H _ I h) fun us s1 ⟨vs, H1, I1, r, q⟩ => ⟨I1.kIn, ?_⟩) he hpl
  exact run_fnk (ws := []) F hr I1 r .nil rfl q
theorem pe_k0 (G : GsK X.prog X.w X.K X.mg X.base k x [] sp) (hr : Room k X.A) (hg : Gl X x := by rfl) (hdb : (x == ("__debug__" : Str)) = false := by decide) : PE X (.Call (.Name x p) [] [] pos) (fun _ H Q => sp [] [] H Q) := by
  obtain ⟨f, hm, hk, F⟩ := G.ex
  constructor
  intro pins s σ H Q I h
  exact wpAny_Call_Name_kw (ld_glob I hg hm (PySem.W.callWith_K0 I.kIn hk (run_fnk (us := []) (ws := []) F hr I .nil .nil rfl h)) hdb)
end
end Fs
set_option Elab.async false
set_option linter.all false
set_option maxRecDepth 100000
set_option maxHeartbeats 8000000
namespace Fs
open PySem PySem.Spec PyProof.Rows L2
/-! ### constants -/
mutual
def conU (K : Frag) : Nat → Value → D → Bool
  | _, .none, .non => true
  | _, .bool b, .bl c => b == c
  | _, .int i _, .int j => decide (i = j)
  | _, .str x _, .str y => decide (x = y) && okS y
  | n + 1, .ref a, .tup ds => (match K.lookup a with
    | some ⟨.type c, _, .seq its _, _⟩ => decide (c = "tuple") && (decide (its.size ≤ sizeLine) && conUs K n its.toList ds)
    | _ => false)
  | _, _, _ => false
def conUs (K : Frag) : Nat → List Value → List D → Bool
  | _, [], [] => true
  | n, u :: us, d :: ds => conU K n u d && conUs K n us ds
  | _, _, _ => false
end
mutual
theorem conU_ok {K : Frag} : ∀ {n : Nat} {d : D} {u : Value}, conU K n u d = true → ∃ v, RelV v u ∧ ∀ B, Rv K B v d
  | n, .non, u, h => by
    cases u <;> first | exact ⟨.non, rfl, fun _ => .non⟩ | (exfalso; cases n <;> cases h)
  | n, .bl c, u, h => by
    cases u <;> first
      | (have h : (_ == c) = true := h
         exact ⟨.bl c, by rw [eq_of_beq h]; rfl, fun _ => .bl c⟩)
      | (exfalso; cases n <;> cases h)
  | n, .int j, u, h => by
    cases u <;> first
      | (have h := of_decide_eq_true (show decide (_ = j) = true from h)
         exact ⟨.int j, by rw [h]; exact ⟨_, rfl⟩, fun _ => .int j⟩)
      | (exfalso; cases n <;> cases h)
  | n, .str y, u, h => by
    cases u <;> first
      | (have h := Bool.and_eq_true_iff.mp (show (decide (_ = y) && okS y) = true from h)
         exact ⟨.str y, by rw [of_decide_eq_true h.1]; exact ⟨_, rfl⟩, fun _ => .str h.2⟩)
      | (exfalso; cases n <;> cases h)
  | n + 1, .tup ds, u, h => by
    cases u with
    | ref a =>
      have h : (match K.lookup a with
        | some ⟨.type c, _, .seq its _, _⟩ => decide (c = "tuple") && (decide (its.size ≤ sizeLine) && conUs K n its.toList ds)
        | _ => false) = true := h
      cases q : K.lookup a with
      | none =>
        rw [q] at h
        cases h
      | some o =>
        obtain ⟨oc, od, dt, osl⟩ := o
        rw [q] at h
        cases oc with
        | type c =>
          cases dt with
          | seq its k =>
            have h := Bool.and_eq_true_iff.mp (show (decide (c = "tuple") && (decide (its.size ≤ sizeLine) && conUs K n its.toList ds)) = true from h)
            have h2 := Bool.and_eq_true_iff.mp h.2
            obtain ⟨vs, r, hv⟩ := conUs_ok h2.2
            exact ⟨.ref a, rfl, fun B => .tup (.inr ⟨_, its, k, q, congrArg Value.type (of_decide_eq_true h.1), rfl, of_decide_eq_true h2.1, r⟩) (hv B)⟩
          | _ => cases h
        | _ => cases dt <;> cases h
    | _ => cases h
  | 0, .tup ds, u, h => by cases u <;> cases h
  | n, .ty _, u, h => by cases u <;> cases n <;> cases h
  | n, .fn _, u, h => by cases u <;> cases n <;> cases h
  | n, .lst _, u, h => by cases u <;> cases n <;> cases h
  | n, .dic _, u, h => by cases u <;> cases n <;> cases h
  | n, .obj _ _, u, h => by cases u <;> cases n <;> cases h
  | n, .exc _ _, u, h => by cases u <;> cases n <;> cases h
theorem conUs_ok {K : Frag} : ∀ {n : Nat} {ds : List D} {us : List Value}, conUs K n us ds = true → ∃ vs, Vals vs us ∧ ∀ B, RvL K B vs ds
  | _, [], [], _ => ⟨[], .nil, fun _ => .nil⟩
  | _, [], _ :: _, h => by cases h
  | _, _ :: _, [], h => by cases h
  | n, d :: ds, u :: us, h => by
    have h := Bool.and_eq_true_iff.mp (show (conU K n u d && conUs K n us ds) = true from h)
    obtain ⟨v, r, hv⟩ := conU_ok h.1
    obtain ⟨vs, rs, hvs⟩ := conUs_ok h.2
    exact ⟨v :: vs, .cons r rs, fun B => .cons (hv B) (hvs B)⟩
end
section
variable {X : Cx} {E : XK}
theorem d_con {n : Nat} {x : Str} {d : D} {u : Value} {pos : Pos} (hm : X.mg x = some u) (h : conU X.K n u d = true) (hg : Gl X x := by rfl) (hd : (x == ("__debug__" : Str)) = false := by decide) : DE X E (.Name x pos) (tK d) := by
  obtain ⟨v, r, hv⟩ := conU_ok h
  exact d_glob hm r hv hg hd
/-! ### starred items -/
def itemsOf : D → (List D → Prop) → Prop
  | .lst ds, Q => Q ds
  | .tup ds, Q => Q ds
  | _, _ => False
def tStr (te : DTE) (ta : DTA) : DTA := fun en m Q Qx => te en m (fun x m1 => look x m1 fun d => itemsOf d fun ds => ta en m1 (fun xs m2 => Q (ds.map .v ++ xs) m2) Qx) Qx
theorem RvL.ws' {K : Frag} {B : Hp} {μ : List Addr} {vs us : List V} {ds : List D} {xs : List W} (h : RvL K B vs ds) (r : RWs K B μ us xs) : RWs K B μ (vs ++ us) (ds.map .v ++ xs) := by
  induction vs generalizing ds with
  | nil => cases h; exact r
  | cons v vs ih => cases h with
    | cons a t => exact .cons (RW.d a) (ih t)
theorem da_star {e : Expr} {p : Pos} {es : List Expr} {te : DTE} {ta : DTA} (he : DE X E e te) (ha : DA X E es ta) (hs : starEach (.Starred e p :: es) X.env = (true, eval e X.env) :: starEach es X.env := by rfl) : DA X E (.Starred e p :: es) (tStr te ta) := by
  obtain ⟨t1, p1, k1⟩ := he.ex
  obtain ⟨t2, p2, k2⟩ := ha.ex
  refine ⟨_, StX.pa_star p1 p2 hs, fun B μ en m σ H Q Qx QV R hx T k => ?_⟩
  refine k1 B μ en m σ H _ Qx _ R hx T fun B1 μ1 m1 H1 x v s1 R1 r1 T1 => ?_
  obtain ⟨d, td, q2⟩ := look_ok R1.mem r1 T1
  unfold itemsOf at q2
  split at q2
  · obtain ⟨a, vs, rfl, hp, r⟩ := td
    refine ⟨a, vs, rfl, .inr (.inl (.inl hp)), ?_⟩
    refine k2 B1 μ1 en m1 σ H1 _ Qx _ R1 (hx.step s1 R1.mem R.mem.le) q2 fun B2 μ2 m2 H2 xs us s2 R2 r2 T2 => ?_
    exact k B2 μ2 m2 H2 _ _ (s1.trans R1.mem s2 R.mem.le) R2 ((r.to s2.same).ws' r2) T2
  · obtain ⟨a, vs, rfl, hp, r⟩ := td
    refine ⟨a, vs, rfl, .inl (R1.mem.le.tup hp), ?_⟩
    refine k2 B1 μ1 en m1 σ H1 _ Qx _ R1 (hx.step s1 R1.mem R.mem.le) q2 fun B2 μ2 m2 H2 xs us s2 R2 r2 T2 => ?_
    exact k B2 μ2 m2 H2 _ _ (s1.trans R1.mem s2 R.mem.le) R2 ((r.to s2.same).ws' r2) T2
  · exact q2.elim
end
end Fs
set_option Elab.async false
set_option linter.all false
set_option maxRecDepth 100000
set_option maxHeartbeats 8000000
namespace Fs
open PySem PySem.Spec PyProof.Rows L2
theorem len1d {α : Type} {zs : List α} (h : zs.length = 1) : ∃ a, zs = [a] := by
  match zs, h with
  | [a], _ => exact ⟨a, rfl⟩
theorem cutD_to (xs : List D) (k : Nat) : cutD xs none (some (k : Int)) = xs.take k := by
  unfold cutD
  rw [HT.sIx_none, HT.sIx_nat, List.drop_zero, Nat.sub_zero]
  by_cases h : k ≤ xs.length
  · rw [Nat.min_eq_left h]
  · rw [Nat.min_eq_right (by omega), List.take_of_length_le (Nat.le_refl _), List.take_of_length_le (by omega)]
theorem cutD_from (xs : List D) (k : Nat) : cutD xs (some (k : Int)) none = xs.drop k := by
  unfold cutD
  rw [HT.sIx_none, HT.sIx_nat]
  by_cases h : k ≤ xs.length
  · rw [Nat.min_eq_left h, List.take_of_length_le (by rw [List.length_drop]; omega)]
  · rw [Nat.min_eq_right (by omega), List.drop_of_length_le (Nat.le_refl _), List.drop_of_length_le (by omega)]
    simp
/-- what a call of such a def asks: g puts the keywords' values and the defaults in the parameters' order, the tuple of the others comes last -/
def liftS (K : Frag) (g : List W → List W) (sp : SpD) : List V → List V → Hp → VK → Prop := fun vs zs H Q => vs.length ≤ sizeLine ∧ ∃ B μ m ds ws Qd, MemOk K B μ m H ∧ RvL K B vs ds ∧ RWs K B μ zs ws ∧ sp (g ws ++ [.v (.tup ds)]) m Qd noX ∧
  ∀ B' μ' m' H' x v, Stp B μ m H B' μ' m' H' → MemOk K B' μ' m' H' → RW K B' μ' v x → Qd x m' → Q v H'
theorem RWs.append {K : Frag} {B : Hp} {μ : List Addr} {vs us : List V} {xs ys : List W} (a : RWs K B μ vs xs) (b : RWs K B μ us ys) : RWs K B μ (vs ++ us) (xs ++ ys) := by
  induction a with
  | nil => exact b
  | cons h _ ih => exact .cons h ih
theorem oDs_star : ∀ {ds : List D} {xs : List W} {Q : List D → Prop}, (oDs xs fun es => Q (ds ++ es)) → oDs (ds.map .v ++ xs) Q
  | [], _, _, h => h
  | d :: ds, xs, Q, h => oDs_star (ds := ds) (Q := fun es => Q (d :: es)) h
theorem liftS_to {K : Frag} {gW : List W → List W} {gV : List V → List V} {sp : SpD} {vs zs : List V} {H : Hp} {Q : VK} (hg : ∀ B μ zs ws, RWs K B μ zs ws → RWs K B μ (gV zs) (gW ws)) (h : liftS K gW sp vs zs H Q) : vs.length ≤ sizeLine ∧ ∀ p, H p = none → lift K sp (gV zs ++ [V.ref p]) (upd H p (.tup vs)) Q E0 := by
  obtain ⟨h1, B, μ, m, ds, ws, Qd, M, r, rz, hs, hq⟩ := h
  refine ⟨h1, fun p np => ?_⟩
  have sl := Stp.laid M np (o := .tup vs)
  refine ⟨_, μ, m, _, Qd, noX, M.laid np, RWs.append (hg _ _ _ _ (rz.to sl.same (List.prefix_refl _))) (.cons (RW.d (.tup (.inl upd_same) (r.to sl.same))) .nil), hs, ExOf.no, fun B' μ' m' H' x v s M' rr q => hq B' μ' m' H' x v (sl.trans (M.laid np) s M.le) M' rr q⟩
section
variable {P : Program} {w : World} {K : Frag} {mg : Str → Option Value} {base : Heap} {x : Str} {st : Stmt} {kwd : List (Str × V)} {f : Addr} {fd : FuncData} {N ps : List Str} {k : Nat} {sp : SpD}
theorem fnk_d (F : FunD K x x (defArgs st) (defBody st) (defScope st) [] kwd f fd) (hk : kwd ≠ []) (S : FnScope N ps (defScope st)) (ks : List Str) (ms : List (Str × V)) (hms : ∀ q ∈ ms, q ∈ kwd) (g : {α : Type} → List α → List α → List α) (gW : List W → List W)
    (hrel : ∀ {zs mz : List V} {ws mv : List Value}, Vals zs ws → Vals mz mv → Vals (g zs mz) (g ws mv)) (hlen : ∀ (zs : List V), zs.length = ks.length → (g zs (ms.map (·.2))).length + 1 = ps.length) (hg : ∀ B μ zs ws, RWs K B μ zs ws → RWs K B μ (g zs (ms.map (·.2))) (gW ws))
    (hb : ∀ (D : Addr) (doc pm : Value) (an : Option Addr) (cdv ct : Value) (us ws mv : List Value), ws.length = ks.length → mv.length = ms.length →
      KwTo D ((ms.map (·.1)).zip mv) (bindArgs (PySem.W.fnOf x x (defArgs st) (defBody st) (defScope st) .none (.ref D) doc pm an cdv ct) ⟨us, ks.zip ws⟩) (newTuple us >>= fun t => pure (ps.zip (g ws mv ++ [t]))))
    (hbody : ∀ (f : Addr) (cdv : Value) (A : Around) (outer : List Env) (s : Shared) (H : Hp), Room k (A.deeper (envOfC x (defScope st) s.heap.objs.size f cdv)) →
      ∃ T, DSs (cxOf CX0 P w K mg base N x (defScope st) f cdv A outer s H E0).nox E0 (defBody st) T ∧ ∀ ws m Qd Qx, sp ws m Qd Qx → T (startE N ws) m (defN m Qd Qx)) : FnRK P w K mg base (k + 1) f ks (liftS K gW sp) := by
  have z := fnk_star (sp := fun vs H Q => lift K sp vs H Q E0) F hk S ks ms hms g hrel hlen hb (fun cdv A outer s H vs Q hr h => by
    obtain ⟨T, hd, hT⟩ := hbody f cdv A outer s H hr
    obtain ⟨t, hp, hs⟩ := hd.ex
    exact ⟨t, hp, hs.def_ hT h⟩)
  intro A outer s H us ws vs zs Q hr e0 r rz l q
  exact z A outer s H us ws vs zs Q hr e0 r rz l (liftS_to (gV := fun zs => g zs (ms.map (·.2))) hg q)
/-- .. without keyword-only parameters -/
theorem fnk_d0 (F : FunD K x x (defArgs st) (defBody st) (defScope st) [] [] f fd) (S : FnScope N ps (defScope st)) (hlen : ps.length = 1)
    (hb : ∀ (kV doc pm : Value) (an : Option Addr) (cdv ct : Value) (us : List Value), bindArgs (PySem.W.fnOf x x (defArgs st) (defBody st) (defScope st) .none kV doc pm an cdv ct) ⟨us, []⟩ = (newTuple us >>= fun t => pure (ps.zip [t])))
    (hbody : ∀ (f : Addr) (cdv : Value) (A : Around) (outer : List Env) (s : Shared) (H : Hp), Room k (A.deeper (envOfC x (defScope st) s.heap.objs.size f cdv)) →
      ∃ T, DSs (cxOf CX0 P w K mg base N x (defScope st) f cdv A outer s H E0).nox E0 (defBody st) T ∧ ∀ ws m Qd Qx, sp ws m Qd Qx → T (startE N ws) m (defN m Qd Qx)) : FnRK P w K mg base (k + 1) f [] (liftS K (fun ws => ws) sp) := by
  intro A outer s H us ws vs zs Q hr e0 r rz lz hsp
  obtain ⟨hz, hq⟩ := liftS_to (gV := fun zs => zs) (fun _ _ _ _ h => h) hsp
  obtain ⟨oc, od, dV, kV, doc, pm, an, cdv, ct, osl, rfl, lk, hcd, hD, hK⟩ := F.ex
  rcases hD with ⟨_, rfl⟩ | ⟨e, _⟩
  case inr => exact absurd rfl e
  have hzs : zs = [] := List.length_eq_zero_iff.mp lz
  subst hzs
  cases rz
  have hn : H s.heap.objs.size = none := e0.hok.fresh (Nat.le_refl _)
  have hl2 : us.length ≤ sizeLine := by rw [← r.length]; exact hz
  refine StX.run_bnd lk hcd S hr e0 (G := fun xs H2 => ∃ p, H p = none ∧ xs = [V.ref p] ∧ H2 = upd H p (.tup vs)) (fun A' Ex Q' h => ?_) fun s2 H2 xs ⟨p, hp, ex, eH⟩ hr' => ?_
  · show wpAny _ _ (bindArgs _ ⟨us, []⟩) _ _ _
    rw [hb]
    refine wpAny_bind (wpAny_newTuple (wpAny_pure ?_) hl2)
    have new : ObjOk P w (upd H s.heap.objs.size (.tup vs)) (s.heap.push ({ cls := .type "tuple", data := .seq us.toArray } : Obj)) s.heap.objs.size (.tup vs) := ⟨hz, us, r, ⟨_, Heap.get?_push_size _ rfl, rfl, _, rfl⟩⟩
    have un := StX.un_laid (fs := frs outer) (s := s) (o := ({ cls := .type "tuple", data := .seq us.toArray } : Obj)) (u := .tup vs) hn
    exact h _ _ [V.ref s.heap.objs.size] _ (StX.env0_laid e0 new) un rfl (fun e s' z => z.elim) (.cons rfl .nil) hlen.symm ⟨_, hn, rfl, rfl⟩
  · subst ex eH
    obtain ⟨T, hd, hT⟩ := hbody f cdv A outer s2 (upd H p (.tup vs)) hr'
    obtain ⟨t, hp', hs⟩ := hd.ex
    exact ⟨t, hp'.nox, hs.def_ hT (hq p hp)⟩
end
section
variable {X : Cx} {E : XK} {k : Nat} {x : Str} {ks : List Str} {sp : SpD} {gW : List W → List W} {e : Expr} {es : List Expr} {kws : List Keyword} {ta tk : DTA} {p pos : Pos}
def tCalS (j : Nat) (gW : List W → List W) (sp : SpD) (ta tk : DTA) : DTE := fun en m Q Qx => ta en m (fun xs m1 => tk en m1 (fun zs m2 => zs.length = j ∧ oDs xs fun ds => ds.length ≤ sizeLine ∧ sp (gW zs ++ [.v (.tup ds)]) m2 Q noX) Qx) Qx
theorem RvL.of_ws {K : Frag} {B : Hp} {μ : List Addr} : ∀ {vs : List V} {xs : List W} {Q : List D → Prop}, RWs K B μ vs xs → oDs xs Q → ∃ ds, RvL K B vs ds ∧ Q ds := fun r q => oDs_ok r q
theorem SE.calS {j : Nat} {t t2 : TA} (k1 : SA X E t ta) (k2 : SA X E t2 tk) : SE X E (tCallK j (liftS X.K gW sp) t t2) (tCalS j gW sp ta tk) := by
  intro B μ en m σ H Q Qx QV R hx T kk
  refine k1 B μ en m σ H _ Qx _ R hx T fun B1 μ1 m1 H1 xs vs s1 R1 r1 T1 => ?_
  refine k2 B1 μ1 en m1 σ H1 _ Qx _ R1 (hx.step s1 R1.mem R.mem.le) T1 fun B2 μ2 m2 H2 zs us s2 R2 r2 ⟨l2, T2⟩ => ?_
  have st := s1.trans R1.mem s2 R.mem.le
  obtain ⟨ds, rl, hz, T3⟩ := oDs_ok r1 T2
  refine ⟨by rw [r2.len]; exact l2, by rw [rl.len]; exact hz, B2, μ2, m2, ds, zs, Q, R2.mem, rl.to s2.same, r2, T3, fun B' μ' m' H' x v s M' r q => ?_⟩
  have st3 := st.trans R2.mem s R.mem.le
  exact kk B' μ' m' H' x v st3 (R.stp st3 M') r q
theorem d_callS (G : GsK X.prog X.w X.K X.mg X.base k x ks (liftS X.K gW sp)) (hr : Room k X.A) (ha : DA X E (e :: es) ta) (hkw : DK X E kws tk) (hg : Gl X x := by rfl)
    (hall : (backToKw pos (keywordEach kws X.env)).all (·.1.isSome) = true := by rfl) (hks : (backToKw pos (keywordEach kws X.env)).filterMap (·.1) = ks := by rfl)
    (hdb : (x == ("__debug__" : Str)) = false := by decide) (he : starEach (e :: es) X.env = (false, eval e X.env) :: starEach es X.env := by rfl)
    (hpl : ((backTo pos (starEach (e :: es) X.env)).any (·.1) || (backToKw pos (keywordEach kws X.env)).any (·.1.isNone)) = false := by rfl) : DE X E (.Call (.Name x p) (e :: es) kws pos) (tCalS ks.length gW sp ta tk) := by
  obtain ⟨t1, p1, k1⟩ := ha.ex
  obtain ⟨t2, p2, k2⟩ := hkw.ex
  exact ⟨_, pe_k G hr p1 p2 hg hall hks hdb he hpl, SE.calS k1 k2⟩
theorem d_callSp (G : GsK X.prog X.w X.K X.mg X.base k x [] (liftS X.K gW sp)) (hr : Room k X.A) (ha : DA X E (e :: es) ta) (hg : Gl X x := by rfl) (hdb : (x == ("__debug__" : Str)) = false := by decide)
    (he : starEach (e :: es) X.env = (false, eval e X.env) :: starEach es X.env := by rfl) (hpl : (backTo pos (starEach es X.env)).any (·.1) = false := by rfl) : DE X E (.Call (.Name x p) (e :: es) [] pos) (tCalS 0 gW sp ta tN) := by
  obtain ⟨t1, p1, k1⟩ := ha.ex
  refine ⟨_, pe_kp G hr p1 hg hdb he hpl, fun B μ en m σ H Q Qx QV R hx T kk => ?_⟩
  refine k1 B μ en m σ H _ Qx _ R hx T fun B1 μ1 m1 H1 xs vs s1 R1 r1 ⟨_, T2⟩ => ?_
  obtain ⟨ds, rl, hz, T3⟩ := oDs_ok r1 T2
  refine ⟨by rw [rl.len]; exact hz, B1, μ1, m1, ds, [], Q, R1.mem, rl, .nil, T3, fun B' μ' m' H' x v s M' r q => ?_⟩
  have st3 := s1.trans R1.mem s R.mem.le
  exact kk B' μ' m' H' x v st3 (R.stp st3 M') r q
theorem d_callS0 (G : GsK X.prog X.w X.K X.mg X.base k x [] (liftS X.K gW sp)) (hr : Room k X.A) (hg : Gl X x := by rfl) (hdb : (x == ("__debug__" : Str)) = false := by decide) : DE X E (.Call (.Name x p) [] [] pos) (tCalS 0 gW sp tN tN) := by
  refine ⟨_, pe_k0 G hr hg hdb, fun B μ en m σ H Q Qx QV R hx T kk => ?_⟩
  obtain ⟨_, hz, T3⟩ := T
  exact ⟨hz, B, μ, m, [], [], Q, R.mem, .nil, .nil, T3, fun B' μ' m' H' x v s M' r q => kk B' μ' m' H' x v s (R.stp s M') r q⟩
end
end Fs
set_option Elab.async false
set_option linter.all false
set_option maxRecDepth 100000
set_option maxHeartbeats 8000000
namespace Fs
open PySem PySem.Spec PyProof.Rows L2
section
variable {X : Cx} {E : XK}
def gLs (n : Nat) (t : DTGs) : DTG := fun x en m Q => match x with
  | .v (.lst ds) => ds.length = n ∧ t (ds.map .v) en m Q
  | _ => False
theorem dg_lst {es : List Expr} {k : Nat} {t : DTGs} {n : Nat} {is : List Nat} {pos : Pos} (hc : X.calm = true) (h : DGs X es is t) (hn : (assignEach es X.env).length = n := by rfl) (hst : (assignEach es X.env).findIdx? (·.1) = none := by rfl) : DG X (.Tuple es k pos) is (gLs n t) := by
  obtain ⟨t1, p1, k1⟩ := h.ex
  refine ⟨_, pg_lst hc p1 hn hst, fun B μ en m σ H x v Q QV R r T k => ?_⟩
  unfold gLs at T
  split at T
  · rename_i ds
    obtain ⟨hl, T⟩ := T
    cases r with
    | lst hs hr => exact ⟨_, _, rfl, .inl (.inl (R.mem.le _ _ hs)), by rw [hr.len]; exact hl, k1 B μ en m σ H _ _ _ _ R hr.ws T k⟩
  · exact T.elim
def aIns : DMt := fun x xs m Q => match x, xs with
  | .loc n, [.v (.int i), .v d] => lstAt m n fun ds => ds.length < sizeLine ∧ 0 ≤ i ∧ i < 2 ^ 63 ∧ Q .non (m.set n (.lst (ds.take i.toNat ++ [d] ++ ds.drop i.toNat)))
  | _, _ => False
theorem aIns_ok : SM X (fun x vs H Q => ∃ (l : Addr) (xs : List V) (i : Int) (y : V), x = .ref l ∧ vs = [.int i, y] ∧ H l = some (.lst xs) ∧ xs.length < sizeLine ∧ 0 ≤ i ∧ i < 2 ^ 63 ∧
    Q .non (upd H l (.lst (xs.take i.toNat ++ [y] ++ xs.drop i.toNat)))) aIns := by
  intro B μ m H x xs v vs Q QV M r rs q k
  unfold aIns at q
  split at q
  · rename_i n i d
    obtain ⟨ds, hm, q⟩ := lstAt_ok q
    obtain ⟨a, rfl, ha⟩ := r
    obtain ⟨us, hv, rl⟩ := M.at_ n a _ ha hm rfl
    cases rs with
    | cons ri r2 =>
      cases (show Rv X.K B _ (.int i) from ri)
      cases r2 with
      | cons rd rn =>
        cases rn
        rename_i vd
        have kp : ∀ b o, b ≠ a → H b = some o → upd H a (.lst (us.take i.toNat ++ [vd] ++ us.drop i.toNat)) b = some o := fun b o c e => by rw [upd_ne c]; exact e
        refine ⟨a, us, i, vd, rfl, rfl, hv, by rw [rl.len]; exact q.1, q.2.1, q.2.2.1, ?_⟩
        have new : OO X.K B μ (upd H a (.lst (us.take i.toNat ++ [vd] ++ us.drop i.toNat))) a (.lst (ds.take i.toNat ++ [d] ++ ds.drop i.toNat)) := ⟨_, upd_same, ((rl.take _).append (.one rd)).append (rl.drop _)⟩
        exact k B _ _ .non _ (Stp.store ha hm rfl kp) (M.store ha hm rfl rfl kp new) .non q.2.2.2
  · exact q.elim
theorem d_insert {o e e2 : Expr} {to : DTE} {ta : DTA} {apos pos : Pos} (ho : DE X E o to) (ha : DA X E [e, e2] ta) (hb : attributeBase o "insert" X.env (eval o X.env) = eval o X.env := by rfl)
    (hfew : ((backTo pos (starEach [e, e2] X.env)).all (fun x => !x.1) && (backToKw pos (keywordEach [] X.env)).all (fun x => x.1.isSome)
      && decide ([e, e2].length + ([] : List Keyword).length + (if ([] : List Keyword).isEmpty then 0 else 1) < 30)) = true := by rfl)
    (hline : (apos.endLine == pos.line) = true := by rfl) (hs : starEach [e, e2] X.env = (false, eval e X.env) :: starEach [e2] X.env := by rfl) (hplain : (backTo pos (starEach [e2] X.env)).any (·.1) = false := by rfl) :
    DE X E (.Call (.Attribute o "insert" apos) [e, e2] [] pos) (tMe isOl aIns to ta) := d_bm PySem.F.plainAttrs_list PySem.F.slot_list_insert PySem.F.type_list_insert L2.mt_insert aIns_ok isOl_ok ho ha hb hfew hline hs hplain
end
section
variable {X : Cx} {E : XK} {a b : Expr} {ta tb : DTE} {pos : Pos}
def catD : D → D → (List D → Prop) → Prop
  | .lst p, .lst q, Q => p.length + q.length ≤ sizeLine ∧ Q (p ++ q)
  | _, _, _ => False
/-- a + b, lists: an own list -/
def tAddO (ta tb : DTE) : DTE := fun en m Q Qx => ta en m (fun x m1 => tb en m1 (fun y m2 => look x m2 fun dx => look y m2 fun dy => catD dx dy fun ds => Q (.loc m2.length) (m2 ++ [.lst ds])) Qx) Qx
theorem d_addO (ha : DE X E a ta) (hb : DE X E b tb) : DE X E (.BinOp a .Add b pos) (tAddO ta tb) := by
  obtain ⟨t1, p1, k1⟩ := ha.ex
  obtain ⟨t2, p2, k2⟩ := hb.ex
  refine ⟨_, pe_op op_cat p1 p2, fun B μ en m σ H Q Qx QV R hx T k => ?_⟩
  refine k1 B μ en m σ H _ Qx _ R hx T fun B0 μ0 m0 H0 x v s0 R0 r0 q0 => ?_
  refine k2 B0 μ0 en m0 σ H0 _ Qx _ R0 (hx.step s0 R0.mem R.mem.le) q0 fun B1 μ1 m1 H1 y u s1' R1 r1 q1 => ?_
  have s1 := s0.trans R0.mem s1' R.mem.le
  obtain ⟨dx, tx, q2⟩ := look_ok R1.mem (r0.to s1'.same s1'.pre) q1
  obtain ⟨dy, ty, q⟩ := look_ok R1.mem r1 q2
  unfold catD at q
  split at q
  · rename_i ds es
    obtain ⟨ax, vs, rfl, h1, rl1⟩ := tx
    obtain ⟨ay, us, rfl, h2, rl2⟩ := ty
    have rl := rl1.append rl2
    refine ⟨ax, ay, vs, us, rfl, rfl, h1, h2, by rw [rl1.len, rl2.len]; exact q.1, fun p np => ?_⟩
    have kp : ∀ a o, a ≠ p → H1 a = some o → upd H1 p (.lst (vs ++ us)) a = some o := fun a o c e => by rw [upd_ne c]; exact e
    have sl := Stp.push R1.mem np (m := .lst (ds ++ es)) kp
    have st := s1.trans R1.mem sl R.mem.le
    have mo := R1.mem.push np (m := .lst (ds ++ es)) (fun a o e => kp a o (ne_of_none (R1.mem.le a o e) np) (R1.mem.le a o e)) kp ⟨vs ++ us, upd_same, rl⟩
    refine k _ _ _ _ (.loc m1.length) _ st (R.stp st mo) ⟨p, rfl, ?_⟩ q.2
    rw [← R1.mem.len]
    simp
  · exact q.elim
end
theorem empty_app (z : Str) : Str.empty ++ z = z := by
  cases z with
  | mk a =>
    show (⟨#[] ++ a⟩ : Str) = ⟨a⟩
    simp
theorem app_assoc (x y z : Str) : (x ++ y) ++ z = x ++ (y ++ z) := by
  cases x with | mk a => cases y with | mk b => cases z with | mk c =>
    show (⟨(a ++ b) ++ c⟩ : Str) = ⟨a ++ (b ++ c)⟩
    rw [Array.append_assoc]
end Fs
set_option Elab.async false
set_option linter.all false
set_option maxRecDepth 100000
set_option maxHeartbeats 8000000
namespace Fs
open PySem PySem.Spec PyProof.Rows L2
/-- a walk that has begun -/
theorem walks_from {prog : Program} {w : World} {A : Around} {I : Addr} {fp wr : List Addr} {n i : Nat} {P : Nat → Value → Prop} {St : Nat → Heap → Prop} (W : Walks prog w A I fp wr n P St) (hi : i ≤ n) :
    Walks prog w A I fp wr (n - i) (fun j => P (i + j)) (fun j => St (i + j)) where
  sub := W.sub
  frame := fun _ _ _ st hk => W.frame _ _ _ st hk
  item := fun j s Q E hj st hQ => W.item (i + j) s Q E (by omega) st fun v h' tk p st' k => hQ v h' tk p st' k
  done := fun s Q E st hQ => W.done s Q E (by have e : i + (n - i) = n := by omega
                                              rw [e] at st
                                              exact st) hQ
  self := fun j s Q E st hQ => W.self (i + j) s Q E st hQ
section
variable {prog : Program} {w : World} {A : Around} {E : Value → Shared → Prop} {s : Shared}
theorem unpack_star {t : Addr} {items : Array Value} {i : Nat} {Q : List Value → Shared → Prop} (hh : A.handled = none) (ht : s.heap.IsTuple t items) (hi : i ≤ items.size) (hz : items.size ≤ sizeLine)
    (hQ : ∀ (h' : Heap) (tk : Nat), (∀ b o, s.heap.get? b = some o → h'.get? b = some o) → Q (items.toList.take i ++ [.ref h'.objs.size]) { s with heap := h'.push { cls := .type "list", data := .seq (items.toList.drop i).toArray }, toks := tk }) :
    wpAny (model prog w) A (unpackItems (.ref t) (i + 1) (some i)) Q E s := by
  have hlt : t < s.heap.objs.size := by obtain ⟨o, ho, _⟩ := ht; exact Heap.lt_size ho
  have hne : t ≠ s.heap.objs.size := Nat.ne_of_lt hlt
  have ht' : IsTup s.heap t items := ht
  unfold unpackItems
  refine wpAny_bind ?_
  unfold notIterableAtAll
  refine wpAny_bind (wpAny_specialOf ht'.typeIs slot_tuple_iter.lookup ?_)
  refine wpAny_pure ?_
  simp only [Bool.false_eq_true, if_false]
  refine wpAny_bind (wpAny_holding (iter_tuple ht' ?_))
  refine wpAny_bind (wpAny_holding (draw_tuple hne i 0 _ _ ⟨_, Heap.get?_push_size _ rfl, rfl, rfl⟩ (ht'.push _) (by omega) fun h1 hit1 hs1 => ?_))
  have e1 : (items.toList.drop 0).take i = items.toList.take i := by rw [List.drop_zero]
  rw [e1]
  have el : (items.toList.take i).length = i := by rw [List.length_take, Array.length_toList]; omega
  rw [if_neg (by rw [el]; omega)]
  have ht1 : IsTup h1 t items := (ht'.push _).extBut hs1.extBut hne
  rw [Nat.zero_add] at hit1
  have st : h1.IsTupleIter s.heap.objs.size t i ∧ h1.IsTuple t items := ⟨hit1, ht1⟩
  have W := (walks_from (Walks.tuple (prog := prog) (w := w) (A := A.in1) (by simp [hh]) s.heap.objs.size t hne items) hi).toS
  refine wpAny_bind (wpAny_holding (wpAny_collect_iter (s := { s with heap := h1 }) (.inr (.inr (.inr rfl))) W (fun j s' st => ?_) st (fun b hb => ?_) (by simp) (fun s' acc mv it => ?_) (by omega)))
  · obtain ⟨⟨o, ho, hc, _⟩, _⟩ := st
    exact ⟨o, ho, hc⟩
  · obtain ⟨o1, ho1, _⟩ := hit1
    obtain ⟨o2, ho2, _⟩ := ht1
    simp only [List.mem_cons, List.not_mem_nil, or_false] at hb
    rcases hb with rfl | rfl
    · exact Heap.lt_size ho1
    · exact Heap.lt_size ho2
  · have ea : acc.toList = items.toList.drop i := by
      refine List.ext_getElem? fun j => ?_
      by_cases hj : j < items.size - i
      · have hj' : j < acc.size := by rw [it.1]; exact hj
        have z := it.2 j acc[j] (by simp [hj'])
        rw [List.getElem?_drop, Array.getElem?_toList, Array.getElem?_toList, z]
        simp [hj']
      · rw [List.getElem?_eq_none (by rw [Array.length_toList, it.1]; omega), List.getElem?_eq_none (by rw [List.length_drop, Array.length_toList]; omega)]
    rw [ea]
    have e2 : i + 1 - 1 - i = 0 := by omega
    simp only [e2, Nat.not_lt_zero, if_false, Nat.sub_zero]
    have e3 : (items.toList.drop i).take (items.toList.drop i).length = items.toList.drop i := List.take_length
    have e4 : (items.toList.drop i).drop (items.toList.drop i).length = [] := List.drop_length
    rw [e3, e4]
    obtain ⟨h2, g2, d2, t2, o2⟩ := s'
    obtain rfl : g2 = s.gens := mv.gens
    obtain rfl : d2 = s.drawn := mv.drawn
    obtain rfl : o2 = s.os := mv.os
    refine wpAny_bind (wpAny_newList (wpAny_pure ?_) (by rw [List.length_drop, Array.length_toList]; omega))
    rw [List.append_nil]
    refine hQ h2 _ fun b o e => mv.heap b o ?_ (hs1.extBut b o ?_ (Heap.get?_push_of_some _ e))
    · simp only [List.mem_cons, List.not_mem_nil, or_false]
      exact Nat.ne_of_lt (Heap.lt_size e)
    · exact Nat.ne_of_lt (Heap.lt_size e)
end
/-- the last target starred: the tuple's rest becomes a new list -/
def gStar (K : Frag) (n : Nat) (t : TGs) : TG := fun v σ H Q => ∃ a xs, v = .ref a ∧ SqT K H a xs ∧ n ≤ xs.length ∧ ∀ L, H L = none → t (xs.take n ++ [.ref L]) σ (upd H L (.lst (xs.drop n))) Q
section
variable {X : Cx} {E : XK}
theorem pg_star {es : List Expr} {k n : Nat} {t : TGs} {pos : Pos} (hc : X.calm = true) (h : PGs X es t) (hn : (assignEach es X.env).length = n + 1 := by rfl) (hst : (assignEach es X.env).findIdx? (·.1) = some n := by rfl) : PG X (.Tuple es k pos) (gStar X.K n t) := by
  refine ⟨fun pins s σ H v u Q I r hw => ?_⟩
  obtain ⟨a, xs, e1, hq, hl, hw⟩ := hw
  subst e1
  cases r
  obtain ⟨its, rv, ht, hz⟩ := I.tuple hq
  have hlen := rv.length
  rw [assign_Tuple]
  refine wpAny_bind (wpAny_standAt ?_)
  unfold unpack
  rw [hn, hst]
  refine wpAny_bind (wpAny_holding (unpack_star (I.ok.hd hc) ht (by simp; omega) (by simp; omega) fun h' tk kp => ?_))
  have I1 : Inv X pins σ H { s with heap := h', toks := tk } := I.kept (t' := tk) kp
  have rd : Vals (xs.drop n) (its.drop n) := rv.drop n
  have I2 : Inv X pins σ (upd H h'.objs.size (.lst (xs.drop n))) { s with heap := h'.push { cls := .type "list", data := .seq (its.drop n).toArray }, toks := tk } :=
    I1.laid (t' := tk) (fun b o e => Heap.get?_push_of_some _ e) (Nat.le_refl _) ⟨by rw [List.length_drop]; omega, its.drop n, 0, rd, Heap.get?_push_size _ rfl⟩
  refine h.run pins _ σ _ (xs.take n ++ [.ref h'.objs.size]) _ Q I2 ?_ (hw h'.objs.size (I1.hok.fresh (Nat.le_refl _)))
  exact (rv.take n).append (.cons rfl .nil)
theorem pgs_star {e : Expr} {p : Pos} {t : TG} (h1 : PG X e t) (hs : (assignEach [.Starred e p] X.env).map (·.2) = [assign e X.env] := by rfl) : PGs X [.Starred e p] (gCons t gNil) := by
  refine ⟨fun pins s σ H vs us Q I r h => ?_⟩
  obtain ⟨v, vr, e1, h⟩ := h
  subst e1
  cases r with
  | cons r rr =>
    rw [hs]
    refine assignInOrder_cons (thn (h1.run pins s σ H _ _ _ I r h) fun _ s1 ⟨σ1, H1, I1, q1⟩ => ?_)
    exact pgs_nil.run pins s1 σ1 H1 _ _ Q I1 rr q1
theorem dgs_star {e : Expr} {p : Pos} {is : List Nat} {t : DTG} (h1 : DG X e is t) (hs : (assignEach [.Starred e p] X.env).map (·.2) = [assign e X.env] := by rfl) : DGs X [.Starred e p] is (gCn t gNl) := by
  obtain ⟨t1, p1, k1⟩ := h1.ex
  refine ⟨_, pgs_star p1 hs, fun B μ en m σ H xs v Q QV R r T k => ?_⟩
  cases r with
  | nil => exact T.elim
  | cons a b =>
    refine ⟨_, _, rfl, k1 B μ en m σ H _ _ _ _ R a T fun B1 μ1 en1 m1 σ1 H1 s1 R1 z1 q => ?_⟩
    cases b with
    | nil => exact ⟨rfl, k B1 μ1 en1 m1 σ1 H1 s1 R1 z1 q⟩
    | cons _ _ => exact q.elim
def gStD (n : Nat) (t : DTGs) : DTG := fun x en m Q => match x with
  | .v (.tup ds) => n ≤ ds.length ∧ t ((ds.take n).map .v ++ [.v (.lst (ds.drop n))]) en m Q
  | _ => False
theorem dg_star {es : List Expr} {k n : Nat} {t : DTGs} {is : List Nat} {pos : Pos} (hc : X.calm = true) (h : DGs X es is t) (hn : (assignEach es X.env).length = n + 1 := by rfl) (hst : (assignEach es X.env).findIdx? (·.1) = some n := by rfl) : DG X (.Tuple es k pos) is (gStD n t) := by
  obtain ⟨t1, p1, k1⟩ := h.ex
  refine ⟨_, pg_star hc p1 hn hst, fun B μ en m σ H x v Q QV R r T k => ?_⟩
  unfold gStD at T
  split at T
  · rename_i ds
    obtain ⟨hl, T⟩ := T
    cases r with
    | tup hs hr =>
      rename_i a xs
      refine ⟨a, xs, rfl, R.mem.le.tup hs, by rw [hr.len]; exact hl, fun L nL => ?_⟩
      have st := Stp.laid (o := .lst (xs.drop n)) R.mem nL
      have M2 := R.mem.laid (o := .lst (xs.drop n)) nL
      have rl := new_lst R.mem nL (hr.drop n)
      refine k1 _ μ en m σ _ _ _ _ _ (R.stp st M2) ?_ T fun B' μ' en' m' σ' H' s' R' z q => k B' μ' en' m' σ' H' (st.trans M2 s' R.mem.le) R' z q
      exact RWs.append (((hr.take n).to st.same).ws) (.cons (RW.d rl) .nil)
  · exact T.elim
end
end Fs
set_option Elab.async false
set_option linter.all false
set_option maxRecDepth 100000
set_option maxHeartbeats 8000000
namespace Fs
open PySem PySem.Spec PyProof.Rows L2
/-- the dict at a, as it is written -/
def dictU (K : Frag) (a : Addr) (kvs : List (Str × D)) : Bool := match K.lookup a with
  | some ⟨_, _, .dict es _, _⟩ => dictsU K es.toList kvs
  | _ => false
where dictsU (K : Frag) : List DictEntry → List (Str × D) → Bool
  | [], [] => true
  | e :: es, (k, d) :: kvs => (match e.key with
    | .str x _ => decide (x = k)
    | _ => false) && conU K 3 e.val d && dictsU K es kvs
  | _, _ => false
theorem dictsU_at {K : Frag} (z : Str) : ∀ {es : List DictEntry} {kvs : List (Str × D)}, dictU.dictsU K es kvs = true → es.any (·.refKey) = false ∧
    ((∃ e d, es.find? (·.key.isStr z) = some e ∧ kvs.lookup z = some d ∧ conU K 3 e.val d = true) ∨ (es.find? (·.key.isStr z) = none ∧ kvs.lookup z = none))
  | [], [], _ => ⟨rfl, .inr ⟨rfl, rfl⟩⟩
  | [], _ :: _, h => by cases h
  | e :: es, [], h => by cases h
  | e :: es, (k, d) :: kvs, h => by
    have h := Bool.and_eq_true_iff.mp (show (((match e.key with | .str x _ => decide (x = k) | _ => false) && conU K 3 e.val d) && dictU.dictsU K es kvs) = true from h)
    obtain ⟨h1, h2⟩ := Bool.and_eq_true_iff.mp h.1
    obtain ⟨x, t, ek, rfl⟩ : ∃ x t, e.key = .str x t ∧ x = k := by
      split at h1
      · rename_i x t q
        exact ⟨x, t, q, of_decide_eq_true h1⟩
      · cases h1
    obtain ⟨r1, r2⟩ := dictsU_at z h.2
    have ref : e.refKey = false := by
      unfold DictEntry.refKey
      rw [ek]
    have is : e.key.isStr z = (x == z) := by
      rw [ek]
      rfl
    refine ⟨by rw [List.any_cons, ref, r1]; rfl, ?_⟩
    by_cases c : x = z
    · subst c
      refine .inl ⟨e, d, ?_, ?_, h2⟩
      · rw [List.find?_cons, is]
        simp
      · rw [List.lookup_cons]
        simp
    · have b1 : (x == z) = false := beq_eq_false_iff_ne.mpr c
      have b2 : (z == x) = false := beq_eq_false_iff_ne.mpr fun y => c y.symm
      rw [List.find?_cons, is, b1, List.lookup_cons, b2]
      exact r2
theorem dictU_at {K : Frag} {a : Addr} {kvs : List (Str × D)} (h : dictU K a kvs = true) (z : Str) : (∃ u d, PySem.W.nsIn K a z = some (some u) ∧ kvs.lookup z = some d ∧ conU K 3 u d = true) ∨ (PySem.W.nsIn K a z = some none ∧ kvs.lookup z = none) := by
  unfold dictU at h
  split at h
  · rename_i es n sl q
    obtain ⟨r1, r2⟩ := dictsU_at z h
    unfold PySem.W.nsIn
    rw [q]
    dsimp only
    rcases r2 with ⟨e, d, e1, e2, e3⟩ | ⟨e1, e2⟩
    · rw [e1]
      exact .inl ⟨e.val, d, rfl, e2, e3⟩
    · rw [e1, r1]
      exact .inr ⟨rfl, e2⟩
  · cases h
section
variable {X : Cx} {E : XK} {nm : Str} {dA : Addr} {es : Array DictEntry} {n : Nat} {kvs : List (Str × D)} {a b : Expr} {ta tb : DTE} {p pos : Pos}
/-- x in D -/
def tInK (kvs : List (Str × D)) (g : Bool → Bool) (ta : DTE) : DTE := fun en m Q Qx => ta en m (fun x m1 => match x with
  | .v (.str z) => Q (.v (.bl (g (kvs.lookup z).isSome))) m1
  | _ => False) Qx
theorem se_inK {t1 : TE} (D : KDict X.K X.w dA es n) (hk : dictU X.K dA kvs = true) (k1 : SE X E t1 ta) : SE X E (tOp (fun x y H Q => ∃ (z : Str) (r : Option Value), x = .str z ∧ y = .ref dA ∧ PySem.W.nsIn X.K dA z = some r ∧ Q (.bl r.isSome) H) t1 (tC (.ref dA))) (tInK kvs id ta) := fun B μ en m σ H Q Qx QV R hx T k => by
  refine k1 B μ en m σ H _ Qx _ R hx T fun B1 μ1 m1 H1 x v s1 R1 r q => ?_
  split at q
  · rename_i z
    cases (show Rv X.K B1 v (.str z) from r)
    have go : ∀ r : Option Value, PySem.W.nsIn X.K dA z = some r → r.isSome = (kvs.lookup z).isSome → ∃ (z2 : Str) (r2 : Option Value), V.str z = .str z2 ∧ V.ref dA = .ref dA ∧ PySem.W.nsIn X.K dA z2 = some r2 ∧ QV (.bl r2.isSome) H1 := fun r e1 e2 => by
      refine ⟨z, r, rfl, rfl, e1, ?_⟩
      rw [e2]
      exact k B1 μ1 m1 H1 _ _ s1 R1 (RW.d (.bl _)) q
    rcases dictU_at hk z with ⟨u, d, e1, e2, _⟩ | ⟨e1, e2⟩
    · exact go _ e1 (by rw [e2]; rfl)
    · exact go _ e1 (by rw [e2]; rfl)
  · exact q.elim
theorem d_inK (D : KDict X.K X.w dA es n) (hk : dictU X.K dA kvs = true) (hm : X.mg nm = some (.ref dA)) (ha : DE X E a ta) (hg : Gl X nm := by rfl) (hd : (nm == ("__debug__" : Str)) = false := by decide) (hb : behindInMarks .In (.Name nm p) = false := by rfl) :
    DE X E (.Compare a [.In] [.Name nm p] pos) (tInK kvs id ta) := by
  obtain ⟨t1, p1, k1⟩ := ha.ex
  exact ⟨_, pe_cmpR (op_in_kd D) p1 (pe_glob (v := .ref dA) hg hm rfl hd) hb, se_inK D hk k1⟩
theorem dt_inK (D : KDict X.K X.w dA es n) (hk : dictU X.K dA kvs = true) (hm : X.mg nm = some (.ref dA)) (ha : DE X E a ta) (hg : Gl X nm := by rfl) (hd : (nm == ("__debug__" : Str)) = false := by decide) (hb : behindInMarks .In (.Name nm p) = false := by rfl) :
    DT X E (.Compare a [.In] [.Name nm p] pos) (tBl (tInK kvs id ta)) := by
  obtain ⟨t1, p1, k1⟩ := ha.ex
  exact ⟨_, pt_cmpR (op_in_kd D) p1 (pe_glob (v := .ref dA) hg hm rfl hd) hb, (se_inK D hk k1).test⟩
/-- D[x] -/
def tIxK (kvs : List (Str × D)) (tb : DTE) : DTE := fun en m Q Qx => tb en m (fun y m1 => match y with
  | .v (.str z) => ∃ d, kvs.lookup z = some d ∧ Q (.v d) m1
  | _ => False) Qx
theorem d_ixK (D : KDict X.K X.w dA es n) (hk : dictU X.K dA kvs = true) (hm : X.mg nm = some (.ref dA)) (hb : DE X E b tb) (hs : PlainIx b := by exact fun _ _ => rfl) (hg : Gl X nm := by rfl) (hd : (nm == ("__debug__" : Str)) = false := by decide) :
    DE X E (.Subscript (.Name nm p) b pos) (tIxK kvs tb) := by
  obtain ⟨t2, p2, k2⟩ := hb.ex
  refine ⟨_, pe_ix ix_kdict (pe_glob (v := .ref dA) hg hm rfl hd) p2 hs, fun B μ en m σ H Q Qx QV R hx T k => ?_⟩
  refine k2 B μ en m σ H _ Qx _ R hx T fun B1 μ1 m1 H1 x v s1 R1 r q => ?_
  split at q
  · rename_i z
    obtain ⟨d, ed, q⟩ := q
    cases (show Rv X.K B1 v (.str z) from r)
    rcases dictU_at hk z with ⟨u, d', e1, e2, e3⟩ | ⟨e1, e2⟩
    · rw [ed] at e2
      cases e2
      obtain ⟨v, rv, hv⟩ := conU_ok e3
      exact ⟨dA, z, v, rfl, rfl, ⟨es, n, u, D.at_, D.lit, e1, rv⟩, k B1 μ1 m1 H1 _ _ s1 R1 (RW.d (hv B1)) q⟩
    · rw [ed] at e2
      cases e2
  · exact q.elim
/-! ### {..}[x] -/
abbrev csV (cs : List (Str × Int)) : List (Key × V) := cs.map fun c => (.inr c.1, .int c.2)
abbrev csT (cs : List (Str × Int)) : List (TE × TE) := cs.map fun c => (tC (.str c.1), tC (.int c.2))
theorem pps_cs {j1 j2 : Nat} {q1 q2 : Pos} {z : Str} {i : Int} {keys : List (Option Expr)} {values : List Expr} {cs : List (Str × Int)} (h : PPs X pos keys values (csT cs)) : PPs X pos (some (.Constant (.str z) j1 q1) :: keys) (.Constant (.int i) j2 q2 :: values) (csT ((z, i) :: cs)) :=
  pps_cons pe_str pe_int h
theorem tPairs_cs : ∀ {cs : List (Str × Int)} {σ : L2.St} {H : Hp} {Q : List (V × V) → Hp → Prop}, Q ((csV cs).map fun kv => (kV kv.1, kv.2)) H → tPairs (csT cs) σ H Q
  | [], _, _, _, q => q
  | c :: cs, σ, H, Q, q => tPairs_cs (cs := cs) (Q := fun ps H3 => Q ((V.str c.1, V.int c.2) :: ps) H3) q
def tDix (cs : List (Str × Int)) (tb : DTE) : DTE := fun en m Q Qx => tb en m (fun y m1 => match y with
  | .v (.str z) => ∃ i, valV (mergeK [] (csV cs)) (.inr z) = some (.int i) ∧ Q (.v (.int i)) m1
  | _ => False) Qx
theorem d_dix {keys : List (Option Expr)} {values : List Expr} {cs : List (Str × Int)} {pos2 : Pos} (hu : X.A.units + 65 < cLine) (h : PPs X pos keys values (csT cs)) (hb : DE X E b tb) (hall : keys.all (·.isSome) = true := by rfl) (hl : keys.length = values.length := by rfl) (h0 : keys ≠ [] := by simp)
    (h15 : keys.length ≤ 15 := by decide) (hs : NoSl b := by exact fun _ _ => rfl) (hc : cs.length ≤ 15 := by decide) : DE X E (.Subscript (.Dict keys values pos) b pos2) (tDix cs tb) := by
  obtain ⟨t2, p2, k2⟩ := hb.ex
  refine ⟨_, pe_dget (by omega) (pe_disp h hall hl h0 h15) p2 hs, fun B μ en m σ H Q Qx QV R hx T k => ?_⟩
  intro L nL
  refine tPairs_cs ⟨upd_same, csV cs, rfl, by rw [List.length_map]; exact hc, ?_⟩
  obtain ⟨nb, nl⟩ := R.mem.none nL
  have kp : ∀ b o, b ≠ L → H b = some o → upd (upd H L (.dK [])) L (.dK (mergeK [] (csV cs))) b = some o := fun b o c e => by
    rw [upd_ne c, upd_ne c]
    exact e
  have s0 : Stp B μ m H B μ m (upd (upd H L (.dK [])) L (.dK (mergeK [] (csV cs)))) := Stp.refl.touch nL kp
  have M0 := R.mem.touch nb nl kp
  have hL : upd (upd H L (.dK [])) L (.dK (mergeK [] (csV cs))) L = some (.dK (mergeK [] (csV cs))) := upd_same
  refine k2 B μ en m σ _ _ Qx _ (R.stp s0 M0) (hx.step s0 M0 R.mem.le) T fun B1 μ1 m1 H1 x v s1 R1 r q => ?_
  split at q
  · rename_i z
    obtain ⟨i, ei, q⟩ := q
    cases (show Rv X.K B1 v (.str z) from r)
    have st := s0.trans M0 s1 R.mem.le
    refine ⟨L, .int i, rfl, .inl ⟨_, .inr z, .inl (s1.out L _ nl hL (fun _ z => nomatch z)), rfl, ei.symm⟩, k B1 μ1 m1 H1 _ _ st R1 (RW.d (.int _)) q⟩
  · exact q.elim
end
end Fs
set_option Elab.async false
set_option linter.all false
set_option maxRecDepth 100000
set_option maxHeartbeats 8000000
namespace Fs
open PySem PySem.Spec PyProof.Rows L2
section
open PySem.Froz
/-- the set at a holds the texts l -/
def TxR (P : Program) (w : World) (h : Heap) (a : Addr) (l : List Str) : Prop :=
  ∃ (es : Array (Int × Value)) (ep : Nat) (t : SetTable), h.get? a = some (sObj "set" (es, ep, t)) ∧ TxOk P w (es, ep, t) l ∧ Ris t.place.toList ∧ (w.params.followText "set-order" = true ∨ t.led = true)
theorem TxR.at {P : Program} {w : World} {h h' : Heap} {a : Addr} {l : List Str} (R : TxR P w h a l) (k : ∀ o, h.get? a = some o → h'.get? a = some o) : TxR P w h' a l := by
  obtain ⟨es, ep, t, ho, r⟩ := R
  exact ⟨es, ep, t, k _ ho, r⟩
theorem addTx_ris {h : Int} {v : Value} {D : SD} (r : Ris D.2.2.place.toList) : Ris (addTx h v D).2.2.place.toList ∧ (addTx h v D).2.2.led = D.2.2.led := by
  have r1 := layNew_ris D.2.2 D.1 h v r
  have l1 := layNew_led D.2.2 D.1 h v
  unfold addTx
  generalize layNew D.2.2 D.1 h v = Z at r1 l1 ⊢
  obtain ⟨es1, t1, wd, gv⟩ := Z
  dsimp only at r1 l1 ⊢
  have r2 : Ris (if t1.plain = true then { t1 with plain := false } else t1).place.toList ∧ (if t1.plain = true then { t1 with plain := false } else t1).led = D.2.2.led := by
    split
    · exact ⟨r1, l1⟩
    · exact ⟨r1, l1⟩
  generalize (if t1.plain = true then { t1 with plain := false } else t1) = t2 at r2 ⊢
  unfold tailTx
  split
  · exact ⟨relayAll_ris t2 es1 _, (relayAll_led t2 es1 _).trans r2.2⟩
  · exact r2
def insS (l : List Str) (k : Str) : List Str := if k ∈ l then l else k :: l
theorem insS_le (l : List Str) (k : Str) : (insS l k).length ≤ l.length + 1 := by
  unfold insS
  split <;> simp
section
variable {P : Program} {w : World} {A : Around} {E : Value → Shared → Prop} {s : Shared}
theorem txr_add {a : Addr} {l : List Str} {k : Str} {u : Tok} {Q : Bool → Shared → Prop} (R : TxR P w s.heap a l) (hb : l.length + 1 < scanBound)
    (h : ∀ b h', Heap.SameBut a s.heap h' → TxR P w h' a (insS l k) → Q b { s with heap := h' }) : wpAny (model P w) A (setAddHashed a (.str k u) (hashStr w k)) Q E s := by
  obtain ⟨es, ep, t, ho, F, r, hl⟩ := R
  by_cases c : k ∈ l
  · have hd : (sObj "set" (es, ep, t)).data = .set es ep t := rfl
    have hf : t.fits es.size = true := F.fit
    have hel : ElemsOf (strKind P w) es.toList := F.el
    have hsz : es.size = l.length := F.sz
    have hb0 : es.size < scanBound := by omega
    have hkey : (strKind P w).is k (.str k u) = true := is_str k u
    unfold setAddHashed setAddHashedIn
    refine wpAny_holding (wpAny_bind (wpAny_setState_of ho hd hf ?_))
    dsimp only
    rw [byScan_of rfl hb0 hel]
    simp only [↓reduceIte]
    unfold setAddByScan
    refine wpAny_bind ?_
    refine wpAny_bind (wpAny_rule ?_)
    refine wpAny_bind (wpAny_setScan_of (knd := strKind P w) (k := k) hkey ho hd hf hel ?_)
    cases hfi : List.findIdx? (fun e => (strKind P w).is k e.2) es.toList with
    | some j =>
      refine wpAny_pure (wpAny_pure ?_)
      refine h _ s.heap (Heap.SameBut.refl a s.heap) ⟨es, ep, t, ho, ?_, r, hl⟩
      unfold insS
      rw [if_pos c]
      exact F
    | none =>
      obtain ⟨e, he, q⟩ := (F.mem k).mp c
      have z := List.findIdx?_eq_none_iff.mp hfi e he
      rw [q] at z
      cases z
  · refine add_x ho F c hb ?_
    obtain ⟨r2, l2⟩ := addTx_ris (h := hashStr w k) (v := .str k u) (D := (es, ep, t)) r
    refine h true _ (Heap.SameBut.update s.heap a _) ⟨_, _, _, get_upd _ ho rfl, ?_, r2, hl.imp id fun z => l2.trans z⟩
    unfold insS
    rw [if_neg c]
    exact add_ok u F
end
section
variable {prog : Program} {w : World} {A : Around} {R : Result → Shared → Prop} {I : Addr} {fp wr : List Addr} {G : Array GenState → Array GenState → Prop} {n : Nat} {P : Nat → Value → Prop} {St : Nat → Shared → Prop}
/-- the update walks the texts ks -/
theorem tset_walk (W : WalksS prog w A.in1 I fp wr G n P St) (S : Addr) (hSf : S ∉ fp) (ks : List Str) (hn : ks.length = n) (hval : ∀ i v, P i v → ∃ k u, ks[i]? = some k ∧ v = .str k u) (hb : n + 1 < scanBound) :
    ∀ (m i : Nat) (s : Shared) (l : List Str), n - i = m → i ≤ n → St i s → l.length ≤ i → TxR prog w s.heap S l →
      (∀ s', Moved (S :: wr) G s s' → TxR prog w s'.heap S ((ks.drop i).foldl insS l) → R (.ok (.ret .none)) s') →
      codeAny (model prog w) A (.builtin "set.update.loop" ⟨[.ref S, .ref I], []⟩) R s := by
  have off : S ∉ wr := fun z => hSf (W.sub _ z)
  have more : ∀ b ∈ wr, b ∈ S :: wr := fun b z => List.mem_cons_of_mem _ z
  intro m
  induction m with
  | zero =>
    intro i s l hm hi hst hl hS hR
    obtain rfl : i = n := by omega
    refine codeAny_builtin PyProof.Rows.F.entry_set_update_loop ?_
    rw [Around.under_plainId PyProof.Rows.F.plain_set_update_loop _]
    show wpAny _ A.in1 (pyNext (.ref I) >>= _) _ _ s
    refine wpAny_bind (W.done s _ _ hst fun s' mv => ?_)
    show wpAny _ A.in1 (ret Value.none) _ _ s'
    refine wpAny_pure (hR s' (mv.mono more) ?_)
    rw [List.drop_of_length_le (by omega)]
    exact hS.at fun o e => mv.heap S _ off e
  | succ m ih =>
    intro i s l hm hi hst hl hS hR
    have lt : i < n := by omega
    refine codeAny_builtin PyProof.Rows.F.entry_set_update_loop ?_
    rw [Around.under_plainId PyProof.Rows.F.plain_set_update_loop _]
    show wpAny _ A.in1 (pyNext (.ref I) >>= _) _ _ s
    refine wpAny_bind (W.item i s _ _ lt hst fun v s' hP hst' mv => ?_)
    obtain ⟨k, u, hk, rfl⟩ := hval i v hP
    have hS1 : TxR prog w s'.heap S l := hS.at fun o e => mv.heap S _ off e
    show wpAny _ A.in1 (holding [Value.str k u] (setAdd S (.str k u)) >>= _) _ _ s'
    refine wpAny_bind (wpAny_holding ?_)
    unfold setAdd
    refine wpAny_holding ?_
    refine wpAny_bind ((strKind prog w).pyHash (k := k) (is_str k u) ?_)
    refine txr_add (s := { s' with toks := s'.toks + 1 }) hS1 (by omega) fun b h2 sb hS2 => ?_
    have ed : ks.drop i = k :: ks.drop (i + 1) := by
      obtain ⟨h, e⟩ := List.getElem?_eq_some_iff.mp hk
      rw [← e]
      exact List.drop_eq_getElem_cons h
    rw [ed] at hR
    refine wpAny_pure ⟨plainId_quiet PyProof.Rows.F.plain_set_update_loop _, ih (i + 1) _ (insS l k) (by omega) lt (W.frame _ s' _ _ hst' (Nat.le_succ _) fun b z o e => ?_) (Nat.le_trans (insS_le l k) (by omega)) hS2 fun s3 mv3 hS4 => hR s3 ?_ hS4⟩
    · rw [sb.2 b fun c => hSf (c ▸ z)]
      exact e
    · refine Moved.trans W.gtrans ((mv.mono more).then_heap (Nat.le_succ _) fun b o z e => ?_) mv3
      rw [sb.2 b fun c => z (c ▸ List.mem_cons_self)]
      exact e
end
section
variable {prog : Program} {w : World} {A : Around} {E : Value → Shared → Prop} {s : Shared}
theorem txt_at {ks : List Str} {its : List Value} (r : Vals (ks.map V.str) its) : ∀ (i : Nat) (v : Value), its[i]? = some v → ∃ k u, ks[i]? = some k ∧ v = .str k u := fun i v e => by
  have hl := r.length
  rw [List.length_map] at hl
  obtain ⟨h, _⟩ := List.getElem?_eq_some_iff.mp e
  have hi : i < ks.length := by omega
  obtain ⟨u, hu, ru⟩ := r.get (i := i) (x := V.str ks[i]) (by simp [hi])
  rw [e] at hu
  cases hu
  obtain ⟨t, rfl⟩ := ru
  exact ⟨ks[i], t, by simp [hi], rfl⟩
set_option maxHeartbeats 3200000 in
theorem call_set_txt {l : Addr} {items : Array Value} {ks : List Str} {Q : Value → Shared → Prop} (hh : A.handled = none) (hl : s.heap.IsList l items) (hi : Vals (ks.map V.str) items.toList) (hb : ks.length + 1 < scanBound)
    (h : ∀ (h2 : Heap) (tk : Nat), TxR prog w h2 s.heap.objs.size (ks.foldl insS []) → (∀ b o, b < s.heap.objs.size → s.heap.get? b = some o → h2.get? b = some o) → Q (.ref s.heap.objs.size) { s with heap := h2, toks := tk }) :
    wpAny (model prog w) A (call (.type "set") [.ref l]) Q E s := by
  have hsz : ks.length = items.size := by
    have z := hi.length
    rw [List.length_map, Array.length_toList] at z
    exact z
  obtain ⟨c, tl, hmro⟩ := PySem.F.called_set.mro
  have hmade := PySem.F.called_set.made
  have hsub := PySem.F.called_set.sub
  refine wpAny_call (codeAny_of_tree ?_)
  show wpAny _ _ (callAny (.type "set") _) _ _ _
  refine wpAny_pure ⟨Code.quiet_builtin _ (by decide +kernel), codeAny_builtin PySem.F.entry_type_call ?_⟩
  rw [Around.under_plain (weight_type_call_type "set" [.ref l] []) rfl]
  have h1 := PySem.F.called_set.notType
  have h2 := PySem.F.called_set.canCreate
  have hct := PySem.F.typeCall_set_1 (.ref l)
  repeat (any_goals (first | assumption | wp_step))
  refine codeAny_mono (code_set_led1 (.ref l) (E := E) (Q₁ := fun obj s1 => obj = .ref s.heap.objs.size ∧ s1 = { s with heap := s.heap.push { cls := .type "set", dict := none, data := .set #[] 0 (.fresh 0 0 (!w.params.followText "set-order")) } }) ⟨rfl, rfl⟩) fun r s1 hr => ?_
  cases r with
  | error e => exact hr
  | ok fl =>
    cases fl with
    | ret obj =>
      obtain ⟨rfl, rfl⟩ := hr
      have hS : (s.heap.push { cls := .type "set", dict := none, data := .set #[] 0 (.fresh 0 0 (!w.params.followText "set-order")) }).get? s.heap.objs.size = some { cls := .type "set", dict := none, data := .set #[] 0 (.fresh 0 0 (!w.params.followText "set-order")) } := Heap.get?_push_size _ rfl
      have hT : Shared.TypeIs { s with heap := s.heap.push { cls := .type "set", dict := none, data := .set #[] 0 (.fresh 0 0 (!w.params.followText "set-order")) } } (.ref s.heap.objs.size) "set" := ⟨_, hS, rfl⟩
      have hli := PySem.F.called_set.init.lookup
      have hbi := PySem.F.called_set.init.bind (.ref s.heap.objs.size)
      repeat (any_goals (first | assumption | wp_step))
      refine codeAny_mono (codeAny_call_builtin (R := wants (fun r s2 => r = .none ∧ ∃ hp tk, s2 = { s with heap := hp, toks := tk } ∧ TxR prog w hp s.heap.objs.size (ks.foldl insS []) ∧
          (∀ b o, b < s.heap.objs.size → s.heap.get? b = some o → hp.get? b = some o)) E) PySem.F.called_set.init.plain PySem.F.entry_set_init (check_set_init_1 hT ?_)) fun r2 s2 hr2 => ?_
      · obtain ⟨⟨ocls, odict, odata, oslots⟩, hol, hcl, nl, hdl⟩ := hl
        simp only at hcl hdl
        subst hcl; subst hdl
        have hol2 : (s.heap.push { cls := .type "set", dict := none, data := .set #[] 0 (.fresh 0 0 (!w.params.followText "set-order")) }).get? l = some { cls := .type "list", dict := odict, data := .seq items nl, slots := oslots } := Heap.get?_push_of_some _ hol
        have n1 := PySem.F.sub_list_set
        have n2 := PySem.F.sub_list_frozenset
        have n3 : (Value.type "list" == Value.type "dict") = false := by decide
        have hl1 : (s.heap.push { cls := .type "set", dict := none, data := .set #[] 0 (.fresh 0 0 (!w.params.followText "set-order")) }).IsList l items := ⟨_, hol2, rfl, nl, rfl⟩
        unfold Builtin.«set.__init__» noKeywords Builtin.Frozenset.updateFrom
        generalize hPI : pyIter = PI
        wp_walk
        subst hPI
        refine wpAny_pyIter_list hl1 ?_
        refine wpAny_bind (wpAny_runValue ?_)
        have hlt : l < s.heap.objs.size := Heap.lt_size hol
        have hh3 : A.in1.in1.in1.handled = none := by simp [hh]
        have ez : (s.heap.push { cls := .type "set", dict := none, data := .set #[] 0 (.fresh 0 0 (!w.params.followText "set-order")) }).objs.size = s.heap.objs.size + 1 := Heap.size_push ..
        have apart : s.heap.objs.size ∉ [(s.heap.push { cls := .type "set", dict := none, data := .set #[] 0 (.fresh 0 0 (!w.params.followText "set-order")) }).objs.size, l] := by
          rw [ez]
          simp only [List.mem_cons, List.not_mem_nil, or_false, not_or]
          exact ⟨Nat.ne_of_lt (Nat.lt_succ_self _), Nat.ne_of_gt hlt⟩
        refine tset_walk ((Walks.list hh3 _ l (by rw [ez]; exact Nat.ne_of_lt (Nat.lt_succ_of_lt hlt)) items).toS) s.heap.objs.size apart ks hsz (fun i v e => txt_at hi i v (by rw [Array.getElem?_toList]; exact e)) (by omega) (items.size - 0) 0 _ [] (by omega) (Nat.zero_le _)
          ⟨⟨_, Heap.get?_push_size _ rfl, rfl, rfl⟩, (hl1.push _)⟩ (Nat.le_refl _) ?hS0 ?hR
        case hS0 =>
          refine ⟨#[], 0, _, Heap.get?_push_of_some _ hS, TxOk.nil rfl, ?_, ?_⟩
          · show Ris ([] : List Nat)
            exact List.Pairwise.nil
          · cases z : w.params.followText "set-order" with
            | true => exact .inl rfl
            | false => exact .inr rfl
        case hR =>
          intro s3 mv hS3
          obtain ⟨hp, g, d, tk, os⟩ := s3
          obtain rfl : g = s.gens := mv.gens
          obtain rfl : d = s.drawn := mv.drawn
          obtain rfl : os = s.os := mv.os
          show wpAny _ _ _ _ _ _
          refine wpAny_pure ?_
          show wpAny _ _ (ret Value.none) _ _ _
          refine wpAny_pure ⟨rfl, hp, tk, rfl, hS3, fun b o lt e => ?_⟩
          refine mv.heap b o ?_ (Heap.get?_push_of_some _ (Heap.get?_push_of_some _ e))
          rw [ez]
          simp only [List.mem_cons, List.not_mem_nil, or_false, not_or]
          exact ⟨Nat.ne_of_lt lt, Nat.ne_of_lt (Nat.lt_succ_of_lt lt)⟩
      · cases r2 with
        | error e => exact hr2
        | ok fl2 =>
          cases fl2 with
          | ret r =>
            obtain ⟨rfl, hp, tk, rfl, hS3, kp⟩ := hr2
            repeat (any_goals (first | assumption | wp_step))
            exact h _ _ hS3 kp
          | _ => exact hr2.elim
    | _ => exact hr.elim
end
end
end Fs
set_option Elab.async false
set_option linter.all false
set_option maxRecDepth 100000
set_option maxHeartbeats 8000000
namespace Fs
open PySem PySem.Spec PyProof.Rows L2
section
open PySem.Froz
theorem perm_sub {α : Type} [DecidableEq α] : ∀ {l k : List α}, l.Nodup → (∀ x ∈ l, x ∈ k) → k.length = l.length → l.Perm k
  | [], k, _, _, h => by
    have z : k = [] := List.length_eq_zero_iff.mp h
    subst z
    exact List.Perm.refl _
  | x :: l, k, nd, h, hl => by
    have n := List.nodup_cons.mp nd
    have hx : x ∈ k := h x (List.mem_cons_self ..)
    have p := List.perm_cons_erase hx
    have le := p.length_eq
    rw [List.length_cons] at le hl
    refine (List.Perm.cons x (perm_sub n.2 (fun y hy => ?_) (by omega))).trans p.symm
    exact (List.mem_erase_of_ne (fun z : y = x => n.1 (by rw [← z]; exact hy))).mpr (h y (List.mem_cons_of_mem _ hy))
theorem insS_nodup {l : List Str} {k : Str} (h : l.Nodup) : (insS l k).Nodup := by
  unfold insS
  split
  · exact h
  · rename_i c
    exact List.nodup_cons.mpr ⟨c, h⟩
theorem insS_mem {l : List Str} {k x : Str} : x ∈ insS l k ↔ x ∈ l ∨ x = k := by
  unfold insS
  split
  · rename_i c
    exact ⟨.inl, fun h => h.elim id fun (e : x = k) => by rw [e]; exact c⟩
  · exact ⟨fun h => (List.mem_cons.mp h).elim .inr .inl, fun h => List.mem_cons.mpr (h.elim .inr .inl)⟩
theorem foldS_nodup : ∀ (ks : List Str) (l : List Str), l.Nodup → (ks.foldl insS l).Nodup
  | [], _, h => h
  | k :: ks, _, h => foldS_nodup ks _ (insS_nodup h)
theorem foldS_mem {x : Str} : ∀ (ks : List Str) (l : List Str), x ∈ ks.foldl insS l ↔ x ∈ l ∨ x ∈ ks
  | [], _ => by simp
  | k :: ks, l => by
    rw [List.foldl_cons, foldS_mem ks, insS_mem, List.mem_cons]
    exact or_assoc
def KT (P : Program) (w : World) (a : Addr) (l : List Str) : HO := .ext fun h => TxR P w h a l
theorem kt_new {P : Program} {w : World} {H : Hp} {h : Heap} {a : Addr} {l : List Str} (R : TxR P w h a l) : ObjOk P w H h a (KT P w a l) := by
  obtain ⟨es, ep, t, ho, r⟩ := R
  exact ⟨⟨es, ep, t, ho, r⟩, ⟨_, ho⟩, fun h1 h2 z k => z.at k⟩
theorem kt_get {X : Cx} {pins : List (Addr × Obj)} {σ : L2.St} {H : Hp} {s : Shared} {a : Addr} {l : List Str} (I : Inv X pins σ H s) (ha : H a = some (KT X.prog X.w a l)) : TxR X.prog X.w s.heap a l := (I.hok a _ ha).1
def txtV : Value → Str
  | .str x _ => x
  | _ => ⟨#[]⟩
section
variable {X : Cx}
def rSetT (P : Program) (w : World) (K : Frag) : List V → Hp → VK → Prop := fun xs H Q => ∃ (a : Addr) (ks : List Str), xs = [.ref a] ∧ SqL K H a (ks.map V.str) ∧ ks.length + 1 < scanBound ∧ ∀ p, H p = none → Q (.ref p) (upd H p (KT P w p (ks.foldl insS [])))
theorem cr_setT (hc : X.calm = true) : CallR X (.type "set") (rSetT X.prog X.w X.K) := by
  intro pins s σ H xs us Q I r h
  obtain ⟨a, ks, rfl, hq, hb, q⟩ := h
  cases r with
  | cons ra rt =>
    cases rt
    cases ra
    obtain ⟨its, rv, pl, hz⟩ := I.list hq
    refine call_set_txt (I.ok.hd hc) pl.isList (by simpa using rv) hb fun h2 tk hS kp => ?_
    exact ⟨.ref _, upd H s.heap.objs.size (KT X.prog X.w s.heap.objs.size (ks.foldl insS [])), I.laid (t' := tk) (fun b o e => kp b o (Heap.lt_size e) e) (Nat.le_refl _) (kt_new hS), rfl, q _ (I.hok.fresh (Nat.le_refl _))⟩
def rSortT (P : Program) (w : World) : List V → Hp → VK → Prop := fun xs H Q => ∃ (a : Addr) (l : List Str), xs = [.ref a] ∧ H a = some (KT P w a l) ∧ l.Nodup ∧ l.length < 64 ∧ ∀ ys p, ys.Perm l → sortedS ys = true → H p = none → Q (.ref p) (upd H p (.lst (ys.map V.str)))
theorem cr_sortT' (hcalm : X.calm = true) : CallR X (.builtin "sorted") (rSortT X.prog X.w) := by
  intro pins s σ H xs us Q I r h
  obtain ⟨a, l, rfl, ha, nd, h64, q⟩ := h
  obtain ⟨u, eu, rx⟩ := vals1 r
  subst eu
  cases rx
  obtain ⟨es, ep, t, ho, F, rs, led⟩ := kt_get I ha
  have hsz : es.size = l.length := F.sz
  have hfit : t.fits es.size = true := F.fit
  refine Calls.call_function_entry PyProof.Rows.kind_sorted PyProof.Rows.plain_sorted PyProof.Rows.entry_sorted (PyProof.Rows.args_sorted1 _) ?_
  unfold Builtin.«sorted»
  refine wpAny_bind (m := checkCount "sorted" 1 1 _) (wpAny_pure ?_)
  refine wpAny_bind (collect_set (A := X.A.in1) (I.ok.hd hcalm) ⟨_, ho, rfl, rfl⟩ hfit (by show es.size < scanBound; unfold scanBound; omega) rs led fun s1 vs k1 hz g1 o1 pm => ?_)
  have shp : ∀ v ∈ vs, ∃ x tk, v = Value.str x tk ∧ x ∈ l := fun v hv => by
    obtain ⟨e, he, rfl⟩ := List.mem_map.mp (pm.mem_iff.mp hv)
    obtain ⟨⟨k, hk, _⟩, _⟩ := F.el e he
    obtain ⟨tk, ev⟩ := Value.isStrOf_shape (x := k) (v := e.2) hk
    exact ⟨k, tk, ev, (F.mem k).mpr ⟨e, he, hk⟩⟩
  have hvl : vs.length = l.length := by rw [pm.length_eq, List.length_map, Array.length_toList]; exact hsz
  have hS : StrsAre vs (vs.map txtV) := strs_at (by rw [List.length_map]) fun j v e => by
    obtain ⟨x, tk, rfl, _⟩ := shp v (List.mem_of_getElem? e)
    exact ⟨x, tk, by rw [List.getElem?_map, e]; rfl, rfl⟩
  have pk : (vs.map txtV).Perm l := by
    refine (perm_sub nd (fun x hx => ?_) (by rw [List.length_map, hvl])).symm
    obtain ⟨e, he, hk⟩ := (F.mem x).mp hx
    obtain ⟨tk, ev⟩ := Value.isStrOf_shape (x := x) (v := e.2) hk
    exact List.mem_map.mpr ⟨e.2, pm.mem_iff.mpr (List.mem_map.mpr ⟨e, he, rfl⟩), by rw [ev]; rfl⟩
  obtain ⟨hp1, g, d, tk, os⟩ := s1
  have eg : g = s.gens := g1
  have eo : os = s.os := o1
  subst eg eo
  have I1 : Inv X pins σ H ⟨hp1, s.gens, d, tk, s.os⟩ := I.call (g' := s.gens) (d' := d) (t' := tk) (ch := []) (Un.kept k1) (I.hok.kept k1) I.bare (fun _ z => nomatch z)
  refine wpAny_bind (wpAny_newList ?_ (by rw [hvl, sizeLine_eq]; omega))
  have hoL : (hp1.push (seqObj "list" vs.toArray 0)).get? hp1.objs.size = some (seqObj "list" vs.toArray 0) := Heap.get?_push_size _ rfl
  refine wpAny_bind (wpAny_holding (wpAny_call_entry PyProof.Rows.slot_list_sort ⟨_, hoL, rfl⟩ PyProof.Rows.entry_list_sort
    (list_sort_treeK strKind_oneLt hoL hS.keysOf (fun v₁ v₂ rest e => keyKind_strs (by rw [← e]; exact hS)) (by rw [hvl]; exact h64) fun st' hp hs => ⟨_, rfl, ?_⟩) (PyProof.Rows.args_list_sort _)))
  obtain ⟨ys, y1, y2, y3⟩ := sorted_out_str hS hp hs
  obtain ⟨e', he'⟩ := PyProof.Rows.sortedHeap_at (vs := vs) (out := (arrOf st').map (·.2)) hoL
  have pl := y2.trans pk
  have hlen : (ys.map V.str).length ≤ sizeLine := by
    rw [List.length_map, pl.length_eq]
    exact Nat.le_trans (Nat.le_of_lt h64) (by decide)
  refine wpAny_pure ⟨_, rfl, .ref hp1.objs.size, upd H hp1.objs.size (.lst (ys.map V.str)), I1.laid (t' := tk) (fun b u e => ?_) (Nat.le_refl _)
    (show ObjOk X.prog X.w _ _ _ (.lst (ys.map V.str)) from ⟨hlen, ((arrOf st').map (·.2)).toList, e', vals_of_strs y1, by rw [Array.toArray_toList]; exact he'⟩), rfl, q ys _ pl y3 (I1.hok.fresh (Nat.le_refl _))⟩
  rw [PyProof.Rows.sortedHeap_old (Nat.ne_of_lt (Heap.lt_size e)) (by rw [size_push']; exact Nat.lt_succ_of_lt (Heap.lt_size e))]
  exact Heap.get?_push_of_some _ e
end
end
end Fs
set_option Elab.async false
set_option linter.all false
set_option maxRecDepth 100000
set_option maxHeartbeats 8000000
namespace Fs
open PySem PySem.Spec PyProof.Rows L2
/-- a new dict is locked for good -/
def fzV (Q : VK) : VK := fun v H => ∃ a kvs, v = .ref a ∧ H a = some (.dK kvs) ∧ ∀ od, Q v (upd H a (.frz od (.dK kvs)))
theorem ep_frz {X : Cx} {pins : List (Addr × Obj)} {σ : L2.St} {Q : VK} {u : Value} {s : Shared} (h : EP X pins σ (fzV Q) u s) : EP X pins σ Q u s := by
  obtain ⟨v, H', I, r, a, kvs, rfl, e, q⟩ := h
  obtain ⟨od, J⟩ := I.lock e trivial
  exact ⟨_, _, J, r, q od⟩
theorem pe_frz {X : Cx} {e : Expr} {t : TE} (h : PE X e t) : PE X e (fun σ H Q => t σ H (fzV Q)) :=
  ⟨fun pins s σ H Q I q => wpAny_mono (h.run pins s σ H _ I q) (fun _ _ z => ep_frz z) fun _ _ z => z⟩
theorem cr_frz {X : Cx} {f : Value} {r : List V → Hp → VK → Prop} (h : CallR X f r) : CallR X f (fun xs H Q => r xs H (fzV Q)) :=
  fun pins s σ H xs us Q I rx q => wpAny_mono (h pins s σ H xs us _ I rx q) (fun _ _ z => ep_frz z) fun _ _ z => z
/-! ### key and value -/
def valD (kvs : List (Key × D)) (k : Key) : Option D := (kvs.find? fun kv => decide (kv.1 = k)).map (·.2)
def putD' (kvs : List (Key × D)) (k : Key) (v : D) : List (Key × D) :=
  if (kvs.any fun kv => decide (kv.1 = k)) = true then kvs.map (fun kv => if kv.1 = k then (kv.1, v) else kv) else kvs ++ [(k, v)]
theorem RvK.keys {K : Frag} {B : Hp} : ∀ {vs : List (Key × V)} {ds : List (Key × D)}, RvK K B vs ds → vs.map (·.1) = ds.map (·.1)
  | _, _, .nil => rfl
  | _, _, .cons _ _ t => by rw [List.map_cons, List.map_cons, t.keys]
theorem RvK.any {K : Frag} {B : Hp} (k : Key) : ∀ {vs : List (Key × V)} {ds : List (Key × D)}, RvK K B vs ds → (vs.any fun kv => decide (kv.1 = k)) = (ds.any fun kv => decide (kv.1 = k))
  | _, _, .nil => rfl
  | _, _, .cons _ _ t => by rw [List.any_cons, List.any_cons, t.any k]
theorem RvK.val {K : Frag} {B : Hp} (k : Key) : ∀ {vs : List (Key × V)} {ds : List (Key × D)}, RvK K B vs ds → (valV vs k = none ∧ valD ds k = none) ∨ ∃ v d, valV vs k = some v ∧ valD ds k = some d ∧ Rv K B v d
  | _, _, .nil => .inl ⟨rfl, rfl⟩
  | _, _, .cons (k := k0) (v := v) (vs := vs) (d := d) (ds := ds) _ r t => by
    by_cases c : k0 = k
    · refine .inr ⟨v, d, by rw [valV_pos c], ?_, r⟩
      simp [valD, List.find?_cons, c]
    · rw [valV_neg (p := (k0, v)) c]
      have z : valD ((k0, d) :: ds) k = valD ds k := by simp [valD, List.find?_cons, c]
      rw [z]
      exact t.val k
theorem RvK.app {K : Frag} {B : Hp} : ∀ {vs us : List (Key × V)} {ds es : List (Key × D)}, RvK K B vs ds → RvK K B us es → RvK K B (vs ++ us) (ds ++ es)
  | _, _, _, _, .nil, r => r
  | _, _, _, _, .cons k h t, r => .cons k h (t.app r)
theorem RvK.mapput {K : Frag} {B : Hp} {k : Key} {v : V} {d : D} (h : Rv K B v d) : ∀ {vs : List (Key × V)} {ds : List (Key × D)}, RvK K B vs ds → RvK K B (vs.map fun kv => if kv.1 = k then (kv.1, v) else kv) (ds.map fun kv => if kv.1 = k then (kv.1, d) else kv)
  | _, _, .nil => .nil
  | _, _, .cons (k := k0) ko h0 t => by
    rw [List.map_cons, List.map_cons]
    by_cases c : k0 = k
    · rw [if_pos c, if_pos c]
      exact .cons ko h (t.mapput h)
    · rw [if_neg c, if_neg c]
      exact .cons ko h0 (t.mapput h)
theorem RvK.put {K : Frag} {B : Hp} {k : Key} {v : V} {d : D} {vs : List (Key × V)} {ds : List (Key × D)} (r : RvK K B vs ds) (ko : KeyOk k) (h : Rv K B v d) : RvK K B (putK vs k v) (putD' ds k d) := by
  unfold putK putD'
  rw [r.any k]
  split
  · exact r.mapput h
  · exact r.app (.cons ko h .nil)
/-- what was new becomes a datum, locked -/
theorem frz_laid {K : Frag} {B1 B' : Hp} {μ1 μ' : List Addr} {m1 m' : Me} {H1 H' : Hp} {L : Addr} {od : Obj} {vs : List (Key × V)} (M1 : MemOk K B1 μ1 m1 H1) (nL : H1 L = none) (s' : Stp B1 μ1 m1 H1 B' μ' m' H') (M' : MemOk K B' μ' m' H') (nb : B' L = none) (nl : ¬ Live μ' m' L) :
    Stp B1 μ1 m1 H1 (upd B' L (.frz od (.dK vs))) μ' m' (upd H' L (.frz od (.dK vs))) ∧ MemOk K (upd B' L (.frz od (.dK vs))) μ' m' (upd H' L (.frz od (.dK vs))) ∧ Same B' (upd B' L (.frz od (.dK vs))) := by
  have same : Same B' (upd B' L (.frz od (.dK vs))) := same_new nb _
  have kp : ∀ b o, b ≠ L → H' b = some o → upd H' L (.frz od (.dK vs)) b = some o := fun b o c e => by rw [upd_ne c]; exact e
  have s2 := s'.touch nL kp
  have M2 := M'.touch nb nl kp
  refine ⟨⟨s2.same.trans same, s2.pre, s2.out, fun a o n e x b => ?_⟩, ⟨fun a o e => ?_, M2.len, fun a l => ?_, fun n a x e1 e2 e3 => OO.to same (List.prefix_refl _) (fun _ z => z) (M2.at_ n a x e1 e2 e3), M2.inj, fun a ps e => ?_⟩, same⟩
  · obtain ⟨h1, h2⟩ := s2.hid a o n e x b
    refine ⟨?_, h2⟩
    rw [upd_ne (ne_of_none e nL)]
    exact h1
  · by_cases c : a = L
    · subst c
      rw [upd_same] at e
      cases e
      exact upd_same
    · rw [upd_ne c] at e
      exact M2.le a o e
  · have c : a ≠ L := fun z => by
      subst z
      exact nl l
    rw [upd_ne c]
    exact M2.off a l
  · by_cases c : a = L
    · subst c
      rw [upd_same] at e
      cases e
    · rw [upd_ne c] at e
      exact M2.ntb a ps e
section
variable {X : Cx} {E : XK}
/-! ### d[k], d.get(k, x), k in d -/
/-- a key's datum -/
def keyD : D → (Key → Prop) → Prop
  | .str x, Q => Q (.inr x)
  | .int i, Q => Q (.inl i)
  | _, _ => False
theorem keyD_ok {K : Frag} {B H : Hp} {v : V} {d : D} {Q : Key → Prop} (t : Top K B H v d) (q : keyD d Q) : ∃ k, v = kV k ∧ KeyOk k ∧ Q k := by
  cases d with
  | str x => cases (show Rv K B v (.str x) from t) with | str h => exact ⟨.inr x, rfl, h, q⟩
  | int i => cases (show Rv K B v (.int i) from t); exact ⟨.inl i, rfl, trivial, q⟩
  | _ => exact q.elim
def dicD : D → (List (Key × D) → Prop) → Prop
  | .dic kvs, Q => Q kvs
  | _, _ => False
theorem dicD_ok {K : Frag} {B H : Hp} {v : V} {d : D} {Q : List (Key × D) → Prop} (t : Top K B H v d) (q : dicD d Q) : ∃ a vs kvs, v = .ref a ∧ Rd H a (.dK vs) ∧ RvK K B vs kvs ∧ Q kvs := by
  cases d with
  | dic kvs => obtain ⟨a, vs, rfl, h, r⟩ := t; exact ⟨a, vs, kvs, rfl, h, r, q⟩
  | _ => exact q.elim
theorem top_str {K : Frag} {B H H' : Hp} {v : V} {k : Key} : v = kV k → v = kV k := id
def tDk (td ty : DTE) : DTE := fun en m Q Qx => td en m (fun x m1 => ty en m1 (fun y m2 => look x m2 fun dx => look y m2 fun dy => dicD dx fun kvs => keyD dy fun k => ∃ d, valD kvs k = some d ∧ Q (.v d) m2) Qx) Qx
theorem d_dk {o i : Expr} {td ty : DTE} {pos : Pos} (hu : X.A.units + 65 < cLine) (ho : DE X E o td) (hi : DE X E i ty) (hs : NoSl i := by exact fun _ _ => rfl) : DE X E (.Subscript o i pos) (tDk td ty) := by
  obtain ⟨t1, p1, k1⟩ := ho.ex
  obtain ⟨t2, p2, k2⟩ := hi.ex
  refine ⟨_, pe_dget (by omega) p1 p2 hs, fun B μ en m σ H Q Qx QV R hx T k => ?_⟩
  refine k1 B μ en m σ H _ Qx _ R hx T fun B1 μ1 m1 H1 x v s1 R1 r1 T1 => ?_
  refine k2 B1 μ1 en m1 σ H1 _ Qx _ R1 (hx.step s1 R1.mem R.mem.le) T1 fun B2 μ2 m2 H2 y u s2 R2 r2 T2 => ?_
  have s12 := s1.trans R1.mem s2 R.mem.le
  obtain ⟨dx, tx, T3⟩ := look_ok R2.mem (r1.to s2.same s2.pre) T2
  obtain ⟨dy, ty', T4⟩ := look_ok R2.mem r2 T3
  obtain ⟨a, vs, kvs, rfl, hd, rk, T5⟩ := dicD_ok tx T4
  obtain ⟨kk, rfl, ko, d, hv, q⟩ := keyD_ok ty' T5
  rcases rk.val kk with ⟨_, z⟩ | ⟨v, d', z1, z2, rv⟩
  · rw [z] at hv
    cases hv
  · rw [z2] at hv
    cases hv
    exact ⟨a, v, rfl, .inl ⟨vs, kk, hd, rfl, z1.symm⟩, k B2 μ2 m2 H2 (.v d) v s12 R2 (RW.d rv) q⟩
/-- d.get(k, z), z a datum -/
def tDg (td ty tz : DTE) : DTE := fun en m Q Qx => td en m (fun x m1 => look x m1 fun dx => dicD dx fun _ => ty en m1 (fun y m2 => tz en m2 (fun z m3 => look x m3 fun dx => look y m3 fun dy => oD z fun dz => dicD dx fun kvs => keyD dy fun k => Q (.v ((valD kvs k).getD dz)) m3) Qx) Qx) Qx
theorem d_dg {o e f : Expr} {td ty tz : DTE} {apos cpos : Pos} (hu : X.A.units + 65 < cLine) (ho : DE X E o td) (he : DE X E e ty) (hf : DE X E f tz) (m2 : M2 X o "get" apos e f cpos := by exact ⟨rfl, rfl, rfl, rfl⟩) : DE X E (.Call (.Attribute o "get" apos) [e, f] [] cpos) (tDg td ty tz) := by
  obtain ⟨t1, p1, k1⟩ := ho.ex
  obtain ⟨t2, p2, k2⟩ := he.ex
  obtain ⟨t3, p3, k3⟩ := hf.ex
  refine ⟨_, pe_dget2 (by omega) p1 p2 p3 m2, fun B μ en m σ H Q Qx QV R hx T k => ?_⟩
  refine k1 B μ en m σ H _ Qx _ R hx T fun B1 μ1 m1 H1 x v s1 R1 r1 T1 => ?_
  obtain ⟨dx, tx, T1⟩ := look_ok R1.mem r1 T1
  obtain ⟨a, vs, kvs, rfl, hd, rk, T1⟩ := dicD_ok tx T1
  refine ⟨a, rfl, .inl ⟨vs, hd⟩, ?_⟩
  refine k2 B1 μ1 en m1 σ H1 _ Qx _ R1 (hx.step s1 R1.mem R.mem.le) T1 fun B2 μ2 m2 H2 y u s2 R2 r2 T2 => ?_
  have s12 := s1.trans R1.mem s2 R.mem.le
  refine k3 B2 μ2 en m2 σ H2 _ Qx _ R2 (hx.step s12 R2.mem R.mem.le) T2 fun B3 μ3 m3 H3 z w s3 R3 r3 T3 => ?_
  have s13 := s12.trans R2.mem s3 R.mem.le
  have s23 := s2.trans R2.mem s3 R1.mem.le
  obtain ⟨dx, tx, T4⟩ := look_ok R3.mem (r1.to s23.same s23.pre) T3
  obtain ⟨dy, ty', T5⟩ := look_ok R3.mem (r2.to s3.same s3.pre) T4
  cases z with
  | loc n => exact T5.elim
  | v dz =>
    obtain ⟨a', vs', kvs', ea, hd', rk', T6⟩ := dicD_ok tx T5
    cases ea
    obtain ⟨kk, rfl, ko, q⟩ := keyD_ok ty' T6
    refine ⟨valV vs' kk, .inl ⟨vs', kk, hd', rfl, rfl⟩, ?_⟩
    rcases rk'.val kk with ⟨z1, z2⟩ | ⟨v, d', z1, z2, rv⟩
    · rw [z1]
      rw [z2] at q
      exact k B3 μ3 m3 H3 (.v dz) w s13 R3 r3 q
    · rw [z1]
      rw [z2] at q
      exact k B3 μ3 m3 H3 (.v d') v s13 R3 (RW.d rv) q
def inKD (g : Bool → Bool) : F2 := fun x y Q => dicD y fun kvs => keyD x fun k => Q (.bl (g (valD kvs k).isSome))
theorem o_inK (hu : X.A.units + 65 < cLine) : OpD X (compareOp .In) (oL (inKD id)) := by
  refine ⟨fun x y H Q => ∃ a o, y = .ref a ∧ DGet H a x o ∧ Q (.bl o.isSome) H, ?_, SO.of fun B μ m H v u dx dy Q QV M tx ty q k => ?_⟩
  · intro pins s σ H x y v u Q I rx ry ⟨a, o, hy, g, q⟩
    subst hy
    cases (show u = Value.ref a from ry)
    exact d_in (by omega) I g rx fun s' I' => ⟨.bl o.isSome, H, I', rfl, q⟩
  · obtain ⟨a, vs, kvs, rfl, hd, rk, q⟩ := dicD_ok ty q
    obtain ⟨kk, rfl, ko, q⟩ := keyD_ok tx q
    refine ⟨a, _, rfl, .inl ⟨vs, kk, hd, rfl, rfl⟩, ?_⟩
    rcases rk.val kk with ⟨z1, z2⟩ | ⟨v, d', z1, z2, rv⟩
    · rw [z1]
      rw [z2] at q
      exact SO.pure M k (.bl _) q
    · rw [z1]
      rw [z2] at q
      exact SO.pure M k (.bl _) q
theorem o_notinK (hu : X.A.units + 65 < cLine) : OpD X (compareOp .NotIn) (oL (inKD (!·))) := by
  refine ⟨fun x y H Q => ∃ a o, y = .ref a ∧ DGet H a x o ∧ Q (.bl (!o.isSome)) H, ?_, SO.of fun B μ m H v u dx dy Q QV M tx ty q k => ?_⟩
  · intro pins s σ H x y v u Q I rx ry ⟨a, o, hy, g, q⟩
    subst hy
    cases (show u = Value.ref a from ry)
    exact d_notIn (by omega) I g rx fun s' I' => ⟨.bl (!o.isSome), H, I', rfl, q⟩
  · obtain ⟨a, vs, kvs, rfl, hd, rk, q⟩ := dicD_ok ty q
    obtain ⟨kk, rfl, ko, q⟩ := keyD_ok tx q
    refine ⟨a, _, rfl, .inl ⟨vs, kk, hd, rfl, rfl⟩, ?_⟩
    rcases rk.val kk with ⟨z1, z2⟩ | ⟨v, d', z1, z2, rv⟩
    · rw [z1]
      rw [z2] at q
      exact SO.pure M k (.bl _) q
    · rw [z1]
      rw [z2] at q
      exact SO.pure M k (.bl _) q
/-! ### dict(d), sorted(d), list(d), sorted(texts) -/
/-- a new dict with the items of d -/
def dcpD : D → (D → Prop) → Prop := fun d Q => dicD d fun kvs => Q (.dic kvs)
theorem c_dict : SC X (fun xs H Q => ∃ (a : Addr) (kvs : List (Key × V)), xs = [.ref a] ∧ Rd H a (.dK kvs) ∧ ∀ p, H p = none → fzV Q (.ref p) (upd H p (.dK kvs))) (c1 dcpD) := SC.of1 fun B μ m H v d Q QV M td q k => by
  obtain ⟨a, vs, kvs, rfl, hd, rk, q⟩ := dicD_ok td q
  refine ⟨a, vs, rfl, hd, fun p np => ⟨p, vs, rfl, upd_same, fun od => ?_⟩⟩
  rw [upd_upd]
  exact SO.new M k (o := .frz od (.dK vs)) np (.dic upd_same (rk.to (laid_same M np))) q
theorem d_dict {e : Expr} {ta : DTA} {p pos : Pos} (hm : X.mg "dict" = none) (ha : DA X E [e] ta) (hg : Gl X "dict" := by rfl) (he : starEach [e] X.env = (false, eval e X.env) :: starEach [] X.env := by rfl) (hpl : (backTo pos (starEach [] X.env)).any (·.1) = false := by rfl) : DE X E (.Call (.Name "dict" p) [e] [] pos) (tCa (c1 dcpD) ta) :=
  d_tyc (cr_frz call_dictD) c_dict hm (by decide +kernel) ha hg (by decide) (by decide) he hpl
/-- texts, sorted -/
def txtL : List D → (List Str → Prop) → Prop
  | [], Q => Q []
  | .str x :: r, Q => txtL r fun xs => Q (x :: xs)
  | _ :: _, _ => False
def keysL : List (Key × D) → (List Str → Prop) → Prop
  | [], Q => Q []
  | (.inr x, _) :: r, Q => keysL r fun xs => Q (x :: xs)
  | (.inl _, _) :: _, _ => False
def srtD : D → (D → Prop) → Prop
  | .lst ds, Q => txtL ds fun xs => xs.length < 64 ∧ ∀ ys : List Str, ys.Perm xs → sortedS ys = true → Q (.lst (ys.map .str))
  | .dic kvs, Q => keysL kvs fun xs => xs.length < 64 ∧ ∀ ys : List Str, ys.Perm xs → sortedS ys = true → Q (.lst (ys.map .str))
  | _, _ => False
end
end Fs
set_option Elab.async false
set_option linter.all false
set_option maxRecDepth 100000
set_option maxHeartbeats 8000000
namespace Fs
open PySem PySem.Spec PyProof.Rows L2
/-- an own dict becomes a datum, locked -/
theorem frz_own {K : Frag} {B : Hp} {μ : List Addr} {m : Me} {H : Hp} {n : Nat} {a : Addr} {kvs : List (Key × D)} {vs : List (Key × V)} {od : Obj} (M : MemOk K B μ m H) (ha : μ[n]? = some a) (hm : m[n]? = some (.dic kvs)) :
    Stp B μ m H (upd B a (.frz od (.dK vs))) μ (m.set n .gone) (upd H a (.frz od (.dK vs))) ∧ MemOk K (upd B a (.frz od (.dK vs))) μ (m.set n .gone) (upd H a (.frz od (.dK vs))) := by
  have la : Live μ m a := ⟨n, _, ha, hm, rfl⟩
  have nb := M.off a la
  have lv : ∀ {k : Nat} {x : MO}, (m.set n .gone)[k]? = some x → x.live = true → k ≠ n ∧ m[k]? = some x := fun {k x} e l => by
    by_cases c : k = n
    · subst c
      rw [List.getElem?_set_self (List.getElem?_eq_some_iff.mp hm).1] at e
      cases e
      cases l
    · rw [List.getElem?_set_ne (fun z => c z.symm)] at e
      exact ⟨c, e⟩
  have ne : ∀ {k : Nat} {b : Addr} {x : MO}, k ≠ n → μ[k]? = some b → m[k]? = some x → x.live = true → b ≠ a := fun {k b x} c e1 e2 l z => by
    subst z
    exact c (M.inj k n b x _ e1 ha e2 hm l rfl)
  have same : Same B (upd B a (.frz od (.dK vs))) := same_new nb _
  refine ⟨⟨same, List.prefix_refl _, fun b o nl e _ => ?_, fun b o nl e _ q => ⟨?_, fun l => ?_⟩⟩, ⟨fun b u e => ?_, by simp [M.len], fun b l => ?_, fun k b x e1 e2 e3 => ?_, fun k j b x y e1 e2 e3 e4 l1 l2 => ?_, fun b ps e => ?_⟩⟩
  · rw [upd_ne (fun z : b = a => nl (z ▸ la))]
    exact e
  · rw [upd_ne (fun z : b = a => nl (z ▸ la))]
    exact q
  · obtain ⟨k, x, e1, e2, e3⟩ := l
    obtain ⟨_, e4⟩ := lv e2 e3
    exact nl ⟨k, x, e1, e4, e3⟩
  · by_cases c : b = a
    · subst c
      rw [upd_same] at e
      cases e
      exact upd_same
    · rw [upd_ne c] at e
      rw [upd_ne c]
      exact M.le b u e
  · obtain ⟨k, x, e1, e2, e3⟩ := l
    obtain ⟨c, e4⟩ := lv e2 e3
    rw [upd_ne (ne c e1 e4 e3)]
    exact M.off b ⟨k, x, e1, e4, e3⟩
  · obtain ⟨c, e4⟩ := lv e2 e3
    exact OO.to same (List.prefix_refl _) (fun u z => by rw [upd_ne (ne c e1 e4 e3)]; exact z) (M.at_ k b x e1 e4 e3)
  · exact M.inj k j b x y e1 e2 (lv e3 l1).2 (lv e4 l2).2 l1 l2
  · by_cases c : b = a
    · subst c
      rw [upd_same] at e
      cases e
    · rw [upd_ne c] at e
      exact M.ntb b ps e
section
variable {X : Cx} {E : XK}
/-- an expression that gives an own dict, which becomes a datum -/
def tDfz (te : DTE) : DTE := fun en m Q Qx => te en m (fun x m1 => match x with
  | .loc n => (match m1[n]? with
    | some (.dic kvs) => Q (.v (.dic kvs)) (m1.set n .gone)
    | _ => False)
  | .v (.dic kvs) => Q (.v (.dic kvs)) m1
  | _ => False) Qx
def fzW (Q : VK) : VK := fun v H => (∃ a kvs, v = .ref a ∧ H a = some (.dK kvs) ∧ ∀ od, Q v (upd H a (.frz od (.dK kvs)))) ∨ Q v H
theorem pe_frzW {e : Expr} {t : TE} (h : PE X e t) : PE X e (fun σ H Q => t σ H (fzW Q)) :=
  ⟨fun pins s σ H Q I q => wpAny_mono (h.run pins s σ H _ I q) (fun _ _ z => by
    obtain ⟨v, H', J, r, z | z⟩ := z
    · exact ep_frz ⟨v, H', J, r, z⟩
    · exact ⟨v, H', J, r, z⟩) fun _ _ z => z⟩
theorem d_dfz {e : Expr} {te : DTE} (h : DE X E e te) : DE X E e (tDfz te) := by
  obtain ⟨t1, p1, k1⟩ := h.ex
  refine ⟨_, pe_frzW p1, fun B μ en m σ H Q Qx QV R hx T k => ?_⟩
  refine k1 B μ en m σ H _ Qx _ R hx T fun B1 μ1 m1 H1 x v s1 R1 r q => ?_
  split at q
  · rename_i n
    split at q
    · rename_i kvs hm
      obtain ⟨a, rfl, ha⟩ := r
      obtain ⟨vs, hv, rk⟩ := R1.mem.at_ n a _ ha hm rfl
      refine .inl ⟨a, vs, rfl, hv, fun od => ?_⟩
      obtain ⟨st, M2⟩ := frz_own (od := od) (vs := vs) R1.mem ha hm
      have s2 := s1.trans R1.mem st R.mem.le
      exact k _ μ1 _ _ (.v (.dic kvs)) _ s2 (R.stp s2 M2) (RW.d (.dic upd_same (rk.to st.same))) q
    · exact q.elim
  · exact .inr (k B1 μ1 m1 H1 _ v s1 R1 r q)
  · exact q.elim
/-! ### {} as an own dict, d[k] = v -/
def tDnw : DTE := fun _ m Q _ => Q (.loc m.length) (m ++ [.dic []])
theorem d_dnw {pos : Pos} : DE X E (.Dict [] [] pos) tDnw := by
  refine ⟨_, pe_dnewK, fun B μ en m σ H Q Qx QV R hx T k => fun p np => ?_⟩
  have kp : ∀ a o, a ≠ p → H a = some o → upd H p (.dK []) a = some o := fun a o c e => by rw [upd_ne c]; exact e
  have st := Stp.push R.mem np (m := .dic []) kp
  have mo := R.mem.push np (m := .dic []) (fun a o e => kp a o (ne_of_none (R.mem.le a o e) np) (R.mem.le a o e)) kp ⟨[], upd_same, .nil⟩
  refine k _ _ _ _ (.loc m.length) _ st (R.stp st mo) ⟨p, rfl, ?_⟩ T
  rw [← R.mem.len]
  simp
/-- the own dict at n -/
def dicAt (m : Me) (n : Nat) (Q : List (Key × D) → Prop) : Prop := match m[n]? with
  | some (.dic kvs) => Q kvs
  | _ => False
theorem dicAt_ok {m : Me} {n : Nat} {Q : List (Key × D) → Prop} (h : dicAt m n Q) : ∃ kvs, m[n]? = some (.dic kvs) ∧ Q kvs := by
  unfold dicAt at h
  split at h
  · rename_i kvs e
    exact ⟨kvs, e, h⟩
  · exact h.elim
def sDpt (td ty tv : DTE) : DTS := fun en m N => tv en m (fun z m1 => td en m1 (fun x m2 => ty en m2 (fun y m3 => match x with
  | .loc n => dicAt m3 n fun kvs => oD z fun dz => look y m3 fun dy => keyD dy fun k => kvs.length < sizeLine ∧ N.nx en (m3.set n (.dic (putD' kvs k dz)))
  | _ => False) N.xc) N.xc) N.xc
theorem ds_dpt {o i value : Expr} {td ty tv : DTE} {pos pos' : Pos} (hu : X.A.units + 65 < cLine) (ho : DE X E o td) (hi : DE X E i ty) (hv : DE X E value tv) (hs : swapsWith value (some (.Subscript o i pos')) pos.line X.env = pure false := by rfl) :
    DS X E (.Assign [.Subscript o i pos'] value pos) (sDpt td ty tv) := by
  obtain ⟨t1, p1, k1⟩ := ho.ex
  obtain ⟨t2, p2, k2⟩ := hi.ex
  obtain ⟨t3, p3, k3⟩ := hv.ex
  refine ⟨_, ps_dput (by omega) p1 p2 p3 hs, fun B μ en m σ H N D R hx T e => ?_⟩
  refine k3 B μ en m σ H _ _ _ R hx T fun B1 μ1 m1 H1 z w s1 R1 r1 T1 => ?_
  refine k1 B1 μ1 en m1 σ H1 _ _ _ R1 (hx.step s1 R1.mem R.mem.le) T1 fun B2 μ2 m2 H2 x v s2 R2 r2 T2 => ?_
  have s12 := s1.trans R1.mem s2 R.mem.le
  refine k2 B2 μ2 en m2 σ H2 _ _ _ R2 (hx.step s12 R2.mem R.mem.le) T2 fun B3 μ3 m3 H3 y u s3 R3 r3 T3 => ?_
  have s13 := s12.trans R2.mem s3 R.mem.le
  cases x with
  | v d => exact T3.elim
  | loc n =>
    obtain ⟨kvs, hm, T3⟩ := dicAt_ok T3
    cases z with
    | loc _ => exact T3.elim
    | v dz =>
      obtain ⟨dy, ty', T4⟩ := look_ok R3.mem r3 T3
      obtain ⟨kk, rfl, ko, hl, q⟩ := keyD_ok ty' T4
      obtain ⟨a, rfl, ha2⟩ := r2
      have ha := pre_at s3.pre ha2
      obtain ⟨vs, hv, rk⟩ := R3.mem.at_ n a _ ha hm rfl
      have rz : Rv X.K B3 w dz := Rv.to (s2.trans R2.mem s3 R1.mem.le).same r1
      have kp : ∀ b o, b ≠ a → H3 b = some o → upd H3 a (.dK (putK vs kk w)) b = some o := fun b o c e => by rw [upd_ne c]; exact e
      have sS := Stp.store (H' := upd H3 a (.dK (putK vs kk w))) (m' := .dic (putD' kvs kk dz)) (B := B3) ha hm rfl kp
      have mS := R3.mem.store (m' := .dic (putD' kvs kk dz)) ha hm rfl rfl kp ⟨_, upd_same, rk.put ko rz⟩
      have st := s13.trans R3.mem sS R.mem.le
      have rl : vs.length = kvs.length := rk.len
      exact ⟨a, _, rfl, .inl ⟨vs, kk, hv, rfl, by omega, rfl⟩, e.nx _ _ _ _ _ _ st (R.stp st mS) q⟩
end
/-! ### dict comprehensions -/
theorem dc_it {J : It} {n : Nat} {G : Hp → Prop} {Y : Nat → Hp → V → Hp → Prop} (w : Walk J n G Y) {g : TG} {tt : TT} {tk tv : TE} {vs : List Nat} {σ : L2.St} {H1 : Hp} {L : Addr} {Qd : Hp → Prop} (Pv : Nat → Hp → Prop) (h0 : Pv 0 (upd H1 L (.dK []))) (hG : ∀ i H, i ≤ n → Pv i H → G H)
    (hs : ∀ i x H H', i < n → Pv i H → Y i H x H' → g x (wipe σ vs) H' fun σ2 H2 => wipe σ2 vs = wipe σ vs ∧ tt σ2 H2 fun b H3 =>
      if b = true then tk σ2 H3 fun y H4 => tv σ2 H4 fun z H5 => ∃ kvs k, y = kV k ∧ H5 L = some (.dK kvs) ∧ kvs.length < sizeLine ∧ Pv (i + 1) (upd H5 L (.dK (putK kvs k z))) else Pv (i + 1) H3) (hd : ∀ H, Pv n H → Qd H) :
    ∃ W : Nat → Nat → Hp → Prop, (∃ m, W 0 m (upd H1 L (.dK []))) ∧ ∀ i m H, W i m H →
      (J.stop i H ∧ Qd H) ∨ (J.go i H ∧ ∃ Nx : Hp → Prop, (∀ H', Nx H' → ∃ m', m' < m ∧ W (i + 1) m' H') ∧ ∀ x H', J.yld i H x H' → g x (wipe σ vs) H' fun σ2 H2 => wipe σ2 vs = wipe σ vs ∧ tt σ2 H2 fun b H3 =>
        if b = true then tk σ2 H3 fun y H4 => tv σ2 H4 fun z H5 => ∃ kvs k, y = kV k ∧ H5 L = some (.dK kvs) ∧ kvs.length < sizeLine ∧ Nx (upd H5 L (.dK (putK kvs k z))) else Nx H3) := by
  refine ⟨fun i m H => m = n - i ∧ i ≤ n ∧ Pv i H, ⟨n, by omega, Nat.zero_le _, h0⟩, ?_⟩
  rintro i m H ⟨rfl, hi, p⟩
  by_cases c : i < n
  · exact .inr ⟨w.goes i H c (hG i H hi p), Pv (i + 1), fun H' p' => ⟨_, by omega, rfl, c, p'⟩, fun x H' y => hs i x H H' c p (w.yields i H x H' c (hG i H hi p) y)⟩
  · have e : n = i := by omega
    subst e
    exact .inl ⟨w.stops H (hG n H hi p), hd H p⟩
section
variable {X : Cx} {E : XK}
def dcL (g : DTG) (tt : DTT) (tk tv : DTE) (en : En) : List D → List (Key × D) → Me → (W → Me → Prop) → Prop
  | [], acc, m, Q => Q (.v (.dic acc)) m
  | d :: ds, acc, m, Q => g (.v d) en m fun en1 m1 => tt en1 m1 (fun b m2 => if b = true then tk en1 m2 (fun y m3 => tv en1 m3 (fun z m4 => oD y fun dy => keyD dy fun k => oD z fun dz => acc.length < sizeLine ∧ dcL g tt tk tv en ds (putD' acc k dz) m4 Q) noX) noX else dcL g tt tk tv en ds acc m2 Q) noX
def tDcD (ti : DTI) (g : DTG) (tt : DTT) (tk tv : DTE) (vs : List Nat) : DTE := fun en m Q Qx => ti en m (fun its m1 => dcL g tt tk tv (wipeE en vs) its [] m1 Q) Qx
theorem d_dc {kx vx tg iter : Expr} {ifs : List Expr} {scope : Scope} {own : List (Str × Nat)} {is : List Nat} {pos : Pos} {ti : DTI} {g : DTG} {tt : DTT} {tk tv : DTE} (hc : X.calm = true) (hN : X.N.Nodup) (hi : DI X E tg iter ti) (ok : BlkOk X.N X.env.scope scope own)
    (hg : ∀ (s : Shared) (H : Hp) (C : Addr) (cl : List (Str × Addr)) (fp : List Addr), DG (X.blk s H scope (compEnvC scope cl C X.env) fp) tg is g) (ht : ∀ (s : Shared) (H : Hp) (C : Addr) (cl : List (Str × Addr)) (fp : List Addr), DTs (X.blk s H scope (compEnvC scope cl C X.env) fp) E0 ifs tt)
    (hk : ∀ (s : Shared) (H : Hp) (C : Addr) (cl : List (Str × Addr)) (fp : List Addr), DE (X.blk s H scope (compEnvC scope cl C X.env) fp) E0 kx tk)
    (he : ∀ (s : Shared) (H : Hp) (C : Addr) (cl : List (Str × Addr)) (fp : List Addr), DE (X.blk s H scope (compEnvC scope cl C X.env) fp) E0 vx tv) (hs : ∀ x, foldedSetIterable iter X.env x = pure x := by intro _; rfl) (hv : is.all (fun i => (own.map (·.2)).contains i) = true := by rfl) :
    DE X E (.DictComp kx vx [⟨tg, iter, ifs, 0⟩] scope pos) (tDcD ti g tt tk tv (own.map (·.2))) := by
  obtain ⟨t0, p0, k0⟩ := hi.ex
  have hv' : ∀ i ∈ is, i ∈ own.map (·.2) := fun i h => List.contains_iff_mem.mp (List.all_eq_true.mp hv i h)
  refine ⟨_, pe_frz (pe_dc hc hN p0 ok (g := lG X.K is g) (tt := lT X.K E0 tt) (tk := lE X.K E0 tk) (tv := lE X.K E0 tv) (fun s H C cl fp => (hg s H C cl fp).pg) (fun s H C cl fp => (ht s H C cl fp).pts) (fun s H C cl fp => (hk s H C cl fp).pe) (fun s H C cl fp => (he s H C cl fp).pe) hs), fun B μ en m σ H Q Qx QV R hx T k => ?_⟩
  refine k0 B μ en m σ H _ Qx _ R hx T fun B1 μ1 m1 H1 its J s1 R1 ⟨G, Y, w, hG, hY⟩ q => ?_
  intro L nL
  obtain ⟨nb1, nl1⟩ := R1.mem.none nL
  have Rw := R1.wipe (own.map (·.2))
  generalize hen : wipeE en (own.map (·.2)) = enw at q Rw
  have dk : ∀ {vs : List (Key × V)}, (∀ q, HO.dK vs ≠ LamX.CodeO L q) ∧ ∀ ps, HO.dK vs ≠ .tbl ps := fun {vs} => ⟨(fun _ z => nomatch z), (fun _ z => nomatch z)⟩
  refine dc_it w (fun i H' => ∃ B' μ' m' vs acc, Stp B1 μ1 m1 H1 B' μ' m' H' ∧ MemOk X.K B' μ' m' H' ∧ B' L = none ∧ ¬ Live μ' m' L ∧ H' L = some (.dK vs) ∧ RvK X.K B' vs acc ∧ dcL g tt tk tv enw (its.drop i) acc m' Q) ?_ (fun i H' _ ⟨B', μ', m', vs, acc, s', M', _⟩ => hG B' μ' m' H' s'.same M') (fun i x H2 H3 hi ⟨B', μ', m', vs, acc, s', M', nb, nl, hL, rv, q'⟩ y => ?_) (fun H' ⟨B', μ', m', vs, acc, s', M', nb, nl, hL, rv, q'⟩ => ?_)
  · have kp : ∀ b o, b ≠ L → H1 b = some o → upd H1 L (.dK []) b = some o := fun b o c e => by rw [upd_ne c]; exact e
    exact ⟨B1, μ1, m1, [], [], Stp.refl.touch nL kp, R1.mem.touch nb1 nl1 kp, nb1, nl1, upd_same, .nil, q⟩
  · obtain ⟨B3, d, hd, s3, m3, rd⟩ := hY i B' μ' m' H2 x H3 hi s'.same M' y
    have s13 := s'.trans M' s3 R1.mem.le
    obtain ⟨nb3, nl3⟩ := s3.hid L _ nl hL dk nb
    have hL3 := s3.out L _ nl hL dk.2
    have R3 : Rel X.K B3 μ' enw m' (L2.wipe σ (own.map (·.2))) H3 := Rw.stp s13 m3
    rw [List.drop_eq_getElem_cons hi] at q'
    have ed : its[i] = d := by
      rw [List.getElem?_eq_getElem hi] at hd
      exact Option.some.inj hd
    rw [ed] at q'
    refine ⟨B3, μ', enw, m', .v d, _, R3, rd, q', fun B4 μ4 en4 m4 σ4 H4 s4 R4 st4 q4 => ⟨by rw [st4.wipe hv', wipe_wipe], ?_⟩⟩
    have s14 := s13.trans m3 s4 R1.mem.le
    obtain ⟨nb4, nl4⟩ := s4.hid L _ nl3 hL3 dk nb3
    have hL4 := s4.out L _ nl3 hL3 dk.2
    refine ⟨B4, μ4, en4, m4, _, noX, R4, ExOf.no, q4, fun B5 μ5 m5 H5 b s5 R5 q5 => ?_⟩
    have s15 := s14.trans R4.mem s5 R1.mem.le
    obtain ⟨nb5, nl5⟩ := s5.hid L _ nl4 hL4 dk nb4
    have hL5 := s5.out L _ nl4 hL4 dk.2
    have rv5 := rv.to ((s3.same.trans s4.same).trans s5.same)
    cases b with
    | false => exact iteF ⟨B5, μ5, m5, vs, acc, s15, R5.mem, nb5, nl5, hL5, rv5, q5⟩
    | true =>
      refine iteT ⟨B5, μ5, en4, m5, _, noX, R5, ExOf.no, q5, fun B6 μ6 m6 H6 y v s6 R6 r6 q6 => ?_⟩
      have s16 := s15.trans R5.mem s6 R1.mem.le
      obtain ⟨nb6, nl6⟩ := s6.hid L _ nl5 hL5 dk nb5
      have hL6 := s6.out L _ nl5 hL5 dk.2
      have rv6 := rv5.to s6.same
      refine ⟨B6, μ6, en4, m6, _, noX, R6, ExOf.no, q6, fun B7 μ7 m7 H7 z u s7 R7 r7 q7 => ?_⟩
      cases y with
      | loc n => exact q7.elim
      | v dy =>
        have r6' : Rv X.K B7 v dy := Rv.to s7.same r6
        obtain ⟨kk, rfl, ko, q7⟩ := keyD_ok (r6'.top (H := H7) R7.mem.le) q7
        cases z with
        | loc n => exact q7.elim
        | v dz =>
          obtain ⟨lz, q7⟩ := q7
          have s17 := s16.trans R6.mem s7 R1.mem.le
          obtain ⟨nb7, nl7⟩ := s7.hid L _ nl6 hL6 dk nb6
          have hL7 := s7.out L _ nl6 hL6 dk.2
          have rv7 := rv6.to s7.same
          have kp : ∀ b o, b ≠ L → H7 b = some o → upd H7 L (.dK (putK vs kk u)) b = some o := fun b o c e => by rw [upd_ne c]; exact e
          exact ⟨vs, kk, rfl, hL7, by rw [rv7.len]; exact lz, B7, μ7, m7, _, _, s17.touch nL kp, R7.mem.touch nb7 nl7 kp, nb7, nl7, upd_same, rv7.put ko r7, q7⟩
  · rw [List.drop_length] at q'
    refine ⟨L, vs, rfl, hL, fun od => ?_⟩
    obtain ⟨st, M2, same⟩ := frz_laid (od := od) (vs := vs) R1.mem nL s' M' nb nl
    have stt := s1.trans R1.mem st R.mem.le
    exact k _ μ' m' _ (.v (.dic acc)) _ stt (R.stp stt M2) (RW.d (.dic upd_same (rv.to same))) q'
/-! ### {k: v} -/
def tDs1 (tk tv : DTE) : DTE := fun en m Q Qx => tk en m (fun y m1 => tv en m1 (fun z m2 => oD y fun dy => keyD dy fun k => oD z fun dz => Q (.v (.dic [(k, dz)])) m2) Qx) Qx
theorem d_ds1 {kx vx : Expr} {tk tv : DTE} {pos : Pos} (hk : DE X E kx tk) (hv : DE X E vx tv) : DE X E (.Dict [some kx] [vx] pos) (tDs1 tk tv) := by
  obtain ⟨t1, p1, k1⟩ := hk.ex
  obtain ⟨t2, p2, k2⟩ := hv.ex
  refine ⟨_, pe_frz (pe_disp (pps_cons p1 p2 pps_nil) rfl rfl (by simp) (by show 1 ≤ 15; decide)), fun B μ en m σ H Q Qx QV R hx T k => ?_⟩
  intro L nL
  obtain ⟨nb, nl⟩ := R.mem.none nL
  have kp : ∀ b o, b ≠ L → H b = some o → upd H L (.dK []) b = some o := fun b o c e => by rw [upd_ne c]; exact e
  have s0 : Stp B μ m H B μ m (upd H L (.dK [])) := Stp.refl.touch nL kp
  have M0 := R.mem.touch nb nl kp
  have dk : ∀ {vs : List (Key × V)}, (∀ q, HO.dK vs ≠ LamX.CodeO L q) ∧ ∀ ps, HO.dK vs ≠ .tbl ps := fun {vs} => ⟨(fun _ z => nomatch z), (fun _ z => nomatch z)⟩
  refine k1 B μ en m σ _ _ Qx _ (R.stp s0 M0) (hx.step s0 M0 R.mem.le) T fun B1 μ1 m1 H1 y v s1 R1 r1 T1 => ?_
  have s01 := s0.trans M0 s1 R.mem.le
  obtain ⟨nb1, nl1⟩ := s1.hid L _ nl upd_same dk nb
  have hL1 := s1.out L _ nl upd_same dk.2
  refine k2 B1 μ1 en m1 σ H1 _ Qx _ R1 (hx.step s01 R1.mem R.mem.le) T1 fun B2 μ2 m2 H2 z u s2 R2 r2 T2 => ?_
  have s02 := s01.trans R1.mem s2 R.mem.le
  obtain ⟨nb2, nl2⟩ := s2.hid L _ nl1 hL1 dk nb1
  have hL2 := s2.out L _ nl1 hL1 dk.2
  cases y with
  | loc n => exact T2.elim
  | v dy =>
    have r1' : Rv X.K B2 v dy := Rv.to s2.same r1
    obtain ⟨kk, rfl, ko, T2⟩ := keyD_ok (r1'.top (H := H2) R2.mem.le) T2
    cases z with
    | loc n => exact T2.elim
    | v dz =>
      refine ⟨hL2, [(kk, u)], rfl, by show 1 ≤ 15; decide, L, _, rfl, upd_same, fun od => ?_⟩
      rw [upd_upd]
      obtain ⟨st, M3, same⟩ := frz_laid (od := od) (vs := mergeK [] [(kk, u)]) R.mem nL s02 R2.mem nb2 nl2
      exact k _ μ2 m2 _ (.v (.dic [(kk, dz)])) _ st (R.stp st M3) (RW.d (.dic (xs := [(kk, u)]) upd_same (.cons ko (Rv.to same r2) .nil))) T2
end
/-! ### sorted(d), sorted(texts), list(d) -/
theorem keysL_ok {K : Frag} {B : Hp} : ∀ {vs : List (Key × V)} {kvs : List (Key × D)} {Q : List Str → Prop}, RvK K B vs kvs → keysL kvs Q → ∃ xs : List Str, vs.map (·.1) = xs.map Sum.inr ∧ (∀ x ∈ xs, okS x = true) ∧ Q xs
  | _, _, Q, .nil, q => ⟨[], rfl, (fun _ h => nomatch h), q⟩
  | _, _, Q, .cons (k := .inr x) (vs := vs) (ds := ds) ko _ t, q => by
    obtain ⟨xs, h1, h2, h3⟩ := keysL_ok (Q := fun xs => Q (x :: xs)) t q
    refine ⟨x :: xs, by rw [List.map_cons, List.map_cons, h1], fun y hy => ?_, h3⟩
    rcases List.mem_cons.mp hy with rfl | hy
    · exact ko
    · exact h2 y hy
  | _, _, Q, .cons (k := .inl i) _ _ _, q => q.elim
theorem txtL_ok {K : Frag} {B : Hp} : ∀ {vs : List V} {ds : List D} {Q : List Str → Prop}, RvL K B vs ds → txtL ds Q → ∃ xs : List Str, vs = xs.map V.str ∧ (∀ x ∈ xs, okS x = true) ∧ Q xs
  | _, _, Q, .nil, q => ⟨[], rfl, (fun _ h => nomatch h), q⟩
  | _, _, Q, .cons (d := d) r t, q => by
    cases d with
    | str x =>
      cases r with
      | str hx =>
        obtain ⟨xs, h1, h2, h3⟩ := txtL_ok (Q := fun xs => Q (x :: xs)) t q
        refine ⟨x :: xs, by rw [List.map_cons, h1], fun y hy => ?_, h3⟩
        rcases List.mem_cons.mp hy with rfl | hy
        · exact hx
        · exact h2 y hy
    | _ => exact q.elim
theorem rvl_strs {K : Frag} {B : Hp} : ∀ {ys : List Str}, (∀ y ∈ ys, okS y = true) → RvL K B (ys.map V.str) (ys.map D.str)
  | [], _ => .nil
  | y :: ys, h => .cons (.str (h y (List.mem_cons_self ..))) (rvl_strs fun z hz => h z (List.mem_cons_of_mem _ hz))
section
variable {X : Cx} {E : XK}
theorem c_srt : SC X (fun xs H Q => (∃ (a : Addr) (kvs : List (Key × V)) (ks : List Str), xs = [.ref a] ∧ Rd H a (.dK kvs) ∧ kvs.map (·.1) = ks.map Sum.inr ∧ ks.length < 64 ∧
    ∀ ys p, ys.Perm ks → sortedS ys = true → H p = none → Q (.ref p) (upd H p (.lst (ys.map V.str)))) ∨ rSortedS X.K xs H Q) (c1 srtD) := SC.of1 fun B μ m H v d Q QV M td q k => by
  cases d with
  | dic kvs =>
    obtain ⟨a, vs, rfl, hd, rk⟩ := td
    obtain ⟨xs, e1, e2, hl, q⟩ := keysL_ok rk q
    refine .inl ⟨a, vs, xs, rfl, hd, e1, hl, fun ys p hp hs np => ?_⟩
    have oy : ∀ y ∈ ys, okS y = true := fun y hy => e2 y (hp.mem_iff.mp hy)
    exact SO.new M k np (new_lst M np (rvl_strs oy)) (q ys hp hs)
  | lst ds =>
    obtain ⟨a, vs, rfl, hv, rl⟩ := td
    obtain ⟨xs, rfl, e2, hl, q⟩ := txtL_ok rl q
    refine .inr ⟨a, xs, rfl, .inl (.inl hv), hl, fun ys p hp hs np => ?_⟩
    have oy : ∀ y ∈ ys, okS y = true := fun y hy => e2 y (hp.mem_iff.mp hy)
    exact SO.new M k np (new_lst M np (rvl_strs oy)) (q ys hp hs)
  | _ => exact q.elim
theorem d_srt {e : Expr} {ta : DTA} {p pos : Pos} (hc : X.calm = true) (hm : X.mg "sorted" = none) (ha : DA X E [e] ta) (hg : Gl X "sorted" := by rfl) (he : starEach [e] X.env = (false, eval e X.env) :: starEach [] X.env := by rfl) (hpl : (backTo pos (starEach [] X.env)).any (·.1) = false := by rfl) : DE X E (.Call (.Name "sorted" p) [e] [] pos) (tCa (c1 srtD) ta) :=
  d_fn ((call_sortedD hc).or cr_sortedS) c_srt hm (by decide +kernel) ha hg (by decide) (by decide) he hpl
theorem rvl_keys {K : Frag} {B : Hp} : ∀ {vs : List (Key × V)} {kvs : List (Key × D)}, RvK K B vs kvs → RvL K B (vs.map fun kv => kV kv.1) (kvs.map fun kv => kD kv.1)
  | _, _, .nil => .nil
  | _, _, .cons ko _ t => .cons (kD_rv ko) (rvl_keys t)
def lskD : D → (D → Prop) → Prop := fun d Q => dicD d fun kvs => Q (.lst (kvs.map fun kv => kD kv.1))
theorem c_lsk : SC X (fun xs H Q => ∃ (a : Addr) (kvs : List (Key × V)), xs = [.ref a] ∧ Rd H a (.dK kvs) ∧ ∀ p, H p = none → Q (.ref p) (upd H p (.lst (kvs.map fun kv => kV kv.1)))) (c1 lskD) := SC.of1 fun B μ m H v d Q QV M td q k => by
  obtain ⟨a, vs, kvs, rfl, hd, rk, q⟩ := dicD_ok td q
  exact ⟨a, vs, rfl, hd, fun p np => SO.new M k np (new_lst M np (rvl_keys rk)) q⟩
theorem d_lsk {e : Expr} {ta : DTA} {p pos : Pos} (hc : X.calm = true) (hm : X.mg "list" = none) (ha : DA X E [e] ta) (hg : Gl X "list" := by rfl) (he : starEach [e] X.env = (false, eval e X.env) :: starEach [] X.env := by rfl) (hpl : (backTo pos (starEach [] X.env)).any (·.1) = false := by rfl) : DE X E (.Call (.Name "list" p) [e] [] pos) (tCa (c1 lskD) ta) :=
  d_tyc (call_listD hc) c_lsk hm (by decide +kernel) ha hg (by decide) (by decide) he hpl
end
end Fs
set_option Elab.async false
set_option linter.all false
set_option maxRecDepth 100000
set_option maxHeartbeats 8000000
namespace Fs
open PySem PySem.Spec PyProof.Rows L2
section
variable {X : Cx} {E : XK}
def sstD : D → (D → Prop) → Prop
  | .lst ds, Q => txtL ds fun xs => xs.length < 64 ∧ ∀ ys : List Str, ys.Nodup → (∀ x, x ∈ ys ↔ x ∈ xs) → sortedS ys = true → Q (.lst (ys.map .str))
  | _, _ => False
theorem insS_lt : ∀ (ks l : List Str), (ks.foldl insS l).length ≤ l.length + ks.length
  | [], l => Nat.le_refl _
  | k :: ks, l => by
    have z := insS_lt ks (insS l k)
    have y := insS_le l k
    rw [List.foldl_cons, List.length_cons]
    omega
theorem d_sset {e : Expr} {te : DTE} {p p2 pos pos2 : Pos} (hc : X.calm = true) (hm : X.mg "sorted" = none) (hm2 : X.mg "set" = none) (he : DE X E e te) (hg : Gl X "sorted" := by rfl) (hg2 : Gl X "set" := by rfl)
    (hs : starEach [e] X.env = (false, eval e X.env) :: starEach [] X.env := by rfl) (hpl : (backTo pos2 (starEach [] X.env)).any (·.1) = false := by rfl)
    (hs2 : starEach [.Call (.Name "set" p2) [e] [] pos2] X.env = (false, eval (.Call (.Name "set" p2) [e] [] pos2) X.env) :: starEach [] X.env := by rfl) (hpl2 : (backTo pos (starEach [] X.env)).any (·.1) = false := by rfl) :
    DE X E (.Call (.Name "sorted" p) [.Call (.Name "set" p2) [e] [] pos2] [] pos) (fun en m Q Qx => te en m (fun x m1 => look x m1 fun d => sstD d fun r => Q (.v r) m1) Qx) := by
  obtain ⟨t1, p1, k1⟩ := he.ex
  refine ⟨_, pe_callB (cr_sortT' hc) hg hm (by decide +kernel) (pa_cons (pe_callTy (cr_setT hc) hg2 hm2 (by decide +kernel) (pa_cons p1 pa_nil hs) (by decide) (by decide) hs hpl) pa_nil hs2) (by decide) (by decide) hs2 hpl2, fun B μ en m σ H Q Qx QV R hx T k => ?_⟩
  refine k1 B μ en m σ H _ Qx _ R hx T fun B1 μ1 m1 H1 x v s1 R1 r q => ?_
  obtain ⟨d, td, q⟩ := look_ok R1.mem r q
  cases d with
  | lst ds =>
    obtain ⟨a, vs, rfl, hv, rl⟩ := td
    obtain ⟨xs, rfl, ox, hl, q⟩ := txtL_ok rl q
    refine ⟨a, xs, rfl, .inl (.inl hv), by unfold scanBound; omega, fun p np => ?_⟩
    obtain ⟨nb, nl⟩ := R1.mem.none np
    have kp : ∀ b o, b ≠ p → H1 b = some o → upd H1 p (KT X.prog X.w p (xs.foldl insS [])) b = some o := fun b o c e => by rw [upd_ne c]; exact e
    have s2 : Stp B μ m H B1 μ1 m1 (upd H1 p (KT X.prog X.w p (xs.foldl insS []))) := s1.trans R1.mem (Stp.refl.touch np kp) R.mem.le
    have M2 := R1.mem.touch nb nl kp
    have le := insS_lt xs []
    refine ⟨p, _, rfl, upd_same, foldS_nodup xs [] List.nodup_nil, by simp at le; omega, fun ys p3 pm sr np3 => ?_⟩
    have mem : ∀ x, x ∈ ys ↔ x ∈ xs := fun x => by
      rw [pm.mem_iff, foldS_mem]
      simp
    have oy : ∀ y ∈ ys, okS y = true := fun y hy => ox y ((mem y).mp hy)
    have rr := rvl_strs (K := X.K) (B := B1) oy
    have s3 := s2.trans M2 (Stp.laid M2 np3 (o := .lst (ys.map V.str))) R.mem.le
    exact k _ μ1 m1 _ (.v (.lst (ys.map .str))) _ s3 (R.stp s3 (M2.laid np3)) (RW.d (new_lst M2 np3 rr)) (q ys (pm.nodup_iff.mpr (foldS_nodup xs [] List.nodup_nil)) mem sr)
  | _ => exact q.elim
end
end Fs
set_option Elab.async false
set_option linter.all false
set_option maxRecDepth 100000
set_option maxHeartbeats 8000000
namespace Fs
open PySem PySem.Spec PyProof.Rows L2
theorem slice_len (z : Str) (lo hi : Option Int) : (Txt.slice z lo hi).length ≤ z.length := by
  rw [← C8.cutS_slice]
  unfold cutS
  show (List.take _ (List.drop _ z.cps.toList)).toArray.size ≤ z.cps.size
  rw [List.size_toArray, List.length_take, List.length_drop, Array.length_toList]
  omega
abbrev s__law_of : Stmt := top 12
abbrev N__law_of : List Str := ["_law_bag_here", "_law_things_here"]
abbrev P__law_of : List Str := ["_law_bag_here", "_law_things_here"]
theorem sc__law_of : FnScope N__law_of P__law_of (defScope s__law_of) := ⟨rfl, rfl, rfl, by decide +kernel, rfl, by decide +kernel, by decide +kernel⟩
section
variable {P : Program} {w : World} {K : Frag} {mg : Str → Option Value} {base : Heap}
def spOfD : SpD := fun ws m Q _ => ∃ n x ds, ws = [.loc n, .v x] ∧ m[n]? = some .bag ∧ (x = .lst ds ∨ x = .tup ds) ∧ ds ≠ [] ∧ ds.length < 2 ^ 64 ∧ ∀ d ∈ ds, Q (.v d) m
theorem dd__law_of (G : Gs K mg "_law_of" s__law_of) (g__law_pull : Gd P w K mg base (L2.CX P w) 1 "_law_pull" P__law_pull (lift K spPullD)) (m_len : mg "len" = none) : Gd P w K mg base (L2.CX P w) 2 "_law_of" P__law_of (lift K spOfD) := by
  refine Fo.gd (fo_d sc__law_of (fun ws m Q Qx h => ?_) (fun f cdv A outer s H E hr => ⟨_, (dss_one (ds_ret (d_ix (dv 1) (d_call g__law_pull (hr.mono (by omega)) (passE (takes_of rfl rfl rfl rfl)) (da_cons (dv 0) (da_cons (d_len m_len (da_cons (dv 1) da_nil)) da_nil)))))), fun ws m Qd Qx h => ?_⟩) [] []) G (fun _ _ _ _ _ _ us hl => match us, hl with | [_, _], _ => rfl)
  · obtain ⟨n, x, ds, rfl, _⟩ := h
    rfl
  · obtain ⟨n, x, ds, rfl, hm, hx, h0, h1, q⟩ := h
    have hl : 0 < ds.length := List.length_pos_iff.mpr h0
    rcases hx with rfl | rfl
    · refine ⟨n, ds.length, rfl, hm, by omega, by omega, fun r r0 r1 => ?_⟩
      have z := atI_i (xs := ds) r0 (by omega)
      exact ⟨_, z, List.prefix_refl _, q _ (atI_mem z)⟩
    · refine ⟨n, ds.length, rfl, hm, by omega, by omega, fun r r0 r1 => ?_⟩
      have z := atI_i (xs := ds) r0 (by omega)
      exact ⟨_, z, List.prefix_refl _, q _ (atI_mem z)⟩
end
/-! ### drawn names -/
def abc : Str := "abcdefghijklmnopqrstuvwxyz"
theorem abc_len : abc.cps.toList.length = 26 := by decide +kernel
theorem abc_ok : okS abc = true := by decide +kernel
def abcAt (i : Nat) : Str := ⟨#[abc.cps.toList.getD i 0]⟩
def wordsD : List Str := ["gap", "pad", "row", "pile", "grid", "clip", "hole", "room", "one", "and", "or"]
def rawN (stem : Str) (first at_ k : Nat) : Str := (Txt.slice stem none (some (at_ : Int)) ++ abcAt ((first + 5 * k) % 26)) ++ Txt.slice stem (some (at_ : Int)) none
def nameN (stem : Str) (first at_ k : Nat) : Str := if wordsD.any (fun y => y == rawN stem first at_ k) = true then ("z" ++ abcAt k) ++ "q" else rawN stem first at_ k
def Letters (z : Str) : Prop := ∀ c ∈ z.cps.toList, c ∈ abc.cps.toList
theorem at_abc {i : Nat} (h : i < 26) : atI abc.cps.toList (i : Int) = some (abc.cps.toList.getD i 0) := by
  have hk : i < abc.cps.toList.length := by rw [abc_len]; exact h
  have z := atI_nat (xs := abc.cps.toList) (j := i) (List.getElem?_eq_getElem hk)
  rw [z, List.getD_eq_getElem?_getD, List.getElem?_eq_getElem hk]
  rfl
theorem join_cps : ∀ zs : List Str, (Txt.join "" zs).cps.toList = zs.flatMap (·.cps.toList)
  | [] => rfl
  | x :: rest => by
    have e : Txt.join "" (x :: rest) = (⟨rest.foldl (fun acc p => acc ++ ("" : Str).cps ++ p.cps) x.cps⟩ : Str) := rfl
    rw [e]
    show (rest.foldl (fun acc p => acc ++ ("" : Str).cps ++ p.cps) x.cps).toList = _
    rw [jfold_cps]
    simp
    rfl
theorem sum_ones : ∀ (ys : List Str), (∀ y ∈ ys, y.length = 1) → (ys.map (·.length)).sum = ys.length
  | [], _ => rfl
  | y :: ys, h => by
    rw [List.map_cons, List.sum_cons, sum_ones ys fun z hz => h z (List.mem_cons_of_mem _ hz), h y List.mem_cons_self, List.length_cons]
    omega
/-- the names of a draw -/
def namesN (stem : Str) (first at_ m : Nat) : List Str := (List.range m).map (nameN stem first at_)
def spNamesD : SpD := fun ws m Q _ => ∃ n k, ws = [.loc n, .v (.int (k : Nat))] ∧ m[n]? = some .bag ∧ k ≤ 26 ∧ ∀ stem first at_, stem.length ≤ 3 → Letters stem → first < 26 → at_ ≤ stem.length → Q (.v (.lst ((namesN stem first at_ k).map .str))) m
abbrev s__law_names : Stmt := top 14
abbrev N__law_names : List Str := ["_law_bag_here", "_law_many", "_law_letters", "_law_first", "_law_long", "_law_stem", "_law_at", "_law_found", "_law_k", "_law_name"]
abbrev P__law_names : List Str := ["_law_bag_here", "_law_many"]
abbrev O__law_names_0 : List (Str × Nat) := [("_law_k", 8)]
theorem sc__law_names : FnScope N__law_names P__law_names (defScope s__law_names) := ⟨rfl, rfl, rfl, by decide +kernel, rfl, by decide +kernel, by decide +kernel⟩
section
variable {P : Program} {w : World} {K : Frag} {mg : Str → Option Value} {base : Heap}
theorem dd__law_names (G : Gs K mg "_law_names" s__law_names) (g__law_pull : Gd P w K mg base (L2.CX P w) 1 "_law_pull" P__law_pull (lift K spPullD)) (m_range : mg "range" = none) (m_int : mg "int" = none) : Gd P w K mg base (L2.CX P w) 2 "_law_names" P__law_names (lift K spNamesD) := by
  refine Fo.gd (fo_d sc__law_names (fun ws m Q Qx h => ?_) (fun f cdv A outer s H E hr => ⟨_, (dss_cons (ds_set (i := 2) sc__law_names.nd rfl (.inr rfl) d_str)
    (dss_cons (ds_par (i := 3) (j := 4) rfl sc__law_names.nd rfl rfl (by decide) rfl rfl (da_cons (d_call g__law_pull (hr.mono (by omega)) (passE (takes_of rfl rfl rfl rfl)) (da_cons (dv 0) (da_cons d_int da_nil))) (da_cons (d_call g__law_pull (hr.mono (by omega)) (passE (takes_of rfl rfl rfl rfl)) (da_cons (dv 0) (da_cons d_int da_nil))) da_nil)) (by rfl))
    (dss_cons (ds_set (i := 5) sc__law_names.nd rfl (.inl rfl) (d_join d_str (da_cons (d_lc (own := O__law_names_0) rfl sc__law_names.nd (di_range1 m_range (da_cons (dv 4) da_nil)) (blkOk_by (own := O__law_names_0) (N := N__law_names) (sc := defScope s__law_names) (by decide +kernel)) (fun _ _ _ _ _ => (dg_name (i := 8) sc__law_names.nd rfl (.inl rfl))) (fun _ _ _ _ _ => dts_nil) (fun _ _ _ _ _ => (d_ix (dv 2) (d_call g__law_pull (hr.mono (by omega)) passF (da_cons (dv 0) (da_cons d_int da_nil)))))) da_nil)))
    (dss_cons (ds_set (i := 6) sc__law_names.nd rfl (.inl rfl) (d_call g__law_pull (hr.mono (by omega)) (passE (takes_of rfl rfl rfl rfl)) (da_cons (dv 0) (da_cons (d_op o_add (dv 4) d_int) da_nil))))
    (dss_cons (ds_set (i := 7) sc__law_names.nd rfl (.inl rfl) (d_lstO da_nil))
    (dss_cons (ds_for (passes_of rfl) rfl (di_range1 m_range (da_cons (dv 1) da_nil)) (dg_name (i := 8) sc__law_names.nd rfl (.inl rfl))
      (dss_cons (ds_set (i := 9) sc__law_names.nd rfl (.inl rfl) (d_op o_add (d_op o_add (d_slice (dv 5) do_none (do_some (dv 6))) (d_ix (dv 2) (d_op o_mod (d_toInt m_int (da_cons (d_op o_add (dv 3) (d_op o_mul d_int (dv 8))) da_nil)) d_int))) (d_slice (dv 5) (do_some (dv 6)) do_none)))
      (dss_one (ds_expr (d_app (dv 7) (da_cons (d_if (dt_cmp (o_notin (u65 hr)) (dv 9) (d_lst (da_cons d_str (da_cons d_str (da_cons d_str (da_cons d_str (da_cons d_str (da_cons d_str (da_cons d_str (da_cons d_str (da_cons d_str (da_cons d_str (da_cons d_str da_nil)))))))))))) (by rfl)) (dv 9) (d_op o_add (d_op o_add d_str (d_ix (dv 2) (dv 8))) d_str)) da_nil))))))
    (dss_fz 7 (dss_one (ds_ret (dv 7)))))))))), fun ws m Qd Qx h => ?_⟩) [] []) G (fun _ _ _ _ _ _ us hl => match us, hl with | [_, _], _ => rfl)
  · obtain ⟨_, _, rfl, _⟩ := h
    rfl
  · obtain ⟨n, k, rfl, hm, hk, q⟩ := h
    refine ⟨n, 26, rfl, hm, by decide, by decide, fun first f0 f1 => ?_⟩
    refine ⟨n, 4, rfl, hm, by decide, by decide, fun lg l0 l1 => ?_⟩
    refine ⟨trivial, ⟨by omega, by omega, ?_⟩⟩
    have el : ∀ r : Int, 0 ≤ r → r < 26 → ∃ c, atI abc.cps.toList r = some c ∧ c ∈ abc.cps.toList := fun r r0 r1 => by
      have z := atI_i (xs := abc.cps.toList) r0 (by rw [abc_len]; omega)
      exact ⟨_, z, atI_mem z⟩
    refine lcL_all (fun _ _ y => ∃ z, y = .str z ∧ z.length = 1 ∧ Letters z) 0 (by rw [rngD_len, sizeLine_eq]; show 0 + _ ≤ _; omega) (fun j d Qt hd hq => ?_) fun ys hys => ?_
    · refine ⟨n, 26, rfl, hm, by decide, by decide, fun r r0 r1 => ?_⟩
      obtain ⟨c, hc, hm2⟩ := el r r0 r1
      refine ⟨by decide +kernel, c, hc, hq _ ⟨_, rfl, rfl, fun c' h' => ?_⟩⟩
      have e : c' = c := by simpa using h'
      rw [e]
      exact hm2
    obtain ⟨zs, rfl, hz⟩ : ∃ zs : List Str, ys = zs.map .str ∧ ∀ z ∈ zs, z.length = 1 ∧ Letters z := by
      clear q
      generalize rngD 0 lg.toNat = its at hys
      generalize 0 = i0 at hys
      induction hys with
      | nil => exact ⟨[], rfl, by simp⟩
      | cons r _ ih =>
        obtain ⟨z, rfl, h1⟩ := r
        obtain ⟨zs, rfl, h2⟩ := ih
        exact ⟨z :: zs, rfl, fun u hu => by
          rcases List.mem_cons.mp hu with rfl | hu
          · exact h1
          · exact h2 _ hu⟩
    have hzl : zs.length = lg.toNat := by
      have z := hys.len
      rw [rngD_len, List.length_map] at z
      exact z.symm
    have tx : ∀ (zs : List Str) (Q : List Str → Prop), Q zs → texts (zs.map D.str) Q := by
      intro zs
      induction zs with
      | nil => exact fun Q h => h
      | cons z zs ih => exact fun Q h => ih (fun bs => Q (z :: bs)) h
    refine tx zs _ ⟨?_, ?_⟩
    · rw [sum_ones zs fun z h => (hz z h).1]
      show zs.length + zs.length * 0 ≤ _
      omega
    obtain ⟨W, eW, hj⟩ : ∃ W : Str, W = Txt.join "" zs ∧ W.length ≤ lg.toNat := ⟨_, rfl, by
      have z := StrLaws.join_length_le "" zs
      rw [← PySem.StrLaws.glued_eq_join, sum_ones zs fun z h => (hz z h).1] at z
      have z2 : (Txt.join "" zs).length ≤ zs.length + zs.length * 0 := z
      omega⟩
    have hWL : Letters W := fun c hc => by
      rw [eW, join_cps] at hc
      obtain ⟨z, hz1, hc⟩ := List.mem_flatMap.mp hc
      exact (hz z hz1).2 c hc
    have hjl : W.length = lg.toNat := by
      have z : (Txt.join "" zs).cps.toList.length = zs.length := by
        rw [join_cps, List.length_flatMap]
        exact sum_ones zs fun z h => (hz z h).1
      rw [Array.length_toList] at z
      rw [eW, ← hzl]
      exact z
    rw [← eW]
    refine ⟨n, lg + 1, rfl, hm, by omega, by omega, fun at0 a0 a1 => ?_⟩
    obtain ⟨fn, rfl⟩ : ∃ n : Nat, first = n := ⟨first.toNat, by omega⟩
    obtain ⟨an, rfl⟩ : ∃ n : Nat, at0 = n := ⟨at0.toNat, by omega⟩
    have W3 : W.length ≤ 3 := by omega
    refine ⟨by decide, by omega, by omega, ?_⟩
    refine sFor0 (fun i en m' => ∃ v8 v9, en = [some (.loc n), some (.v (.int k)), some (.v (.str abc)), some (.v (.int fn)), some (.v (.int lg)), some (.v (.str W)), some (.v (.int an)), some (.loc m.length), v8, v9] ∧ m' = m ++ [.lst ((namesN W fn an i).map .str)]) ⟨none, none, rfl, rfl⟩ ?_ ?_
    · rintro j d en m' N' hd ⟨v8, v9, rfl, rfl⟩ r1 r2 r3 hn
      obtain ⟨rfl, hj2⟩ := rngD_at hd
      have hi26 : j < 26 := by omega
      have l1' := slice_len W none (some (an : Int))
      have l2 := slice_len W (some (an : Int)) none
      have la1 : ∀ j, (abcAt j).length = 1 := fun _ => rfl
      have e1 : ((fn : Int) + 5 * (0 + (j : Int))) % 26 = (((fn + 5 * j) % 26 : Nat) : Int) := by omega
      have ln := sizeLine_eq
      refine ⟨by omega, ?_⟩
      refine ⟨wide_mul (a := 10) (b := 10) (by decide) (by omega) (by omega) (by omega) (by omega), by decide, by decide +kernel, _, (by rw [e1]; exact at_abc (Nat.mod_lt _ (by decide))), ?_⟩
      refine ⟨by show _ + 1 ≤ sizeLine; omega, by omega, ?_⟩
      refine ⟨by rw [Str.length_append]; show _ + 1 + _ ≤ sizeLine; omega, ?_⟩
      refine ⟨lstAt_last trivial, ?_⟩
      have raw : (Txt.slice W none (some (an : Int)) ++ (⟨#[abc.cps.toList.getD ((fn + 5 * j) % 26) 0]⟩ : Str)) ++ Txt.slice W (some (an : Int)) none = rawN W fn an j := rfl
      have done : ∀ z, z = nameN W fn an j → lstAt (m ++ [.lst ((namesN W fn an j).map .str)]) m.length fun ds => ds.length < sizeLine ∧ N'.nx [some (.loc n), some (.v (.int k)), some (.v (.str abc)), some (.v (.int fn)), some (.v (.int lg)), some (.v (.str W)), some (.v (.int an)), some (.loc m.length), some (.v (.int (0 + (j : Nat)))), some (.v (.str (rawN W fn an j)))] ((m ++ [MO.lst ((namesN W fn an j).map D.str)]).set m.length (MO.lst (ds ++ [D.str z]))) := by
        intro z hz
        subst hz
        refine lstAt_last ⟨?_, ?_⟩
        · rw [List.length_map]
          unfold namesN
          rw [List.length_map, List.length_range]
          omega
        · rw [set_last]
          refine (hn _ _ ⟨_, _, rfl, ?_⟩).1
          unfold namesN
          rw [List.range_succ, List.map_append, List.map_append]
          rfl
      have ew : ([D.str "gap", .str "pad", .str "row", .str "pile", .str "grid", .str "clip", .str "hole", .str "room", .str "one", .str "and", .str "or"].any fun y => deq y (.str (rawN W fn an j))) = wordsD.any (fun y => y == rawN W fn an j) := rfl
      refine ⟨by show 11 ≤ sizeLine; omega, rfl, rfl, Nat.zero_le _, by decide, ?_⟩
      refine iteB (fun c => ?_) (fun c => ?_)
      · refine done _ ?_
        have c : (!wordsD.any (fun y => y == rawN W fn an j)) = true := c
        unfold nameN
        rw [if_neg (by rw [Bool.not_eq_true'] at c; rw [c]; decide)]
        rfl
      · have c : (!wordsD.any (fun y => y == rawN W fn an j)) = false := c
        refine ⟨by decide +kernel, _, (by rw [Int.zero_add]; exact at_abc hi26), by show _ + 1 ≤ sizeLine; have : ("z" : Str).length = 1 := rfl; omega, by rw [Str.length_append]; show 1 + 1 + 1 ≤ sizeLine; omega, done _ ?_⟩
        unfold nameN
        rw [if_pos (by simpa using c)]
        rfl
    · rintro en m' ⟨v8, v9, rfl, rfl⟩
      rw [rngD_len]
      have ek : ((k : Nat) : Int).toNat = k := by omega
      rw [ek]
      dsimp only
      refine ret_last rfl ?_
      exact ⟨List.prefix_append _ _, q W fn an W3 hWL (by omega) (by omega)⟩
end
end Fs
set_option Elab.async false
set_option linter.all false
set_option maxRecDepth 100000
set_option maxHeartbeats 8000000
namespace Fs
open PySem PySem.Spec PyProof.Rows L2
def numR (z : Int) : Prop := 0 ≤ z ∧ z ≤ 1000
def alS : List Str := ["start", "middle", "end", "fill"]
/-- a drawn frame with these names, not deeper than n -/
inductive TreeR : Nat → List Str → D → Prop
  | gap (n : Nat) (a b : Int) : numR a → numR b → TreeR n [] (.tup [.str "gap", .int a, .int b])
  | name (n : Nat) (x : Str) : TreeR n [x] (.str x)
  | pad (n : Nat) (ns : List Str) (a b c d : Int) (t : D) : numR a → numR b → numR c → numR d → TreeR n ns t → TreeR (n + 1) ns (.tup [.str "pad", .int a, .int b, .int c, .int d, t])
  | clip (n : Nat) (ns : List Str) (a b : Int) (t : D) : numR a → numR b → TreeR n ns t → TreeR (n + 1) ns (.tup [.str "clip", .int a, .int b, t])
  | grid (n : Nat) (k : Int) (gs : List (List Str × D)) : (k = 1 ∨ k = gs.length) → 2 ≤ gs.length → gs.length ≤ 26 → (∀ g ∈ gs, TreeR n g.1 g.2) → TreeR (n + 1) (gs.flatMap (·.1)) (.tup (.str "grid" :: .int k :: gs.map (·.2)))
  | pile (n : Nat) (gs : List ((List Str × D) × Str × Str)) : 2 ≤ gs.length → gs.length ≤ 26 → (∀ g ∈ gs, g.2.1 ∈ alS ∧ g.2.2 ∈ alS) → (∀ g ∈ gs, TreeR n g.1.1 g.1.2) → TreeR (n + 1) (gs.flatMap (·.1.1)) (.tup (.str "pile" :: gs.map fun g => .tup [g.1.2, .str g.2.1, .str g.2.2]))
  | line (n : Nat) (w : Str) (gs : List ((List Str × D) × Str × Int)) : (w = "row" ∨ w = "column") → 2 ≤ gs.length → gs.length ≤ 26 → (∀ g ∈ gs, g.2.1 ∈ alS ∧ 0 ≤ g.2.2 ∧ g.2.2 ≤ 9) → (∀ g ∈ gs, TreeR n g.1.1 g.1.2) → TreeR (n + 1) (gs.flatMap (·.1.1)) (.tup (.str w :: gs.map fun g => .tup [g.1.2, .str g.2.1, .int g.2.2]))
theorem plain_strs : ∀ ns : List Str, plainL (ns.map .str) = true
  | [] => rfl
  | x :: ns => by
    show (true && plainL (ns.map .str)) = true
    rw [plain_strs ns]
    rfl
theorem dep_strs : ∀ ns : List Str, depL (ns.map .str) = 0
  | [] => rfl
  | x :: ns => by
    show max 0 (depL (ns.map .str)) = 0
    rw [dep_strs ns]
    rfl
theorem dep_strs' (ns : List Str) : depD (.lst (ns.map .str)) ≤ 64 := by
  show depL (ns.map .str) + 1 ≤ 64
  rw [dep_strs]
  decide
/-- a cut behind a statement -/
theorem dseq {t u : DTS} {en : En} {m : Me} {N : Dn} (M : En → Me → Prop) (h : ∀ N' : Dn, N'.rt = N.rt → N'.xc = N.xc → (∀ en' m', M en' m' → N'.nx en' m') → t en m N') (k : ∀ en' m', M en' m' → u en' m' N) : sSeq t u en m N := h { N with nx := fun en1 m1 => u en1 m1 N } rfl rfl fun _ _ z => k _ _ z
theorem map_str_inj : ∀ {a b : List Str}, a.map D.str = b.map .str → a = b
  | [], [], _ => rfl
  | [], _ :: _, h => by cases h
  | _ :: _, [], h => by cases h
  | x :: a, y :: b, h => by
    rw [List.map_cons, List.map_cons] at h
    injection h with h1 h2
    injection h1 with h1
    rw [h1, map_str_inj h2]
theorem all2_tree {k : Nat} : ∀ {gs : List (List Str)} {i : Nat} {ys : List D}, All2 (fun _ d y => ∃ g : List Str, d = .lst (g.map .str) ∧ TreeR k g y) i (gs.map fun g => .lst (g.map .str)) ys → ∃ ps : List (List Str × D), ps.map (·.1) = gs ∧ ps.map (·.2) = ys ∧ ∀ p ∈ ps, TreeR k p.1 p.2
  | [], _, _, h => by
    cases h
    exact ⟨[], rfl, rfl, fun _ h => by cases h⟩
  | g :: gs, i, _, h => by
    rw [List.map_cons] at h
    cases h with
    | cons r t =>
      obtain ⟨g', e, ht⟩ := r
      injection e with e
      have e := map_str_inj e
      subst e
      obtain ⟨ps, h1, h2, h3⟩ := all2_tree t
      exact ⟨(g, _) :: ps, by rw [List.map_cons, h1], by rw [List.map_cons, h2], fun p hp => by
        rcases List.mem_cons.mp hp with rfl | hp
        · exact ht
        · exact h3 p hp⟩
/-- the parts with what is drawn beside them -/
theorem all2_with {α : Type} {C : α → Prop} {f : D → α → D} : ∀ {ps : List (List Str × D)} {i : Nat} {ys : List D}, All2 (fun _ d y => ∃ a, y = f d a ∧ C a) i (ps.map (·.2)) ys → ∃ qs : List ((List Str × D) × α), qs.map (·.1) = ps ∧ ys = qs.map (fun q => f q.1.2 q.2) ∧ ∀ q ∈ qs, C q.2
  | [], _, _, h => by
    cases h
    exact ⟨[], rfl, rfl, fun _ h => by cases h⟩
  | p :: ps, i, _, h => by
    rw [List.map_cons] at h
    cases h with
    | cons r t =>
      obtain ⟨a, rfl, hc⟩ := r
      obtain ⟨qs, h1, h2, h3⟩ := all2_with t
      exact ⟨(p, a) :: qs, by rw [List.map_cons, h1], by rw [List.map_cons, h2], fun q hq => by
        rcases List.mem_cons.mp hq with rfl | hq
        · exact hc
        · exact h3 q hq⟩
theorem flat_singles : ∀ ns : List Str, (ns.map fun x => [x]).flatten = ns
  | [] => rfl
  | x :: ns => by rw [List.map_cons, List.flatten_cons, flat_singles ns]; rfl
theorem flat_of {α : Type} {qs : List ((List Str × D) × α)} {ps : List (List Str × D)} {gs : List (List Str)} (h1 : qs.map (·.1) = ps) (h2 : ps.map (·.1) = gs) : qs.flatMap (·.1.1) = gs.flatten := by
  subst h1 h2
  rw [List.map_map, List.flatMap_def]
  rfl
def spAlignD : SpD := fun ws m Q _ => ∃ n, ws = [.loc n] ∧ m[n]? = some .bag ∧ ∀ a ∈ alS, Q (.v (.str a)) m
def spNumberD : SpD := fun ws m Q _ => ∃ n, ws = [.loc n] ∧ m[n]? = some .bag ∧ ∀ a, numR a → Q (.v (.int a)) m
/-- f = 0: never; f + 1: deep + 1 = f -/
def spTreeD : Nat → SpD
  | 0 => fun _ _ _ _ => False
  | f + 1 => fun ws m Q _ => ∃ (n : Nat) (names : List Str), ws = [.loc n, .v (.lst (names.map .str)), .v (.int ((f : Int) - 1))] ∧ m[n]? = some .bag ∧ names.length ≤ 26 ∧ (f = 0 → names.length ≤ 1) ∧ ∀ d, TreeR f names d → Q (.v d) m
section
variable {P : Program} {w : World} {K : Frag} {mg : Str → Option Value} {base : Heap}
abbrev s__law_align : Stmt := top 15
abbrev N__law_align : List Str := ["_law_bag_here"]
abbrev P__law_align : List Str := ["_law_bag_here"]
theorem sc__law_align : FnScope N__law_align P__law_align (defScope s__law_align) := ⟨rfl, rfl, rfl, by decide +kernel, rfl, by decide +kernel, by decide +kernel⟩
theorem dd__law_align (G : Gs K mg "_law_align" s__law_align) (g__law_of : Gd P w K mg base (L2.CX P w) 2 "_law_of" P__law_of (lift K spOfD)) : Gd P w K mg base (L2.CX P w) 3 "_law_align" P__law_align (lift K spAlignD) := by
  refine Fo.gd (fo_d sc__law_align (fun ws m Q Qx h => ?_) (fun f cdv A outer s H E hr => ⟨_, (dss_one (ds_ret (d_call g__law_of (hr.mono (by omega)) (passE (takes_of rfl rfl rfl rfl)) (da_cons (dv 0) (da_cons (d_lst (da_cons d_str (da_cons d_str (da_cons d_str (da_cons d_str da_nil))))) da_nil))))), fun ws m Qd Qx h => ?_⟩) [] []) G (fun _ _ _ _ _ _ us hl => match us, hl with | [_], _ => rfl)
  · obtain ⟨_, rfl, _⟩ := h
    rfl
  · obtain ⟨n, rfl, hm, q⟩ := h
    refine ⟨by show 4 ≤ sizeLine; decide, n, _, [.str "start", .str "middle", .str "end", .str "fill"], rfl, hm, .inl rfl, by simp, by show 4 < 2 ^ 64; decide, fun d hd => ?_⟩
    obtain ⟨a, rfl, ha⟩ : ∃ a, d = .str a ∧ a ∈ alS := by
      simp only [List.mem_cons, List.not_mem_nil, or_false] at hd
      rcases hd with rfl | rfl | rfl | rfl <;> exact ⟨_, rfl, by unfold alS; simp⟩
    exact ⟨List.prefix_refl _, q a ha⟩
abbrev s__law_number : Stmt := top 16
abbrev N__law_number : List Str := ["_law_bag_here"]
abbrev P__law_number : List Str := ["_law_bag_here"]
theorem sc__law_number : FnScope N__law_number P__law_number (defScope s__law_number) := ⟨rfl, rfl, rfl, by decide +kernel, rfl, by decide +kernel, by decide +kernel⟩
theorem dd__law_number (G : Gs K mg "_law_number" s__law_number) (g__law_of : Gd P w K mg base (L2.CX P w) 2 "_law_of" P__law_of (lift K spOfD)) (g__law_pull : Gd P w K mg base (L2.CX P w) 1 "_law_pull" P__law_pull (lift K spPullD)) : Gd P w K mg base (L2.CX P w) 3 "_law_number" P__law_number (lift K spNumberD) := by
  refine Fo.gd (fo_d sc__law_number (fun ws m Q Qx h => ?_) (fun f cdv A outer s H E hr => ⟨_, (dss_one (ds_ret (d_call g__law_of (hr.mono (by omega)) (passE (takes_of rfl rfl rfl rfl)) (da_cons (dv 0) (da_cons (d_lst (da_cons d_int (da_cons d_int (da_cons (d_call g__law_pull (hr.mono (by omega)) (passE (takes_of rfl rfl rfl rfl)) (da_cons (dv 0) (da_cons d_int da_nil))) (da_cons (d_call g__law_pull (hr.mono (by omega)) (passE (takes_of rfl rfl rfl rfl)) (da_cons (dv 0) (da_cons d_int da_nil))) da_nil))))) da_nil))))), fun ws m Qd Qx h => ?_⟩) [] []) G (fun _ _ _ _ _ _ us hl => match us, hl with | [_], _ => rfl)
  · obtain ⟨_, rfl, _⟩ := h
    rfl
  · obtain ⟨n, rfl, hm, q⟩ := h
    refine ⟨n, 12, rfl, hm, by decide, by decide, fun a a0 a1 => ?_⟩
    refine ⟨n, 1001, rfl, hm, by decide, by decide, fun b b0 b1 => ?_⟩
    refine ⟨by show 4 ≤ sizeLine; decide, n, _, [.int 0, .int 1, .int a, .int b], rfl, hm, .inl rfl, by simp, by show 4 < 2 ^ 64; decide, fun d hd => ?_⟩
    obtain ⟨a, rfl, ha⟩ : ∃ a, d = .int a ∧ numR a := by
      simp only [List.mem_cons, List.not_mem_nil, or_false] at hd
      rcases hd with rfl | rfl | rfl | rfl <;> exact ⟨_, rfl, by unfold numR; omega⟩
    exact ⟨List.prefix_refl _, q a ha⟩
abbrev s__law_tree : Stmt := top 17
abbrev N__law_tree : List Str := ["_law_bag_here", "_law_names_here", "_law_deep", "_law_way", "_law_some", "_law_inner_here", "_law_at", "_law_groups", "_law_parts", "_law_word", "_law_many", "_law_k", "_law_name", "_law_group", "_law_part"]
abbrev P__law_tree : List Str := ["_law_bag_here", "_law_names_here", "_law_deep"]
abbrev O__law_tree_0 : List (Str × Nat) := [("_law_k", 11)]
abbrev O__law_tree_1 : List (Str × Nat) := [("_law_name", 12)]
abbrev O__law_tree_2 : List (Str × Nat) := [("_law_group", 13)]
abbrev O__law_tree_3 : List (Str × Nat) := [("_law_part", 14)]
abbrev O__law_tree_4 : List (Str × Nat) := [("_law_part", 14)]
theorem sc__law_tree : FnScope N__law_tree P__law_tree (defScope s__law_tree) := ⟨rfl, rfl, rfl, by decide +kernel, rfl, by decide +kernel, by decide +kernel⟩
theorem dd__law_tree (G : Gs K mg "_law_tree" s__law_tree) (m_range : mg "range" = none) (m_len : mg "len" = none) (m_tuple : mg "tuple" = none) (m_int : mg "int" = none) (g__law_number : Gd P w K mg base (L2.CX P w) 3 "_law_number" P__law_number (lift K spNumberD)) (g__law_pull : Gd P w K mg base (L2.CX P w) 1 "_law_pull" P__law_pull (lift K spPullD)) (g__law_of : Gd P w K mg base (L2.CX P w) 2 "_law_of" P__law_of (lift K spOfD)) (g__law_align : Gd P w K mg base (L2.CX P w) 3 "_law_align" P__law_align (lift K spAlignD)) :
    ∀ n : Nat, Gd P w K mg base (L2.CX P w) (n + 4) "_law_tree" P__law_tree (lift K (spTreeD n)) := by
  intro n
  induction n with
  | zero =>
    refine Fo.gd (fo_okX sc__law_tree (fun vs H Q E h => ?_) (fun f cdv A outer s H vs Q E hr h => ?_)) G (fun _ _ _ _ _ _ us hl => match us, hl with | [_, _, _], _ => rfl)
    · obtain ⟨_, _, _, _, _, _, _, r, f, _⟩ := h
      exact f.elim
    · obtain ⟨_, _, _, _, _, _, _, r, f, _⟩ := h
      exact f.elim
  | succ n g__law_tree =>
  refine Fo.gd (fo_d sc__law_tree (fun ws m Q Qx h => ?_) (fun f cdv A outer s H E hr => ⟨_, (dss_cons (ds_par (i := 3) (j := 4) rfl sc__law_tree.nd rfl rfl (by decide) rfl rfl (da_cons (d_call g__law_pull (hr.mono (by omega)) (passE (takes_of rfl rfl rfl rfl)) (da_cons (dv 0) (da_cons d_int da_nil))) (da_cons (d_lc (own := O__law_tree_0) rfl sc__law_tree.nd (di_range1 m_range (da_cons d_int da_nil)) (blkOk_by (own := O__law_tree_0) (N := N__law_tree) (sc := defScope s__law_tree) (by decide +kernel)) (fun _ _ _ _ _ => (dg_name (i := 11) sc__law_tree.nd rfl (.inl rfl))) (fun _ _ _ _ _ => dts_nil) (fun _ _ _ _ _ => (d_call g__law_number (hr.mono (by omega)) passF (da_cons (dv 0) da_nil)))) da_nil)) (by rfl))
    (dss_cons (ds_if (dt_cmp (o_eq (u64 hr)) (dv 1) (d_lst da_nil) (nomark _))
      (dss_one (ds_ret (d_tup (da_cons d_str (da_cons (d_ix (dv 4) d_int) (da_cons (d_ix (dv 4) d_int) da_nil))))))
      dss_nil)
    (dss_cons (ds_if (DW.dt (dw_and (dt_cmp (o_eq (u64 hr)) (d_len m_len (da_cons (dv 1) da_nil)) d_int (nomark _)) (dw_and1 (DW.dt (dw_or (dt_cmp o_lt (dv 2) d_int (nomark _)) (dw_or1 (dt_cmp o_gt (dv 3) d_int (nomark _))))))))
      (dss_one (ds_ret (d_ix (dv 1) d_int)))
      dss_nil)
    (dss_cons (ds_if (DW.dt (dw_and (dt_cmp o_lt (dv 3) d_int (nomark _)) (dw_and1 (dt_cmp o_gt (dv 2) d_int (nomark _)))))
      (dss_cons (ds_set (i := 5) sc__law_tree.nd rfl (.inl rfl) (d_call g__law_tree (hr.mono (by omega)) (passE (takes_of rfl rfl rfl rfl)) (da_cons (dv 0) (da_cons (dv 1) (da_cons (d_op o_sub (dv 2) d_int) da_nil)))))
      (dss_one (ds_ret (d_if (dt_cmp (o_eq (u64 hr)) (dv 3) d_int (nomark _)) (d_tuple m_tuple (da_cons (d_op o_add (d_op o_add (d_lst (da_cons d_str da_nil)) (dv 4)) (d_lst (da_cons (dv 5) da_nil))) da_nil)) (d_tup (da_cons d_str (da_cons (d_ix (dv 4) d_int) (da_cons (d_ix (dv 4) d_int) (da_cons (dv 5) da_nil)))))))))
      dss_nil)
    (dss_cons (ds_set (i := 6) sc__law_tree.nd rfl (.inl rfl) (d_call g__law_pull (hr.mono (by omega)) (passE (takes_of rfl rfl rfl rfl)) (da_cons (dv 0) (da_cons (d_op o_add (d_len m_len (da_cons (dv 1) da_nil)) d_int) da_nil))))
    (dss_cons (ds_set (i := 7) sc__law_tree.nd rfl (.inl rfl) (d_if (dt_cmp o_gt (dv 2) d_int (nomark _)) (d_lst (da_cons (d_slice (dv 1) do_none (do_some (dv 6))) (da_cons (d_slice (dv 1) (do_some (dv 6)) do_none) da_nil))) (d_lc (own := O__law_tree_1) rfl sc__law_tree.nd (di_seq (dv 1)) (blkOk_by (own := O__law_tree_1) (N := N__law_tree) (sc := defScope s__law_tree) (by decide +kernel)) (fun _ _ _ _ _ => (dg_name (i := 12) sc__law_tree.nd rfl (.inl rfl))) (fun _ _ _ _ _ => dts_nil) (fun _ _ _ _ _ => (d_lst (da_cons (dv 12) da_nil))))))
    (dss_cons (ds_setLc (i := 8) rfl rfl (sw_true rfl rfl rfl (by decide +kernel)) (own := O__law_tree_2) rfl sc__law_tree.nd (di_seq (dv 7)) (blkOk_by (own := O__law_tree_2) (N := N__law_tree) (sc := defScope s__law_tree) (by decide +kernel)) (fun _ _ _ _ _ => (dg_name (i := 13) sc__law_tree.nd rfl (.inl rfl))) (fun _ _ _ _ _ => dts_nil) (fun _ _ _ _ _ => (d_call g__law_tree (hr.mono (by omega)) passF (da_cons (dv 0) (da_cons (dv 13) (da_cons (d_op o_sub (dv 2) d_int) da_nil))))))
    (dss_cons (ds_if (dt_cmp (o_eq (u64 hr)) (dv 3) d_int (nomark _))
      (dss_one (ds_ret (d_tuple m_tuple (da_cons (d_op o_add (d_lst (da_cons d_str (da_cons (d_call g__law_of (hr.mono (by omega)) (passE (takes_of rfl rfl rfl rfl)) (da_cons (dv 0) (da_cons (d_lst (da_cons d_int (da_cons (d_len m_len (da_cons (dv 8) da_nil)) da_nil))) da_nil))) da_nil))) (dv 8)) da_nil))))
      dss_nil)
    (dss_cons (ds_if (dt_cmp o_lt (dv 3) d_int (nomark _))
      (dss_one (ds_ret (d_tuple m_tuple (da_cons (d_op o_add (d_lst (da_cons d_str da_nil)) (d_lc (own := O__law_tree_3) rfl sc__law_tree.nd (di_seq (dv 8)) (blkOk_by (own := O__law_tree_3) (N := N__law_tree) (sc := defScope s__law_tree) (by decide +kernel)) (fun _ _ _ _ _ => (dg_name (i := 14) sc__law_tree.nd rfl (.inl rfl))) (fun _ _ _ _ _ => dts_nil) (fun _ _ _ _ _ => (d_tup (da_cons (dv 14) (da_cons (d_call g__law_align (hr.mono (by omega)) passF (da_cons (dv 0) da_nil)) (da_cons (d_call g__law_align (hr.mono (by omega)) passF (da_cons (dv 0) da_nil)) da_nil))))))) da_nil))))
      dss_nil)
    (dss_cons (ds_asg (d_tup (da_cons (d_call g__law_of (hr.mono (by omega)) (passE (takes_of rfl rfl rfl rfl)) (da_cons (dv 0) (da_cons (d_lst (da_cons d_str (da_cons d_str da_nil))) da_nil))) (da_cons (d_op o_mod (d_toInt m_int (da_cons (d_ix (dv 4) d_int) da_nil)) d_int) da_nil))) (dg_tup rfl (dgs_cons (dg_name (i := 9) sc__law_tree.nd rfl (.inl rfl)) (dgs_cons (dg_name (i := 10) sc__law_tree.nd rfl (.inr rfl)) dgs_nil))))
    (dss_one (ds_ret (d_tuple m_tuple (da_cons (d_op o_add (d_lst (da_cons (dv 9) da_nil)) (d_lc (own := O__law_tree_4) rfl sc__law_tree.nd (di_seq (dv 8)) (blkOk_by (own := O__law_tree_4) (N := N__law_tree) (sc := defScope s__law_tree) (by decide +kernel)) (fun _ _ _ _ _ => (dg_name (i := 14) sc__law_tree.nd rfl (.inl rfl))) (fun _ _ _ _ _ => dts_nil) (fun _ _ _ _ _ => (d_tup (da_cons (dv 14) (da_cons (d_call g__law_align (hr.mono (by omega)) passF (da_cons (dv 0) da_nil)) (da_cons (d_call g__law_of (hr.mono (by omega)) passF (da_cons (dv 0) (da_cons (d_lst (da_cons d_int (da_cons d_int (da_cons d_int (da_cons (dv 10) da_nil))))) da_nil))) da_nil))))))) da_nil)))))))))))))), fun ws m Qd Qx h => ?_⟩) [] []) G (fun _ _ _ _ _ _ us hl => match us, hl with | [_, _, _], _ => rfl)
  · obtain ⟨_, _, rfl, _⟩ := h
    rfl
  · obtain ⟨b, names, rfl, hm, hl, h01, q⟩ := h
    have ln := sizeLine_eq
    refine ⟨b, 9, rfl, hm, by decide, by decide, fun way w0 w1 => ?_⟩
    refine ⟨by decide, by decide, lcL_all (fun _ _ y => ∃ a, y = .int a ∧ numR a) 0 (by rw [rngD_len]; show 0 + 4 ≤ _; omega) (fun j d Qt hd hq => ⟨b, rfl, hm, fun a ha => hq _ ⟨a, rfl, ha⟩⟩) fun ys hys => ?_⟩
    obtain ⟨a1, a2, a3, a4, rfl, n1, n2, n3, n4⟩ : ∃ a b c d, ys = [.int a, .int b, .int c, .int d] ∧ numR a ∧ numR b ∧ numR c ∧ numR d := by
      have hy : All2 (fun _ _ y => ∃ a, y = .int a ∧ numR a) 0 [.int 0, .int 1, .int 2, .int 3] ys := hys
      cases hy with
      | cons r1 t1 => cases t1 with
        | cons r2 t2 => cases t2 with
          | cons r3 t3 => cases t3 with
            | cons r4 t4 =>
              cases t4
              obtain ⟨a, rfl, ha⟩ := r1
              obtain ⟨b, rfl, hb⟩ := r2
              obtain ⟨c, rfl, hc⟩ := r3
              obtain ⟨d, rfl, hd⟩ := r4
              exact ⟨a, b, c, d, rfl, ha, hb, hc, hd⟩
    clear hys
    by_cases h0 : names = []
    · subst h0
      exact ⟨Nat.zero_le _, rfl, rfl, Nat.le_of_ble_eq_true rfl, Nat.le_of_ble_eq_true rfl, _, rfl, _, rfl, by show 3 ≤ sizeLine; omega, List.prefix_refl _, q _ (.gap _ _ _ n1 n2)⟩
    have hpos : 0 < names.length := List.length_pos_iff.mpr h0
    refine ⟨Nat.zero_le _, plain_strs names, rfl, dep_strs' names, Nat.le_of_ble_eq_true rfl, ite_no ?_ ?_⟩
    · cases names with
      | nil => exact absurd rfl h0
      | cons x xs => rfl
    dsimp only [sNx]
    refine dseq (fun en' m' => en' = [some (.loc b), some (.v (.lst (names.map .str))), some (.v (.int ((n : Int) - 1))), some (.v (.int way)), some (.v (.lst [.int a1, .int a2, .int a3, .int a4])), none, none, none, none, none, none, none, none, none, none] ∧ m' = m ∧ (n < 2 → 2 ≤ names.length)) (fun N' r1 r2 hn => ?_) ?_
    · refine ⟨rfl, rfl, Nat.zero_le _, Nat.zero_le _, iteB (fun c1 => ?_) (fun c1 => ?_)⟩
      · have c1 : (((names.map D.str).length : Nat) : Int) = 1 := eq_of_beq c1
        rw [List.length_map] at c1
        obtain ⟨x, hx⟩ : ∃ x, names = [x] := len1d (by omega)
        subst hx
        have ret : N'.rt (.v (.str x)) m := by
          rw [r1]
          exact ⟨List.prefix_refl _, q _ (.name _ _)⟩
        refine iteB (fun c2 => ?_) (fun c2 => iteB (fun c3 => ?_) (fun c3 => ?_))
        · exact iteT ⟨_, rfl, ret⟩
        · exact ⟨_, rfl, ret⟩
        · have c2 : ¬ ((n : Int) - 1 < 1) := of_decide_eq_false c2
          exact hn _ _ ⟨rfl, rfl, fun h => by omega⟩
      · have c1 : (((names.map D.str).length : Nat) : Int) ≠ 1 := fun z => by
          have c1 : ((((names.map D.str).length : Nat) : Int) == 1) = false := c1
          rw [z] at c1
          cases c1
        rw [List.length_map] at c1
        exact hn _ _ ⟨rfl, rfl, fun h => by omega⟩
    rintro en' m' ⟨rfl, rfl, h2⟩
    have n1' : n ≠ 0 := fun z => by
      have := h2 (by omega)
      have := h01 z
      omega
    obtain ⟨k, rfl⟩ : ∃ k, n = k + 1 := ⟨n - 1, by omega⟩
    have dk : ((k + 1 : Nat) : Int) - 1 - 1 = (k : Int) - 1 := by omega
    refine dseq (fun en' m2 => en' = [some (.loc b), some (.v (.lst (names.map .str))), some (.v (.int (((k + 1 : Nat) : Int) - 1))), some (.v (.int way)), some (.v (.lst [.int a1, .int a2, .int a3, .int a4])), none, none, none, none, none, none, none, none, none, none] ∧ m2 = m') (fun N' r1 r2 hn => ?_) ?_
    · refine iteB (fun c1 => iteB (fun c2 => ?_) (fun c2 => hn _ _ ⟨rfl, rfl⟩)) (fun c1 => hn _ _ ⟨rfl, rfl⟩)
      have c2 : (((k + 1 : Nat) : Int) - 1) > 0 := of_decide_eq_true c2
      refine ⟨b, names, by rw [dk], hm, hl, fun z => by omega, fun d hd => ?_⟩
      refine ⟨rfl, rfl, Nat.zero_le _, Nat.zero_le _, iteB (fun c3 => ?_) (fun c3 => ?_)⟩
      · refine ⟨by show 1 ≤ sizeLine; omega, by show 1 + 4 ≤ sizeLine; omega, by show 1 ≤ sizeLine; omega, by show 5 + 1 ≤ sizeLine; omega, ?_⟩
        rw [r1]
        exact ⟨List.prefix_refl _, q _ (.pad _ _ _ _ _ _ _ n1 n2 n3 n4 hd)⟩
      · refine ⟨_, rfl, _, rfl, by show 4 ≤ sizeLine; omega, ?_⟩
        rw [r1]
        exact ⟨List.prefix_refl _, q _ (.clip _ _ _ _ _ n1 n2 hd)⟩
    rintro en' m2 ⟨rfl, rfl⟩
    have nl : (((names.map D.str).length : Nat) : Int) = (names.length : Int) := by rw [List.length_map]
    refine ⟨b, (((names.map D.str).length : Nat) : Int) + 1, rfl, hm, by omega, by omega, fun at_ at0 at1 => ?_⟩
    obtain ⟨at_, rfl⟩ : ∃ x : Nat, at_ = x := ⟨at_.toNat, by omega⟩
    dsimp only
    refine dseq (fun en' m3 => ∃ gs : List (List Str), en' = [some (.loc b), some (.v (.lst (names.map .str))), some (.v (.int (((k + 1 : Nat) : Int) - 1))), some (.v (.int way)), some (.v (.lst [.int a1, .int a2, .int a3, .int a4])), none, some (.v (.int (at_ : Int))), some (.v (.lst (gs.map fun g => .lst (g.map .str)))), none, none, none, none, none, none, none] ∧ m3 = m2 ∧ gs.flatten = names ∧ 2 ≤ gs.length ∧ gs.length ≤ 26 ∧ ∀ g ∈ gs, g.length ≤ 26 ∧ (k = 0 → g.length ≤ 1)) (fun N' r1 r2 hn => ?_) ?_
    · refine iteB (fun c1 => ?_) (fun c1 => ?_)
      · have c1 : (((k + 1 : Nat) : Int) - 1) > 0 := of_decide_eq_true c1
        refine ⟨by show 2 ≤ sizeLine; omega, ?_⟩
        rw [cutD_to, cutD_from, ← List.map_take, ← List.map_drop]
        exact hn _ _ ⟨[names.take at_, names.drop at_], rfl, rfl, by simp, Nat.le_refl 2, by show 2 ≤ 26; decide, fun g hg => by
          simp only [List.mem_cons, List.not_mem_nil, or_false] at hg
          rcases hg with rfl | rfl
          · exact ⟨by rw [List.length_take]; omega, fun z => by omega⟩
          · exact ⟨by rw [List.length_drop]; omega, fun z => by omega⟩⟩
      · have c1 : ¬ (((k + 1 : Nat) : Int) - 1) > 0 := of_decide_eq_false c1
        have k0 : k = 0 := by omega
        have two := h2 (by omega)
        refine lcL_map (fun d => .lst [d]) (by rw [List.length_map]; show 0 + _ ≤ _; omega) (fun d Qt hd hq => ⟨by show 1 ≤ sizeLine; omega, hq⟩) ?_
        rw [List.nil_append, List.map_map]
        exact hn _ _ ⟨names.map fun x => [x], by rw [List.map_map]; rfl, rfl, flat_singles names, by rw [List.length_map]; exact two, by rw [List.length_map]; exact hl, fun g hg => by
          obtain ⟨x, _, rfl⟩ := List.mem_map.mp hg
          exact ⟨by show 1 ≤ 26; decide, fun _ => Nat.le_refl _⟩⟩
    rintro en' m3 ⟨gs, rfl, rfl, hf, g2, g26, hg⟩
    refine lcL_all (fun _ d y => ∃ g : List Str, d = .lst (g.map .str) ∧ TreeR k g y) 0 (by rw [List.length_map]; show 0 + _ ≤ _; omega) (fun j d Qt hd hq => ?_) fun ys hys => ?_
    · obtain ⟨g, hgm, rfl⟩ := List.mem_map.mp (List.mem_of_getElem? hd)
      exact ⟨b, g, by rw [dk], hm, (hg g hgm).1, (hg g hgm).2, fun d hd => hq _ ⟨g, rfl, hd⟩⟩
    obtain ⟨ps, p1, p2, p3⟩ := all2_tree hys
    have pl : ps.length = gs.length := by rw [← p1, List.length_map]
    subst p2
    clear hys
    have yl : (ps.map (·.2)).length = ps.length := List.length_map _
    dsimp only
    refine dseq (fun en' m4 => en' = [some (.loc b), some (.v (.lst (names.map .str))), some (.v (.int (((k + 1 : Nat) : Int) - 1))), some (.v (.int way)), some (.v (.lst [.int a1, .int a2, .int a3, .int a4])), none, some (.v (.int (at_ : Int))), some (.v (.lst (gs.map fun g => .lst (g.map .str)))), some (.v (.lst (ps.map (·.2)))), none, none, none, none, none, none] ∧ m4 = m3) (fun N' r1 r2 hn => ?_) ?_
    · refine ⟨rfl, rfl, Nat.zero_le _, Nat.zero_le _, iteB (fun c1 => ?_) (fun c1 => hn _ _ ⟨rfl, rfl⟩)⟩
      refine ⟨by show 2 ≤ sizeLine; omega, b, _, [.int 1, .int (((ps.map (·.2)).length : Nat) : Int)], rfl, hm, .inl rfl, by simp, by show 2 < 2 ^ 64; decide, fun d hd => ?_⟩
      obtain ⟨z, rfl, hz⟩ : ∃ z : Int, d = .int z ∧ (z = 1 ∨ z = (ps.length : Int)) := by
        simp only [List.mem_cons, List.not_mem_nil, or_false] at hd
        rcases hd with rfl | rfl
        · exact ⟨_, rfl, .inl rfl⟩
        · exact ⟨_, rfl, .inr (by rw [yl])⟩
      refine ⟨by show 2 ≤ sizeLine; omega, by show 2 + (ps.map (·.2)).length ≤ sizeLine; omega, ?_⟩
      rw [r1]
      refine ⟨List.prefix_refl _, q _ ?_⟩
      have t := TreeR.grid k z ps hz (by omega) (by omega) p3
      rw [List.flatMap_def, p1, hf] at t
      exact t
    rintro en' m4 ⟨rfl, rfl⟩
    refine dseq (fun en' m5 => en' = [some (.loc b), some (.v (.lst (names.map .str))), some (.v (.int (((k + 1 : Nat) : Int) - 1))), some (.v (.int way)), some (.v (.lst [.int a1, .int a2, .int a3, .int a4])), none, some (.v (.int (at_ : Int))), some (.v (.lst (gs.map fun g => .lst (g.map .str)))), some (.v (.lst (ps.map (·.2)))), none, none, none, none, none, none] ∧ m5 = m4) (fun N' r1 r2 hn => ?_) ?_
    · refine iteB (fun c1 => ?_) (fun c1 => hn _ _ ⟨rfl, rfl⟩)
      refine ⟨by show 1 ≤ sizeLine; omega, lcL_all (fun _ d y => ∃ a : Str × Str, y = (fun (d : D) (a : Str × Str) => .tup [d, .str a.1, .str a.2]) d a ∧ a.1 ∈ alS ∧ a.2 ∈ alS) 0 (by show 0 + _ ≤ _; omega) (fun j d Qt hd hq => ?_) fun ys hys => ?_⟩
      · exact ⟨b, rfl, hm, fun a ha => ⟨b, rfl, hm, fun c hc => ⟨by show 3 ≤ sizeLine; omega, hq _ ⟨(a, c), rfl, ha, hc⟩⟩⟩⟩
      · obtain ⟨qs, q1, rfl, q3⟩ := all2_with hys
        have ql : qs.length = ps.length := by rw [← q1, List.length_map]
        refine ⟨by show 1 + (qs.map _).length ≤ sizeLine; rw [List.length_map]; omega, ?_⟩
        rw [r1]
        refine ⟨List.prefix_refl _, q _ ?_⟩
        have t := TreeR.pile k qs (by omega) (by omega) q3 (fun g hg => p3 g.1 (by rw [← q1]; exact List.mem_map_of_mem hg))
        rw [flat_of q1 p1, hf] at t
        exact t
    rintro en' m5 ⟨rfl, rfl⟩
    refine ⟨by show 2 ≤ sizeLine; omega, b, _, [.str "row", .str "column"], rfl, hm, .inl rfl, by simp, by show 2 < 2 ^ 64; decide, fun d hd => ?_⟩
    obtain ⟨word, rfl, hw⟩ : ∃ z : Str, d = .str z ∧ (z = "row" ∨ z = "column") := by
      simp only [List.mem_cons, List.not_mem_nil, or_false] at hd
      rcases hd with rfl | rfl
      · exact ⟨_, rfl, .inl rfl⟩
      · exact ⟨_, rfl, .inr rfl⟩
    refine ⟨_, rfl, by decide, by show 2 ≤ sizeLine; omega, rfl, ?_⟩
    refine ⟨by show 1 ≤ sizeLine; omega, lcL_all (fun _ d y => ∃ a : Str × Int, y = (fun (d : D) (a : Str × Int) => .tup [d, .str a.1, .int a.2]) d a ∧ a.1 ∈ alS ∧ 0 ≤ a.2 ∧ a.2 ≤ 9) 0 (by show 0 + _ ≤ _; omega) (fun j d Qt hd hq => ?_) fun ys hys => ?_⟩
    · refine ⟨b, rfl, hm, fun a ha => ⟨by show 4 ≤ sizeLine; omega, b, _, [.int 0, .int 0, .int 1, .int (a1 % 10)], rfl, hm, .inl rfl, by simp, by show 4 < 2 ^ 64; decide, fun d2 hd2 => ?_⟩⟩
      obtain ⟨z, rfl, z0, z9⟩ : ∃ z : Int, d2 = .int z ∧ 0 ≤ z ∧ z ≤ 9 := by
        simp only [List.mem_cons, List.not_mem_nil, or_false] at hd2
        rcases hd2 with rfl | rfl | rfl | rfl <;> exact ⟨_, rfl, by omega, by omega⟩
      exact ⟨by show 3 ≤ sizeLine; omega, hq _ ⟨(a, z), rfl, ha, z0, z9⟩⟩
    · obtain ⟨qs, q1, rfl, q3⟩ := all2_with hys
      have ql : qs.length = ps.length := by rw [← q1, List.length_map]
      refine ⟨by show 1 + (qs.map _).length ≤ sizeLine; rw [List.length_map]; omega, List.prefix_refl _, q _ ?_⟩
      have t := TreeR.line k word qs hw (by omega) (by omega) q3 (fun g hg => p3 g.1 (by rw [← q1]; exact List.mem_map_of_mem hg))
      rw [flat_of q1 p1, hf] at t
      exact t
end
end Fs
set_option Elab.async false
set_option linter.all false
set_option maxRecDepth 100000
set_option maxHeartbeats 8000000
namespace Fs
open PySem PySem.Spec PyProof.Rows L2
def spTreeU (N : Nat) : SpD := fun ws m Q _ => ∃ f, f < N ∧ ∃ (n : Nat) (names : List Str), ws = [.loc n, .v (.lst (names.map .str)), .v (.int ((f : Int) - 1))] ∧ m[n]? = some .bag ∧ names.length ≤ 26 ∧ (f = 0 → names.length ≤ 1) ∧ ∀ d, TreeR f names d → Q (.v d) m
section
variable {P : Program} {w : World} {K : Frag} {mg : Str → Option Value} {base : Heap}
theorem dd__law_treeU (G : Gs K mg "_law_tree" s__law_tree) (m_range : mg "range" = none) (m_len : mg "len" = none) (m_tuple : mg "tuple" = none) (m_int : mg "int" = none) (g__law_number : Gd P w K mg base (L2.CX P w) 3 "_law_number" P__law_number (lift K spNumberD)) (g__law_pull : Gd P w K mg base (L2.CX P w) 1 "_law_pull" P__law_pull (lift K spPullD)) (g__law_of : Gd P w K mg base (L2.CX P w) 2 "_law_of" P__law_of (lift K spOfD)) (g__law_align : Gd P w K mg base (L2.CX P w) 3 "_law_align" P__law_align (lift K spAlignD)) :
    ∀ N : Nat, Gd P w K mg base (L2.CX P w) (N + 4) "_law_tree" P__law_tree (lift K (spTreeU N)) := by
  intro N
  induction N with
  | zero =>
    refine Fo.gd (fo_okX sc__law_tree (fun vs H Q E h => ?_) (fun f cdv A outer s H vs Q E hr h => ?_)) G (fun _ _ _ _ _ _ us hl => match us, hl with | [_, _, _], _ => rfl)
    · obtain ⟨_, _, _, _, _, _, _, r, ⟨_, f, _⟩, _⟩ := h
      exact absurd f (Nat.not_lt_zero _)
    · obtain ⟨_, _, _, _, _, _, _, r, ⟨_, f, _⟩, _⟩ := h
      exact absurd f (Nat.not_lt_zero _)
  | succ N g__law_tree =>
  refine Fo.gd (fo_d sc__law_tree (fun ws m Q Qx h => ?_) (fun f cdv A outer s H E hr => ⟨_, (dss_cons (ds_par (i := 3) (j := 4) rfl sc__law_tree.nd rfl rfl (by decide) rfl rfl (da_cons (d_call g__law_pull (hr.mono (by omega)) (passE (takes_of rfl rfl rfl rfl)) (da_cons (dv 0) (da_cons d_int da_nil))) (da_cons (d_lc (own := O__law_tree_0) rfl sc__law_tree.nd (di_range1 m_range (da_cons d_int da_nil)) (blkOk_by (own := O__law_tree_0) (N := N__law_tree) (sc := defScope s__law_tree) (by decide +kernel)) (fun _ _ _ _ _ => (dg_name (i := 11) sc__law_tree.nd rfl (.inl rfl))) (fun _ _ _ _ _ => dts_nil) (fun _ _ _ _ _ => (d_call g__law_number (hr.mono (by omega)) passF (da_cons (dv 0) da_nil)))) da_nil)) (by rfl))
    (dss_cons (ds_if (dt_cmp (o_eq (u64 hr)) (dv 1) (d_lst da_nil) (nomark _))
      (dss_one (ds_ret (d_tup (da_cons d_str (da_cons (d_ix (dv 4) d_int) (da_cons (d_ix (dv 4) d_int) da_nil))))))
      dss_nil)
    (dss_cons (ds_if (DW.dt (dw_and (dt_cmp (o_eq (u64 hr)) (d_len m_len (da_cons (dv 1) da_nil)) d_int (nomark _)) (dw_and1 (DW.dt (dw_or (dt_cmp o_lt (dv 2) d_int (nomark _)) (dw_or1 (dt_cmp o_gt (dv 3) d_int (nomark _))))))))
      (dss_one (ds_ret (d_ix (dv 1) d_int)))
      dss_nil)
    (dss_cons (ds_if (DW.dt (dw_and (dt_cmp o_lt (dv 3) d_int (nomark _)) (dw_and1 (dt_cmp o_gt (dv 2) d_int (nomark _)))))
      (dss_cons (ds_set (i := 5) sc__law_tree.nd rfl (.inl rfl) (d_call g__law_tree (hr.mono (by omega)) (passE (takes_of rfl rfl rfl rfl)) (da_cons (dv 0) (da_cons (dv 1) (da_cons (d_op o_sub (dv 2) d_int) da_nil)))))
      (dss_one (ds_ret (d_if (dt_cmp (o_eq (u64 hr)) (dv 3) d_int (nomark _)) (d_tuple m_tuple (da_cons (d_op o_add (d_op o_add (d_lst (da_cons d_str da_nil)) (dv 4)) (d_lst (da_cons (dv 5) da_nil))) da_nil)) (d_tup (da_cons d_str (da_cons (d_ix (dv 4) d_int) (da_cons (d_ix (dv 4) d_int) (da_cons (dv 5) da_nil)))))))))
      dss_nil)
    (dss_cons (ds_set (i := 6) sc__law_tree.nd rfl (.inl rfl) (d_call g__law_pull (hr.mono (by omega)) (passE (takes_of rfl rfl rfl rfl)) (da_cons (dv 0) (da_cons (d_op o_add (d_len m_len (da_cons (dv 1) da_nil)) d_int) da_nil))))
    (dss_cons (ds_set (i := 7) sc__law_tree.nd rfl (.inl rfl) (d_if (dt_cmp o_gt (dv 2) d_int (nomark _)) (d_lst (da_cons (d_slice (dv 1) do_none (do_some (dv 6))) (da_cons (d_slice (dv 1) (do_some (dv 6)) do_none) da_nil))) (d_lc (own := O__law_tree_1) rfl sc__law_tree.nd (di_seq (dv 1)) (blkOk_by (own := O__law_tree_1) (N := N__law_tree) (sc := defScope s__law_tree) (by decide +kernel)) (fun _ _ _ _ _ => (dg_name (i := 12) sc__law_tree.nd rfl (.inl rfl))) (fun _ _ _ _ _ => dts_nil) (fun _ _ _ _ _ => (d_lst (da_cons (dv 12) da_nil))))))
    (dss_cons (ds_setLc (i := 8) rfl rfl (sw_true rfl rfl rfl (by decide +kernel)) (own := O__law_tree_2) rfl sc__law_tree.nd (di_seq (dv 7)) (blkOk_by (own := O__law_tree_2) (N := N__law_tree) (sc := defScope s__law_tree) (by decide +kernel)) (fun _ _ _ _ _ => (dg_name (i := 13) sc__law_tree.nd rfl (.inl rfl))) (fun _ _ _ _ _ => dts_nil) (fun _ _ _ _ _ => (d_call g__law_tree (hr.mono (by omega)) passF (da_cons (dv 0) (da_cons (dv 13) (da_cons (d_op o_sub (dv 2) d_int) da_nil))))))
    (dss_cons (ds_if (dt_cmp (o_eq (u64 hr)) (dv 3) d_int (nomark _))
      (dss_one (ds_ret (d_tuple m_tuple (da_cons (d_op o_add (d_lst (da_cons d_str (da_cons (d_call g__law_of (hr.mono (by omega)) (passE (takes_of rfl rfl rfl rfl)) (da_cons (dv 0) (da_cons (d_lst (da_cons d_int (da_cons (d_len m_len (da_cons (dv 8) da_nil)) da_nil))) da_nil))) da_nil))) (dv 8)) da_nil))))
      dss_nil)
    (dss_cons (ds_if (dt_cmp o_lt (dv 3) d_int (nomark _))
      (dss_one (ds_ret (d_tuple m_tuple (da_cons (d_op o_add (d_lst (da_cons d_str da_nil)) (d_lc (own := O__law_tree_3) rfl sc__law_tree.nd (di_seq (dv 8)) (blkOk_by (own := O__law_tree_3) (N := N__law_tree) (sc := defScope s__law_tree) (by decide +kernel)) (fun _ _ _ _ _ => (dg_name (i := 14) sc__law_tree.nd rfl (.inl rfl))) (fun _ _ _ _ _ => dts_nil) (fun _ _ _ _ _ => (d_tup (da_cons (dv 14) (da_cons (d_call g__law_align (hr.mono (by omega)) passF (da_cons (dv 0) da_nil)) (da_cons (d_call g__law_align (hr.mono (by omega)) passF (da_cons (dv 0) da_nil)) da_nil))))))) da_nil))))
      dss_nil)
    (dss_cons (ds_asg (d_tup (da_cons (d_call g__law_of (hr.mono (by omega)) (passE (takes_of rfl rfl rfl rfl)) (da_cons (dv 0) (da_cons (d_lst (da_cons d_str (da_cons d_str da_nil))) da_nil))) (da_cons (d_op o_mod (d_toInt m_int (da_cons (d_ix (dv 4) d_int) da_nil)) d_int) da_nil))) (dg_tup rfl (dgs_cons (dg_name (i := 9) sc__law_tree.nd rfl (.inl rfl)) (dgs_cons (dg_name (i := 10) sc__law_tree.nd rfl (.inr rfl)) dgs_nil))))
    (dss_one (ds_ret (d_tuple m_tuple (da_cons (d_op o_add (d_lst (da_cons (dv 9) da_nil)) (d_lc (own := O__law_tree_4) rfl sc__law_tree.nd (di_seq (dv 8)) (blkOk_by (own := O__law_tree_4) (N := N__law_tree) (sc := defScope s__law_tree) (by decide +kernel)) (fun _ _ _ _ _ => (dg_name (i := 14) sc__law_tree.nd rfl (.inl rfl))) (fun _ _ _ _ _ => dts_nil) (fun _ _ _ _ _ => (d_tup (da_cons (dv 14) (da_cons (d_call g__law_align (hr.mono (by omega)) passF (da_cons (dv 0) da_nil)) (da_cons (d_call g__law_of (hr.mono (by omega)) passF (da_cons (dv 0) (da_cons (d_lst (da_cons d_int (da_cons d_int (da_cons d_int (da_cons (dv 10) da_nil))))) da_nil))) da_nil))))))) da_nil)))))))))))))), fun ws m Qd Qx h => ?_⟩) [] []) G (fun _ _ _ _ _ _ us hl => match us, hl with | [_, _, _], _ => rfl)
  · obtain ⟨_, _, _, _, rfl, _⟩ := h
    rfl
  · obtain ⟨n, hnN, b, names, rfl, hm, hl, h01, q⟩ := h
    have ln := sizeLine_eq
    refine ⟨b, 9, rfl, hm, by decide, by decide, fun way w0 w1 => ?_⟩
    refine ⟨by decide, by decide, lcL_all (fun _ _ y => ∃ a, y = .int a ∧ numR a) 0 (by rw [rngD_len]; show 0 + 4 ≤ _; omega) (fun j d Qt hd hq => ⟨b, rfl, hm, fun a ha => hq _ ⟨a, rfl, ha⟩⟩) fun ys hys => ?_⟩
    obtain ⟨a1, a2, a3, a4, rfl, n1, n2, n3, n4⟩ : ∃ a b c d, ys = [.int a, .int b, .int c, .int d] ∧ numR a ∧ numR b ∧ numR c ∧ numR d := by
      have hy : All2 (fun _ _ y => ∃ a, y = .int a ∧ numR a) 0 [.int 0, .int 1, .int 2, .int 3] ys := hys
      cases hy with
      | cons r1 t1 => cases t1 with
        | cons r2 t2 => cases t2 with
          | cons r3 t3 => cases t3 with
            | cons r4 t4 =>
              cases t4
              obtain ⟨a, rfl, ha⟩ := r1
              obtain ⟨b, rfl, hb⟩ := r2
              obtain ⟨c, rfl, hc⟩ := r3
              obtain ⟨d, rfl, hd⟩ := r4
              exact ⟨a, b, c, d, rfl, ha, hb, hc, hd⟩
    clear hys
    by_cases h0 : names = []
    · subst h0
      exact ⟨Nat.zero_le _, rfl, rfl, Nat.le_of_ble_eq_true rfl, Nat.le_of_ble_eq_true rfl, _, rfl, _, rfl, by show 3 ≤ sizeLine; omega, List.prefix_refl _, q _ (.gap _ _ _ n1 n2)⟩
    have hpos : 0 < names.length := List.length_pos_iff.mpr h0
    refine ⟨Nat.zero_le _, plain_strs names, rfl, dep_strs' names, Nat.le_of_ble_eq_true rfl, ite_no ?_ ?_⟩
    · cases names with
      | nil => exact absurd rfl h0
      | cons x xs => rfl
    dsimp only [sNx]
    refine dseq (fun en' m' => en' = [some (.loc b), some (.v (.lst (names.map .str))), some (.v (.int ((n : Int) - 1))), some (.v (.int way)), some (.v (.lst [.int a1, .int a2, .int a3, .int a4])), none, none, none, none, none, none, none, none, none, none] ∧ m' = m ∧ (n < 2 → 2 ≤ names.length)) (fun N' r1 r2 hn => ?_) ?_
    · refine ⟨rfl, rfl, Nat.zero_le _, Nat.zero_le _, iteB (fun c1 => ?_) (fun c1 => ?_)⟩
      · have c1 : (((names.map D.str).length : Nat) : Int) = 1 := eq_of_beq c1
        rw [List.length_map] at c1
        obtain ⟨x, hx⟩ : ∃ x, names = [x] := len1d (by omega)
        subst hx
        have ret : N'.rt (.v (.str x)) m := by
          rw [r1]
          exact ⟨List.prefix_refl _, q _ (.name _ _)⟩
        refine iteB (fun c2 => ?_) (fun c2 => iteB (fun c3 => ?_) (fun c3 => ?_))
        · exact iteT ⟨_, rfl, ret⟩
        · exact ⟨_, rfl, ret⟩
        · have c2 : ¬ ((n : Int) - 1 < 1) := of_decide_eq_false c2
          exact hn _ _ ⟨rfl, rfl, fun h => by omega⟩
      · have c1 : (((names.map D.str).length : Nat) : Int) ≠ 1 := fun z => by
          have c1 : ((((names.map D.str).length : Nat) : Int) == 1) = false := c1
          rw [z] at c1
          cases c1
        rw [List.length_map] at c1
        exact hn _ _ ⟨rfl, rfl, fun h => by omega⟩
    rintro en' m' ⟨rfl, rfl, h2⟩
    have n1' : n ≠ 0 := fun z => by
      have := h2 (by omega)
      have := h01 z
      omega
    obtain ⟨k, rfl⟩ : ∃ k, n = k + 1 := ⟨n - 1, by omega⟩
    have dk : ((k + 1 : Nat) : Int) - 1 - 1 = (k : Int) - 1 := by omega
    refine dseq (fun en' m2 => en' = [some (.loc b), some (.v (.lst (names.map .str))), some (.v (.int (((k + 1 : Nat) : Int) - 1))), some (.v (.int way)), some (.v (.lst [.int a1, .int a2, .int a3, .int a4])), none, none, none, none, none, none, none, none, none, none] ∧ m2 = m') (fun N' r1 r2 hn => ?_) ?_
    · refine iteB (fun c1 => iteB (fun c2 => ?_) (fun c2 => hn _ _ ⟨rfl, rfl⟩)) (fun c1 => hn _ _ ⟨rfl, rfl⟩)
      have c2 : (((k + 1 : Nat) : Int) - 1) > 0 := of_decide_eq_true c2
      refine ⟨k, by omega, b, names, by rw [dk], hm, hl, fun z => by omega, fun d hd => ?_⟩
      refine ⟨rfl, rfl, Nat.zero_le _, Nat.zero_le _, iteB (fun c3 => ?_) (fun c3 => ?_)⟩
      · refine ⟨by show 1 ≤ sizeLine; omega, by show 1 + 4 ≤ sizeLine; omega, by show 1 ≤ sizeLine; omega, by show 5 + 1 ≤ sizeLine; omega, ?_⟩
        rw [r1]
        exact ⟨List.prefix_refl _, q _ (.pad _ _ _ _ _ _ _ n1 n2 n3 n4 hd)⟩
      · refine ⟨_, rfl, _, rfl, by show 4 ≤ sizeLine; omega, ?_⟩
        rw [r1]
        exact ⟨List.prefix_refl _, q _ (.clip _ _ _ _ _ n1 n2 hd)⟩
    rintro en' m2 ⟨rfl, rfl⟩
    have nl : (((names.map D.str).length : Nat) : Int) = (names.length : Int) := by rw [List.length_map]
    refine ⟨b, (((names.map D.str).length : Nat) : Int) + 1, rfl, hm, by omega, by omega, fun at_ at0 at1 => ?_⟩
    obtain ⟨at_, rfl⟩ : ∃ x : Nat, at_ = x := ⟨at_.toNat, by omega⟩
    dsimp only
    refine dseq (fun en' m3 => ∃ gs : List (List Str), en' = [some (.loc b), some (.v (.lst (names.map .str))), some (.v (.int (((k + 1 : Nat) : Int) - 1))), some (.v (.int way)), some (.v (.lst [.int a1, .int a2, .int a3, .int a4])), none, some (.v (.int (at_ : Int))), some (.v (.lst (gs.map fun g => .lst (g.map .str)))), none, none, none, none, none, none, none] ∧ m3 = m2 ∧ gs.flatten = names ∧ 2 ≤ gs.length ∧ gs.length ≤ 26 ∧ ∀ g ∈ gs, g.length ≤ 26 ∧ (k = 0 → g.length ≤ 1)) (fun N' r1 r2 hn => ?_) ?_
    · refine iteB (fun c1 => ?_) (fun c1 => ?_)
      · have c1 : (((k + 1 : Nat) : Int) - 1) > 0 := of_decide_eq_true c1
        refine ⟨by show 2 ≤ sizeLine; omega, ?_⟩
        rw [cutD_to, cutD_from, ← List.map_take, ← List.map_drop]
        exact hn _ _ ⟨[names.take at_, names.drop at_], rfl, rfl, by simp, Nat.le_refl 2, by show 2 ≤ 26; decide, fun g hg => by
          simp only [List.mem_cons, List.not_mem_nil, or_false] at hg
          rcases hg with rfl | rfl
          · exact ⟨by rw [List.length_take]; omega, fun z => by omega⟩
          · exact ⟨by rw [List.length_drop]; omega, fun z => by omega⟩⟩
      · have c1 : ¬ (((k + 1 : Nat) : Int) - 1) > 0 := of_decide_eq_false c1
        have k0 : k = 0 := by omega
        have two := h2 (by omega)
        refine lcL_map (fun d => .lst [d]) (by rw [List.length_map]; show 0 + _ ≤ _; omega) (fun d Qt hd hq => ⟨by show 1 ≤ sizeLine; omega, hq⟩) ?_
        rw [List.nil_append, List.map_map]
        exact hn _ _ ⟨names.map fun x => [x], by rw [List.map_map]; rfl, rfl, flat_singles names, by rw [List.length_map]; exact two, by rw [List.length_map]; exact hl, fun g hg => by
          obtain ⟨x, _, rfl⟩ := List.mem_map.mp hg
          exact ⟨by show 1 ≤ 26; decide, fun _ => Nat.le_refl _⟩⟩
    rintro en' m3 ⟨gs, rfl, rfl, hf, g2, g26, hg⟩
    refine lcL_all (fun _ d y => ∃ g : List Str, d = .lst (g.map .str) ∧ TreeR k g y) 0 (by rw [List.length_map]; show 0 + _ ≤ _; omega) (fun j d Qt hd hq => ?_) fun ys hys => ?_
    · obtain ⟨g, hgm, rfl⟩ := List.mem_map.mp (List.mem_of_getElem? hd)
      exact ⟨k, by omega, b, g, by rw [dk], hm, (hg g hgm).1, (hg g hgm).2, fun d hd => hq _ ⟨g, rfl, hd⟩⟩
    obtain ⟨ps, p1, p2, p3⟩ := all2_tree hys
    have pl : ps.length = gs.length := by rw [← p1, List.length_map]
    subst p2
    clear hys
    have yl : (ps.map (·.2)).length = ps.length := List.length_map _
    dsimp only
    refine dseq (fun en' m4 => en' = [some (.loc b), some (.v (.lst (names.map .str))), some (.v (.int (((k + 1 : Nat) : Int) - 1))), some (.v (.int way)), some (.v (.lst [.int a1, .int a2, .int a3, .int a4])), none, some (.v (.int (at_ : Int))), some (.v (.lst (gs.map fun g => .lst (g.map .str)))), some (.v (.lst (ps.map (·.2)))), none, none, none, none, none, none] ∧ m4 = m3) (fun N' r1 r2 hn => ?_) ?_
    · refine ⟨rfl, rfl, Nat.zero_le _, Nat.zero_le _, iteB (fun c1 => ?_) (fun c1 => hn _ _ ⟨rfl, rfl⟩)⟩
      refine ⟨by show 2 ≤ sizeLine; omega, b, _, [.int 1, .int (((ps.map (·.2)).length : Nat) : Int)], rfl, hm, .inl rfl, by simp, by show 2 < 2 ^ 64; decide, fun d hd => ?_⟩
      obtain ⟨z, rfl, hz⟩ : ∃ z : Int, d = .int z ∧ (z = 1 ∨ z = (ps.length : Int)) := by
        simp only [List.mem_cons, List.not_mem_nil, or_false] at hd
        rcases hd with rfl | rfl
        · exact ⟨_, rfl, .inl rfl⟩
        · exact ⟨_, rfl, .inr (by rw [yl])⟩
      refine ⟨by show 2 ≤ sizeLine; omega, by show 2 + (ps.map (·.2)).length ≤ sizeLine; omega, ?_⟩
      rw [r1]
      refine ⟨List.prefix_refl _, q _ ?_⟩
      have t := TreeR.grid k z ps hz (by omega) (by omega) p3
      rw [List.flatMap_def, p1, hf] at t
      exact t
    rintro en' m4 ⟨rfl, rfl⟩
    refine dseq (fun en' m5 => en' = [some (.loc b), some (.v (.lst (names.map .str))), some (.v (.int (((k + 1 : Nat) : Int) - 1))), some (.v (.int way)), some (.v (.lst [.int a1, .int a2, .int a3, .int a4])), none, some (.v (.int (at_ : Int))), some (.v (.lst (gs.map fun g => .lst (g.map .str)))), some (.v (.lst (ps.map (·.2)))), none, none, none, none, none, none] ∧ m5 = m4) (fun N' r1 r2 hn => ?_) ?_
    · refine iteB (fun c1 => ?_) (fun c1 => hn _ _ ⟨rfl, rfl⟩)
      refine ⟨by show 1 ≤ sizeLine; omega, lcL_all (fun _ d y => ∃ a : Str × Str, y = (fun (d : D) (a : Str × Str) => .tup [d, .str a.1, .str a.2]) d a ∧ a.1 ∈ alS ∧ a.2 ∈ alS) 0 (by show 0 + _ ≤ _; omega) (fun j d Qt hd hq => ?_) fun ys hys => ?_⟩
      · exact ⟨b, rfl, hm, fun a ha => ⟨b, rfl, hm, fun c hc => ⟨by show 3 ≤ sizeLine; omega, hq _ ⟨(a, c), rfl, ha, hc⟩⟩⟩⟩
      · obtain ⟨qs, q1, rfl, q3⟩ := all2_with hys
        have ql : qs.length = ps.length := by rw [← q1, List.length_map]
        refine ⟨by show 1 + (qs.map _).length ≤ sizeLine; rw [List.length_map]; omega, ?_⟩
        rw [r1]
        refine ⟨List.prefix_refl _, q _ ?_⟩
        have t := TreeR.pile k qs (by omega) (by omega) q3 (fun g hg => p3 g.1 (by rw [← q1]; exact List.mem_map_of_mem hg))
        rw [flat_of q1 p1, hf] at t
        exact t
    rintro en' m5 ⟨rfl, rfl⟩
    refine ⟨by show 2 ≤ sizeLine; omega, b, _, [.str "row", .str "column"], rfl, hm, .inl rfl, by simp, by show 2 < 2 ^ 64; decide, fun d hd => ?_⟩
    obtain ⟨word, rfl, hw⟩ : ∃ z : Str, d = .str z ∧ (z = "row" ∨ z = "column") := by
      simp only [List.mem_cons, List.not_mem_nil, or_false] at hd
      rcases hd with rfl | rfl
      · exact ⟨_, rfl, .inl rfl⟩
      · exact ⟨_, rfl, .inr rfl⟩
    refine ⟨_, rfl, by decide, by show 2 ≤ sizeLine; omega, rfl, ?_⟩
    refine ⟨by show 1 ≤ sizeLine; omega, lcL_all (fun _ d y => ∃ a : Str × Int, y = (fun (d : D) (a : Str × Int) => .tup [d, .str a.1, .int a.2]) d a ∧ a.1 ∈ alS ∧ 0 ≤ a.2 ∧ a.2 ≤ 9) 0 (by show 0 + _ ≤ _; omega) (fun j d Qt hd hq => ?_) fun ys hys => ?_⟩
    · refine ⟨b, rfl, hm, fun a ha => ⟨by show 4 ≤ sizeLine; omega, b, _, [.int 0, .int 0, .int 1, .int (a1 % 10)], rfl, hm, .inl rfl, by simp, by show 4 < 2 ^ 64; decide, fun d2 hd2 => ?_⟩⟩
      obtain ⟨z, rfl, z0, z9⟩ : ∃ z : Int, d2 = .int z ∧ 0 ≤ z ∧ z ≤ 9 := by
        simp only [List.mem_cons, List.not_mem_nil, or_false] at hd2
        rcases hd2 with rfl | rfl | rfl | rfl <;> exact ⟨_, rfl, by omega, by omega⟩
      exact ⟨by show 3 ≤ sizeLine; omega, hq _ ⟨(a, z), rfl, ha, z0, z9⟩⟩
    · obtain ⟨qs, q1, rfl, q3⟩ := all2_with hys
      have ql : qs.length = ps.length := by rw [← q1, List.length_map]
      refine ⟨by show 1 + (qs.map _).length ≤ sizeLine; rw [List.length_map]; omega, List.prefix_refl _, q _ ?_⟩
      have t := TreeR.line k word qs hw (by omega) (by omega) q3 (fun g hg => p3 g.1 (by rw [← q1]; exact List.mem_map_of_mem hg))
      rw [flat_of q1 p1, hf] at t
      exact t
end
end Fs
set_option Elab.async false
set_option linter.all false
set_option maxRecDepth 100000
set_option maxHeartbeats 8000000
namespace Fs
open PySem PySem.Spec PyProof.Rows L2
abbrev s__law_same : Stmt := top 13
abbrev N__law_same : List Str := ["_law_found", "_law_due", "_law_k", "_law_key"]
abbrev P__law_same : List Str := ["_law_found", "_law_due"]
abbrev O__law_same_0 : List (Str × Nat) := [("_law_k", 2)]
abbrev O__law_same_1 : List (Str × Nat) := [("_law_key", 3)]
theorem sc__law_same : FnScope N__law_same P__law_same (defScope s__law_same) := ⟨rfl, rfl, rfl, by decide +kernel, rfl, by decide +kernel, by decide +kernel⟩
section
variable {P : Program} {w : World} {K : Frag} {mg : Str → Option Value} {base : Heap}
def flatA : D → Bool
  | .non | .bl _ | .int _ | .str _ => true
  | _ => false
/-- what _law_same walks: lists and tuples, fewer than n levels -/
def fitD : Nat → D → Prop
  | 0, _ => False
  | n + 1, .lst ds => ds.length < 2 ^ 20 ∧ ∀ d ∈ ds, fitD n d
  | n + 1, .tup ds => ds.length < 2 ^ 20 ∧ ∀ d ∈ ds, fitD n d
  | _ + 1, d => flatA d = true
theorem fit_mono : ∀ {n : Nat} {d : D}, fitD n d → fitD (n + 1) d
  | 0, _, h => h.elim
  | n + 1, .lst _, h => ⟨h.1, fun d hd => fit_mono (h.2 d hd)⟩
  | n + 1, .tup _, h => ⟨h.1, fun d hd => fit_mono (h.2 d hd)⟩
  | n + 1, .non, h => h
  | n + 1, .bl _, h => h
  | n + 1, .int _, h => h
  | n + 1, .str _, h => h
  | n + 1, .ty _, h => h
  | n + 1, .fn _, h => h
  | n + 1, .dic _, h => h
  | n + 1, .obj _ _, h => h
  | n + 1, .exc _ _, h => h
theorem fit_tup {n : Nat} {ds : List D} (h1 : ds.length < 2 ^ 20) (h2 : ∀ d ∈ ds, fitD n d) : fitD (n + 1) (.tup ds) := ⟨h1, h2⟩
def spSameD (n : Nat) : SpD := fun ws m Q _ => ∃ d, ws = [.v d, .v d] ∧ fitD n d ∧ Q (.v (.bl true)) m
theorem bools_tr {Q : List Bool → Prop} : ∀ n : Nat, Q (List.replicate n true) → bools (List.replicate n (.bl true)) Q
  | 0, h => h
  | n + 1, h => bools_tr (Q := fun bs => Q (true :: bs)) n h
theorem all2_tr {i : Nat} {its ys : List D} (h : All2 (fun _ _ y => y = .bl true) i its ys) : ys = List.replicate its.length (.bl true) := by
  induction h with
  | nil => rfl
  | cons r _ ih => rw [r, ih, List.length_cons, List.replicate_succ]
theorem dd__law_same (G : Gs K mg "_law_same" s__law_same) (m_isinstance : mg "isinstance" = none) (m_tuple : mg "tuple" = none) (m_list : mg "list" = none) (m_all : mg "all" = none) (m_range : mg "range" = none) (m_len : mg "len" = none) (m_dict : mg "dict" = none) (m_int : mg "int" = none) (m_bool : mg "bool" = none) (m_str : mg "str" = none) :
    ∀ n : Nat, Gd P w K mg base (L2.CX P w) (n + 1) "_law_same" P__law_same (lift K (spSameD n)) := by
  intro n
  induction n with
  | zero =>
    refine Fo.gd (fo_okX sc__law_same (fun vs H Q E h => ?_) (fun f cdv A outer s H vs Q E hr h => ?_)) G (fun _ _ _ _ _ _ us hl => match us, hl with | [_, _], _ => rfl)
    · obtain ⟨_, _, _, _, _, _, _, r, ⟨_, _, f, _⟩, _⟩ := h
      exact f.elim
    · obtain ⟨_, _, _, _, _, _, _, r, ⟨_, _, f, _⟩, _⟩ := h
      exact f.elim
  | succ n g__law_same =>
  refine Fo.gd (fo_d sc__law_same (fun ws m Q Qx h => ?_) (fun f cdv A outer s H E hr => ⟨_, (dss_cons (ds_if (dt_val (d_isi2 m_isinstance (dv 1) (pe_bltn (v := .ty "list") (by rfl) m_list (by decide +kernel) rfl) (pe_bltn (v := .ty "tuple") (by rfl) m_tuple (by decide +kernel) rfl)))
      (dss_cons (ds_if (DW.dt (dw_or (dt_cmp (o_ne (u64 hr)) (d_isi m_isinstance (da_cons (dv 0) (da_cons (d_ty (n := "list") m_list (by decide +kernel)) da_nil))) (d_isi m_isinstance (da_cons (dv 1) (da_cons (d_ty (n := "list") m_list (by decide +kernel)) da_nil))) (nomark _)) (dw_or1 (dt_cmp (o_ne (u64 hr)) (d_isi m_isinstance (da_cons (dv 0) (da_cons (d_ty (n := "tuple") m_tuple (by decide +kernel)) da_nil))) (d_isi m_isinstance (da_cons (dv 1) (da_cons (d_ty (n := "tuple") m_tuple (by decide +kernel)) da_nil))) (nomark _)))))
        (dss_one (ds_ret d_bl))
        dss_nil)
      (dss_one (ds_ret (d_and (d_cmp (o_eq (u64 hr)) (d_len m_len (da_cons (dv 0) da_nil)) (d_len m_len (da_cons (dv 1) da_nil)) (nomark _)) (d_one (d_all rfl m_all (da_cons (d_lc (own := O__law_same_0) rfl sc__law_same.nd (di_range1 m_range (da_cons (d_len m_len (da_cons (dv 1) da_nil)) da_nil)) (blkOk_by (own := O__law_same_0) (N := N__law_same) (sc := defScope s__law_same) (by decide +kernel)) (fun _ _ _ _ _ => (dg_name (i := 2) sc__law_same.nd rfl (.inl rfl))) (fun _ _ _ _ _ => dts_nil) (fun _ _ _ _ _ => (d_call g__law_same (hr.mono (by omega)) passF (da_cons (d_ix (dv 0) (dv 2)) (da_cons (d_ix (dv 1) (dv 2)) da_nil))))) da_nil)))))))
      dss_nil)
    (dss_cons (ds_if (dt_val (d_isi m_isinstance (da_cons (dv 1) (da_cons (d_ty (n := "dict") m_dict (by decide +kernel)) da_nil))))
      dss_never
      dss_nil)
    (dss_cons (ds_if (DW.dt (dw_or (dt_cmp o_is (dv 1) d_non (nomark _)) (dw_or1 (dt_cmp o_is (dv 0) d_non (nomark _)))))
      (dss_one (ds_ret (d_and (d_cmp o_is (dv 0) d_non (nomark _)) (d_one (d_cmp o_is (dv 1) d_non (nomark _))))))
      dss_nil)
    (dss_cons (ds_if (DW.dt (dw_or (dt_cmp (o_ne (u64 hr)) (d_isi m_isinstance (da_cons (dv 1) (da_cons (d_ty (n := "bool") m_bool (by decide +kernel)) da_nil))) (d_isi m_isinstance (da_cons (dv 0) (da_cons (d_ty (n := "bool") m_bool (by decide +kernel)) da_nil))) (nomark _)) (dw_or1 (dt_cmp (o_ne (u64 hr)) (d_isi m_isinstance (da_cons (dv 1) (da_cons (d_ty (n := "int") m_int (by decide +kernel)) da_nil))) (d_isi m_isinstance (da_cons (dv 0) (da_cons (d_ty (n := "int") m_int (by decide +kernel)) da_nil))) (nomark _)))))
      (dss_one (ds_ret d_bl))
      dss_nil)
    (dss_one (ds_ret (d_and (d_cmp (o_eq (u64 hr)) (d_isi m_isinstance (da_cons (dv 1) (da_cons (d_ty (n := "str") m_str (by decide +kernel)) da_nil))) (d_isi m_isinstance (da_cons (dv 0) (da_cons (d_ty (n := "str") m_str (by decide +kernel)) da_nil))) (nomark _)) (d_one (d_cmp (o_eq (u64 hr)) (dv 0) (dv 1) (nomark _)))))))))), fun ws m Qd Qx h => ?_⟩) [] []) G (fun _ _ _ _ _ _ us hl => match us, hl with | [_, _], _ => rfl)
  · obtain ⟨_, rfl, _⟩ := h
    rfl
  · obtain ⟨d, rfl, hf, q⟩ := h
    have ln := sizeLine_eq
    have lp : ∀ (x : D) (ds : List D) (Q : W → Me → Prop) (g : DTG) (te : DTE) (en : En), ds.length < 2 ^ 20 → (∀ j (Qt : W → Me → Prop), (hj : j < ds.length) → Qt (.v (.bl true)) m → g (.v (.int (0 + (j : Nat)))) en m fun en1 m1 => te en1 m1 Qt noX) → Q (.v (.lst (List.replicate ds.length (.bl true)))) m → lcL g tYs te en (rngD 0 ds.length) [] m Q := fun x ds Q g te en hl h k => by
      refine lcL_all (fun _ _ y => y = .bl true) 0 (by rw [rngD_len]; show 0 + _ ≤ _; omega) (fun j d Qt hd hq => ?_) fun ys hys => ?_
      · obtain ⟨rfl, hj⟩ := rngD_at hd
        exact h j Qt hj (hq _ rfl)
      · rw [all2_tr hys, rngD_len]
        exact k
    cases d with
    | lst ds =>
      obtain ⟨h1, h2⟩ := hf
      refine ⟨rfl, rfl, rfl, rfl, rfl, Nat.zero_le _, Nat.zero_le _, rfl, rfl, rfl, rfl, Nat.zero_le _, Nat.zero_le _, rfl, rfl, Nat.zero_le _, Nat.zero_le _, ite_of (by show ((ds.length : Int) == (ds.length : Int)) = true; simp) ?_⟩
      refine ⟨by omega, by omega, lp (.lst ds) ds _ _ _ _ h1 (fun j Qt hj hq => ?_) ?_⟩
      · have a := atI_i (xs := ds) (i := (0 : Int) + (j : Nat)) (by omega) (by omega)
        exact ⟨_, a, _, a, _, rfl, h2 _ (atI_mem a), hq⟩
      · refine bools_tr _ ⟨List.prefix_refl _, ?_⟩
        have : (List.replicate ds.length true).all id = true := by simp
        show Qd (.v (.bl ((List.replicate ds.length true).all id))) m
        rw [this]
        exact q
    | tup ds =>
      obtain ⟨h1, h2⟩ := hf
      refine ⟨rfl, rfl, rfl, rfl, rfl, Nat.zero_le _, Nat.zero_le _, rfl, rfl, rfl, rfl, Nat.zero_le _, Nat.zero_le _, rfl, rfl, Nat.zero_le _, Nat.zero_le _, ite_of (by show ((ds.length : Int) == (ds.length : Int)) = true; simp) ?_⟩
      refine ⟨by omega, by omega, lp (.tup ds) ds _ _ _ _ h1 (fun j Qt hj hq => ?_) ?_⟩
      · have a := atI_i (xs := ds) (i := (0 : Int) + (j : Nat)) (by omega) (by omega)
        exact ⟨_, a, _, a, _, rfl, h2 _ (atI_mem a), hq⟩
      · refine bools_tr _ ⟨List.prefix_refl _, ?_⟩
        have : (List.replicate ds.length true).all id = true := by simp
        show Qd (.v (.bl ((List.replicate ds.length true).all id))) m
        rw [this]
        exact q
    | non => exact ⟨rfl, rfl, rfl, rfl, rfl, List.prefix_refl _, q⟩
    | bl b =>
      refine ⟨rfl, rfl, rfl, rfl, rfl, rfl, rfl, rfl, Nat.zero_le _, Nat.zero_le _, rfl, rfl, rfl, rfl, Nat.zero_le _, Nat.zero_le _, rfl, rfl, rfl, rfl, Nat.zero_le _, Nat.zero_le _, rfl, rfl, Nat.zero_le _, Nat.zero_le _, List.prefix_refl _, ?_⟩
      have e : deq (.bl b) (.bl b) = true := by show (b == b) = true; simp
      show Qd (.v (.bl (deq (.bl b) (.bl b)))) m
      rw [e]
      exact q
    | int b =>
      refine ⟨rfl, rfl, rfl, rfl, rfl, rfl, rfl, rfl, Nat.zero_le _, Nat.zero_le _, rfl, rfl, rfl, rfl, Nat.zero_le _, Nat.zero_le _, rfl, rfl, rfl, rfl, Nat.zero_le _, Nat.zero_le _, rfl, rfl, Nat.zero_le _, Nat.zero_le _, List.prefix_refl _, ?_⟩
      have e : deq (.int b) (.int b) = true := by show (b == b) = true; simp
      show Qd (.v (.bl (deq (.int b) (.int b)))) m
      rw [e]
      exact q
    | str b =>
      refine ⟨rfl, rfl, rfl, rfl, rfl, rfl, rfl, rfl, Nat.zero_le _, Nat.zero_le _, rfl, rfl, rfl, rfl, Nat.zero_le _, Nat.zero_le _, rfl, rfl, rfl, rfl, Nat.zero_le _, Nat.zero_le _, rfl, rfl, Nat.zero_le _, Nat.zero_le _, List.prefix_refl _, ?_⟩
      have e : deq (.str b) (.str b) = true := by show (b == b) = true; simp
      show Qd (.v (.bl (deq (.str b) (.str b)))) m
      rw [e]
      exact q
    | _ => cases hf
end
end Fs
set_option Elab.async false
set_option linter.all false
set_option maxRecDepth 100000
set_option maxHeartbeats 8000000
namespace Fs
open PySem PySem.Spec PyProof.Rows L2
inductive Fr where
  | name (x : Str) | gap (a b : Int) | hole
  | pad (a b c d : Int) (t : Fr) | clip (a b : Int) (t : Fr)
  | grid (k : Int) (ts : List Fr) | line (w : Str) (ts : List Fr) (as : List (D × D))
def partD (t : D) (a : D × D) : D := .tup [t, a.1, a.2]
def partsD : List D → List (D × D) → List D
  | t :: ts, a :: as => partD t a :: partsD ts as
  | _, _ => []
mutual
def encF : Fr → D
  | .name x => .str x
  | .gap a b => .tup [.str "gap", .int a, .int b]
  | .hole => .tup [.str "hole"]
  | .pad a b c d t => .tup [.str "pad", .int a, .int b, .int c, .int d, encF t]
  | .clip a b t => .tup [.str "clip", .int a, .int b, encF t]
  | .grid k ts => .tup (.str "grid" :: .int k :: encs ts)
  | .line w ts as => .tup (.str w :: partsD (encs ts) as)
def encs : List Fr → List D
  | [] => []
  | t :: ts => encF t :: encs ts
end
theorem encs_map : ∀ ts : List Fr, encs ts = ts.map encF
  | [] => rfl
  | t :: ts => by
    show encF t :: encs ts = _
    rw [encs_map ts]
    rfl
theorem encs_len (ts : List Fr) : (encs ts).length = ts.length := by rw [encs_map, List.length_map]
/-- at most n levels below it, at most 26 frames wide -/
def okT : Nat → Fr → Prop
  | _, .name x => x.length ≤ 600
  | _, .gap _ _ => True
  | _, .hole => True
  | n + 1, .pad _ _ _ _ t => okT n t
  | n + 1, .clip _ _ t => okT n t
  | n + 1, .grid _ ts => 0 < ts.length ∧ ts.length ≤ 26 ∧ ∀ t ∈ ts, okT n t
  | n + 1, .line w ts as => (w = "row" ∨ w = "column" ∨ w = "pile") ∧ as.length = ts.length ∧ ts.length ≤ 26 ∧ (∀ a ∈ as, flatA a.1 = true ∧ flatA a.2 = true) ∧ ∀ t ∈ ts, okT n t
  | 0, _ => False
/-- the frames directly inside -/
def insT : Fr → List Fr
  | .pad _ _ _ _ t => [t]
  | .clip _ _ t => [t]
  | .grid _ ts => ts
  | .line _ ts _ => ts
  | _ => []
theorem ok_ins {n : Nat} {t : Fr} (h : okT (n + 1) t) : ∀ u ∈ insT t, okT n u := fun u hu => by
  cases t with
  | name x => cases hu
  | gap a b => cases hu
  | hole => cases hu
  | pad a b c d t => rw [List.mem_singleton.mp hu]; exact h
  | clip a b t => rw [List.mem_singleton.mp hu]; exact h
  | grid k ts => exact h.2.2 u hu
  | line w ts as => exact h.2.2.2.2 u hu
theorem ins_zero {t : Fr} (h : okT 0 t) : insT t = [] := by
  cases t with
  | name x => rfl
  | gap a b => rfl
  | hole => rfl
  | _ => exact h.elim
theorem ins_len {n : Nat} {t : Fr} (h : okT n t) : (insT t).length ≤ 26 := by
  cases n with
  | zero => rw [ins_zero h]; decide
  | succ n =>
    cases t with
    | name x => exact Nat.zero_le _
    | gap a b => exact Nat.zero_le _
    | hole => exact Nat.zero_le _
    | pad a b c d t => exact Nat.le_of_ble_eq_true rfl
    | clip a b t => exact Nat.le_of_ble_eq_true rfl
    | grid k ts => exact h.2.1
    | line w ts as => exact h.2.2.1
theorem partsD_len : ∀ {ts : List D} {as : List (D × D)}, as.length = ts.length → (partsD ts as).length = ts.length
  | [], [], _ => rfl
  | [], _ :: _, h => by cases h
  | _ :: _, [], h => by cases h
  | t :: ts, a :: as, h => by
    show (partsD ts as).length + 1 = _
    rw [partsD_len (by simpa using h)]
    rfl
theorem partsD_at : ∀ {ts : List D} {as : List (D × D)} {j : Nat} {d : D}, (partsD ts as)[j]? = some d → ∃ t a, ts[j]? = some t ∧ as[j]? = some a ∧ d = partD t a
  | [], [], j, d, h => by simp [partsD] at h
  | [], _ :: _, j, d, h => by simp [partsD] at h
  | _ :: _, [], j, d, h => by simp [partsD] at h
  | t :: ts, a :: as, 0, d, h => ⟨t, a, rfl, rfl, (Option.some.inj h).symm⟩
  | t :: ts, a :: as, j + 1, d, h => by
    obtain ⟨t', a', h1, h2, h3⟩ := partsD_at (ts := ts) (as := as) (j := j) h
    exact ⟨t', a', h1, h2, h3⟩
def fstD : D → D
  | .tup (t :: _) => t
  | _ => .non
theorem partsD_fst : ∀ {ts : List D} {as : List (D × D)}, as.length = ts.length → (partsD ts as).map fstD = ts
  | [], [], _ => rfl
  | [], _ :: _, h => by cases h
  | _ :: _, [], h => by cases h
  | t :: ts, a :: as, h => by
    show t :: (partsD ts as).map fstD = _
    rw [partsD_fst (by simpa using h)]
/-- the same frame with others inside -/
def putD : Fr → List D → D
  | .pad a b c d _, [x] => .tup [.str "pad", .int a, .int b, .int c, .int d, x]
  | .clip a b _, [x] => .tup [.str "clip", .int a, .int b, x]
  | .grid k _, xs => .tup (.str "grid" :: .int k :: xs)
  | .line w _ as, xs => .tup (.str w :: partsD xs as)
  | t, _ => encF t
theorem put_same : ∀ t : Fr, putD t ((insT t).map encF) = encF t
  | .name _ => rfl
  | .gap _ _ => rfl
  | .hole => rfl
  | .pad _ _ _ _ _ => rfl
  | .clip _ _ _ => rfl
  | .grid k ts => by
    show D.tup (_ :: _ :: ts.map encF) = D.tup (_ :: _ :: encs ts)
    rw [encs_map]
  | .line w ts as => by
    show D.tup (_ :: partsD (ts.map encF) as) = D.tup (_ :: partsD (encs ts) as)
    rw [encs_map]
/-! ### how deep, how plain -/
theorem partsD_plain {n : Nat} : ∀ {ts : List D} {as : List (D × D)}, (∀ t ∈ ts, plainD t = true ∧ depD t ≤ n) → (∀ a ∈ as, flatA a.1 = true ∧ flatA a.2 = true) → plainL (partsD ts as) = true ∧ depL (partsD ts as) ≤ n + 1
  | [], [], _, _ => ⟨rfl, Nat.zero_le _⟩
  | [], _ :: _, _, _ => ⟨rfl, Nat.zero_le _⟩
  | _ :: _, [], _, _ => ⟨rfl, Nat.zero_le _⟩
  | t :: ts, a :: as, h, k => by
    obtain ⟨r1, r2⟩ := partsD_plain (n := n) (fun t ht => h t (List.mem_cons_of_mem _ ht)) fun a ha => k a (List.mem_cons_of_mem _ ha)
    obtain ⟨h1, h2⟩ := h t List.mem_cons_self
    obtain ⟨k1, k2⟩ := k a List.mem_cons_self
    have fl : ∀ d : D, flatA d = true → plainD d = true ∧ depD d = 0 := fun d hd => by cases d <;> first | exact ⟨rfl, rfl⟩ | cases hd
    obtain ⟨p1, q1⟩ := fl _ k1
    obtain ⟨p2, q2⟩ := fl _ k2
    constructor
    · show ((plainD t && (plainD a.1 && (plainD a.2 && true))) && plainL (partsD ts as)) = true
      rw [h1, p1, p2, r1]
      rfl
    · show max (max (depD t) (max (depD a.1) (max (depD a.2) 0)) + 1) (depL (partsD ts as)) ≤ n + 1
      rw [q1, q2]
      omega
theorem listD_plain {n : Nat} : ∀ {ts : List D}, (∀ t ∈ ts, plainD t = true ∧ depD t ≤ n) → plainL ts = true ∧ depL ts ≤ n
  | [], _ => ⟨rfl, Nat.zero_le _⟩
  | t :: ts, h => by
    obtain ⟨r1, r2⟩ := listD_plain (n := n) (fun t ht => h t (List.mem_cons_of_mem _ ht))
    obtain ⟨h1, h2⟩ := h t List.mem_cons_self
    constructor
    · show (plainD t && plainL ts) = true
      rw [h1, r1]
      rfl
    · show max (depD t) (depL ts) ≤ n
      omega
theorem put_plain {n m : Nat} {t : Fr} {xs : List D} (h : okT (n + 1) t) (hx : ∀ x ∈ xs, plainD x = true ∧ depD x ≤ m) (hl : xs.length = (insT t).length) : plainD (putD t xs) = true ∧ depD (putD t xs) ≤ m + 2 := by
  cases t with
  | name x => exact ⟨rfl, Nat.zero_le _⟩
  | gap a b => exact ⟨rfl, by show 1 ≤ _; omega⟩
  | hole => exact ⟨rfl, by show 1 ≤ _; omega⟩
  | pad a b c d t =>
    match xs, hl, hx with
    | [x], _, hx =>
      obtain ⟨h1, h2⟩ := hx x (by simp)
      constructor
      · show (true && (true && (true && (true && (true && (plainD x && true)))))) = true
        rw [h1]
        rfl
      · show max 0 (max 0 (max 0 (max 0 (max 0 (max (depD x) 0))))) + 1 ≤ _
        omega
  | clip a b t =>
    match xs, hl, hx with
    | [x], _, hx =>
      obtain ⟨h1, h2⟩ := hx x (by simp)
      constructor
      · show (true && (true && (true && (plainD x && true)))) = true
        rw [h1]
        rfl
      · show max 0 (max 0 (max 0 (max (depD x) 0))) + 1 ≤ _
        omega
  | grid k ts =>
    obtain ⟨h1, h2⟩ := listD_plain hx
    constructor
    · show (true && (true && plainL xs)) = true
      rw [h1]
      rfl
    · show max 0 (max 0 (depL xs)) + 1 ≤ _
      omega
  | line w ts as =>
    obtain ⟨h1, h2⟩ := partsD_plain hx h.2.2.2.1
    constructor
    · show (true && plainL (partsD xs as)) = true
      rw [h1]
      rfl
    · show max 0 (depL (partsD xs as)) + 1 ≤ _
      omega
theorem enc_plain : ∀ {n : Nat} {t : Fr}, okT n t → plainD (encF t) = true ∧ depD (encF t) ≤ 2 * n + 1
  | 0, t, h => by
    cases t with
    | name x => exact ⟨rfl, Nat.zero_le _⟩
    | gap a b => exact ⟨rfl, Nat.le_refl _⟩
    | hole => exact ⟨rfl, Nat.le_refl _⟩
    | _ => exact h.elim
  | n + 1, t, h => by
    rw [← put_same t]
    have := put_plain h (m := 2 * n + 1) (xs := (insT t).map encF) (fun x hx => by
      obtain ⟨u, hu, rfl⟩ := List.mem_map.mp hx
      exact enc_plain (ok_ins h u hu)) (by rw [List.length_map])
    exact ⟨this.1, by omega⟩
end Fs
set_option Elab.async false
set_option linter.all false
set_option maxRecDepth 100000
set_option maxHeartbeats 8000000
namespace Fs
open PySem PySem.Spec PyProof.Rows L2
def numsK : List (Str × D) := [("pad", .int 4), ("clip", .int 2), ("grid", .int 1)]
def holeD : D := .tup [.str "hole"]
def spIns : SpD := fun ws m Q _ => ∃ (n : Nat) (t : Fr), ws = [.v (encF t)] ∧ okT n t ∧ Q (.v (.lst ((insT t).map encF))) m
def spReb : SpD := fun ws m Q _ => ∃ (n : Nat) (t : Fr) (xs : List D), ws = [.v (encF t), .v (.lst xs)] ∧ okT n t ∧ xs.length = (insT t).length ∧ Q (.v (putD t xs)) m
def fillT : Nat → D → Fr → D
  | _, f, .hole => f
  | n + 1, f, t => putD t ((insT t).map (fillT n f))
  | 0, _, t => encF t
theorem zip_parts : ∀ {xs ys : List D} {as : List (D × D)}, as.length = ys.length → xs.length = ys.length → (zipD xs (partsD ys as)).map (fun d => match d with | .tup [one, .tup [_, a, b]] => .tup [one, a, b] | _ => D.non) = partsD xs as
  | [], [], _, _, _ => rfl
  | [], _ :: _, _, _, h => by cases h
  | _ :: _, [], _, _, h => by cases h
  | _ :: _, _ :: _, [], h, _ => by cases h
  | x :: xs, y :: ys, a :: as, h, k => by
    have ih := zip_parts (xs := xs) (ys := ys) (as := as) (by simpa using h) (by simpa using k)
    show partD x a :: _ = partD x a :: partsD xs as
    rw [← ih]
theorem at0 (d : D) (l : List D) : atI (d :: l) 0 = some d := atI_nat (j := 0) rfl
theorem zip_mem : ∀ {xs ys : List D} {d : D}, d ∈ zipD xs ys → ∃ x y, d = .tup [x, y] ∧ x ∈ xs ∧ y ∈ ys
  | [], [], _, h => by cases h
  | [], _ :: _, _, h => by cases h
  | _ :: _, [], _, h => by cases h
  | x :: xs, y :: ys, d, h => by
    rcases List.mem_cons.mp h with rfl | h
    · exact ⟨x, y, rfl, List.mem_cons_self, List.mem_cons_self⟩
    · obtain ⟨x', y', h1, h2, h3⟩ := zip_mem h
      exact ⟨x', y', h1, List.mem_cons_of_mem _ h2, List.mem_cons_of_mem _ h3⟩
theorem cut_head (a b : D) {xs : List D} (ts : List Fr) (hx : xs.length = ts.length) : cutD (a :: b :: encs ts) none (some ((((a :: b :: encs ts).length : Nat) : Int) - ((xs.length : Nat) : Int))) = [a, b] := by
  have e1 : (((a :: b :: encs ts).length : Nat) : Int) - ((xs.length : Nat) : Int) = ((2 : Nat) : Int) := by
    rw [List.length_cons, List.length_cons, encs_len, hx]
    omega
  rw [e1, cutD_to]
  rfl
section
variable {P : Program} {w : World} {K : Frag} {mg : Str → Option Value} {base : Heap}
abbrev s_inside_of : Stmt := top 2
abbrev N_inside_of : List Str := ["frame", "word", "rest", "part"]
abbrev P_inside_of : List Str := ["frame"]
abbrev O_inside_of_0 : List (Str × Nat) := [("part", 3)]
theorem sc_inside_of : FnScope N_inside_of P_inside_of (defScope s_inside_of) := ⟨rfl, rfl, rfl, by decide +kernel, rfl, by decide +kernel, by decide +kernel⟩
theorem dd_inside_of (G : Gs K mg "inside_of" s_inside_of) (m_isinstance : mg "isinstance" = none) (m_str : mg "str" = none) {dA : Addr} {es : Array DictEntry} {nn : Nat} (DN : KDict K w dA es nn) (hN : dictU K dA numsK = true) (c_N : mg "NUMBERS" = some (.ref dA)) : Gd P w K mg base (L2.CX P w) 1 "inside_of" P_inside_of (lift K spIns) := by
  refine Fo.gd (fo_d sc_inside_of (fun ws m Q Qx h => ?_) (fun f cdv A outer s H E hr => ⟨_, (dss_cons (ds_if (dt_val (d_isi m_isinstance (da_cons (dv 0) (da_cons (d_ty (n := "str") m_str (by decide +kernel)) da_nil))))
      (dss_one (ds_ret (d_lst da_nil)))
      dss_nil)
    (dss_cons (ds_asg (dv 0) (dg_star (n := 1) rfl (dgs_cons (dg_name (i := 1) sc_inside_of.nd rfl (.inl rfl)) (dgs_star (dg_name (i := 2) sc_inside_of.nd rfl (.inl rfl))))))
    (dss_cons (ds_if (dt_cmp (o_in (u65 hr)) (dv 1) (d_tup (da_cons d_str (da_cons d_str (da_cons d_str da_nil)))) (by rfl))
      (dss_one (ds_ret (d_lc (own := O_inside_of_0) rfl sc_inside_of.nd (di_seq (dv 2)) (blkOk_by (own := O_inside_of_0) (N := N_inside_of) (sc := defScope s_inside_of) (by decide +kernel)) (fun _ _ _ _ _ => (dg_name (i := 3) sc_inside_of.nd rfl (.inl rfl))) (fun _ _ _ _ _ => dts_nil) (fun _ _ _ _ _ => (d_ix (dv 3) d_int)))))
      dss_nil)
    (dss_one (ds_ret (d_if (dt_inK DN hN c_N (dv 1)) (d_slice (dv 2) (do_some (d_ixK DN hN c_N (dv 1))) do_none) (d_lst da_nil))))))), fun ws m Qd Qx h => ?_⟩) [] []) G (fun _ _ _ _ _ _ us hl => match us, hl with | [_], _ => rfl)
  · obtain ⟨_, _, rfl, _⟩ := h
    rfl
  · obtain ⟨n, t, rfl, ht, q⟩ := h
    have ln := sizeLine_eq
    have s0 : 0 ≤ sizeLine := Nat.zero_le _
    have s3 : 3 ≤ sizeLine := by omega
    cases t with
    | name x => exact ⟨rfl, s0, List.prefix_refl _, q⟩
    | gap a b => exact ⟨rfl, Nat.le_of_ble_eq_true rfl, s3, rfl, rfl, s0, List.prefix_refl _, q⟩
    | hole => exact ⟨rfl, Nat.le_of_ble_eq_true rfl, s3, rfl, rfl, s0, List.prefix_refl _, q⟩
    | pad a b c d t => exact ⟨rfl, Nat.le_of_ble_eq_true rfl, s3, rfl, rfl, .int 4, rfl, List.prefix_refl _, q⟩
    | clip a b t => exact ⟨rfl, Nat.le_of_ble_eq_true rfl, s3, rfl, rfl, .int 2, rfl, List.prefix_refl _, q⟩
    | grid k ts =>
      refine ⟨rfl, Nat.le_add_left _ _, s3, rfl, rfl, .int 1, rfl, List.prefix_refl _, ?_⟩
      have e : cutD (.int k :: encs ts) (some ((1 : Nat) : Int)) none = ts.map encF := by
        rw [cutD_from, encs_map]
        rfl
      show Qd (.v (.lst (cutD (.int k :: encs ts) (some ((1 : Nat) : Int)) none))) m
      rw [e]
      exact q
    | line w ts as =>
      cases n with
      | zero => exact ht.elim
      | succ n =>
        obtain ⟨hw, hl, h26, _, _⟩ := ht
        have go : lcL (gN 3) tYs (tO2 (oL ixD) (tV 3) (tK (.int 0))) [some (.v (encF (.line w ts as))), some (.v (.str w)), some (.v (.lst (partsD (encs ts) as))), none] (partsD (encs ts) as) [] m (defN m Qd Qx).rt := by
          refine lcL_map fstD ?_ (fun d Qt hd hq => ?_) ?_
          · rw [partsD_len (by rw [encs_len]; exact hl), encs_len]
            show 0 + _ ≤ _
            omega
          · obtain ⟨j, hj⟩ := List.mem_iff_getElem?.mp hd
            obtain ⟨t, a, _, _, rfl⟩ := partsD_at hj
            exact ⟨t, rfl, hq⟩
          · rw [partsD_fst (by rw [encs_len]; exact hl), encs_map]
            exact ⟨List.prefix_refl _, q⟩
        rcases hw with rfl | rfl | rfl <;> exact ⟨rfl, Nat.le_add_left _ _, s3, rfl, rfl, go⟩
end
end Fs
set_option Elab.async false
set_option linter.all false
set_option maxRecDepth 100000
set_option maxHeartbeats 8000000
namespace Fs
open PySem PySem.Spec PyProof.Rows L2
def okU : Nat → Fr → Prop
  | 0, _ => False
  | n + 1, t => okT n t
def spFill (n : Nat) : SpD := fun ws m Q _ => ∃ (t : Fr) (f : D), ws = [.v (encF t), .v f] ∧ okU n t ∧ Q (.v (fillT (n - 1) f t)) m
def isHole : Fr → Bool
  | .hole => true
  | _ => false
theorem deq_hole {n : Nat} {t : Fr} (h : okT n t) : deq (encF t) holeD = isHole t := by
  cases t with
  | name x => rfl
  | gap a b => rfl
  | hole => rfl
  | pad a b c d t => rfl
  | clip a b t => rfl
  | grid k ts => rfl
  | line w ts as =>
    cases n with
    | zero => exact h.elim
    | succ n =>
      rcases h.1 with rfl | rfl | rfl <;> rfl
theorem all2_idx {us : List Fr} {g : Fr → D} {ys : List D} (h : All2 (fun j _ y => ∃ u, us[j]? = some u ∧ y = g u) 0 (us.map encF) ys) : ys = us.map g := by
  have key : ∀ {i : Nat} {ds ys : List D}, All2 (fun j _ y => ∃ u, us[j]? = some u ∧ y = g u) i ds ys → ds.length + i = us.length → ys = (us.drop i).map g := fun {i ds ys} h => by
    induction h with
    | nil =>
      intro e
      rw [List.drop_of_length_le (by rw [List.length_nil] at e; omega)]
      rfl
    | @cons i d y ds ys r _ ih =>
      intro e
      rw [List.length_cons] at e
      obtain ⟨u, hu, rfl⟩ := r
      obtain ⟨hlt, e2⟩ := List.getElem?_eq_some_iff.mp hu
      rw [List.drop_eq_getElem_cons hlt, e2, List.map_cons, ← ih (by omega)]
  have := key h (by rw [List.length_map]; rfl)
  rwa [List.drop_zero] at this
theorem all2_part {ts : List Fr} {as : List (D × D)} {g : Fr → D} {ds ys : List D} (h : All2 (fun j _ y => ∃ u a, ts[j]? = some u ∧ as[j]? = some a ∧ y = partD (g u) a) 0 ds ys) (hl : ds.length = ts.length) (ha : as.length = ts.length) : ys = partsD (ts.map g) as := by
  have key : ∀ {i : Nat} {ds ys : List D}, All2 (fun j _ y => ∃ u a, ts[j]? = some u ∧ as[j]? = some a ∧ y = partD (g u) a) i ds ys → ds.length + i = ts.length → ys = partsD ((ts.drop i).map g) (as.drop i) := fun {i ds ys} h => by
    induction h with
    | nil =>
      intro e
      rw [List.drop_of_length_le (by rw [List.length_nil] at e; omega)]
      rfl
    | @cons i d y ds ys r _ ih =>
      intro e
      rw [List.length_cons] at e
      obtain ⟨u, a, hu, ha2, rfl⟩ := r
      obtain ⟨h1, e1⟩ := List.getElem?_eq_some_iff.mp hu
      obtain ⟨h2, e2⟩ := List.getElem?_eq_some_iff.mp ha2
      rw [List.drop_eq_getElem_cons h1, e1, List.drop_eq_getElem_cons h2, e2, List.map_cons]
      show _ = partD (g u) a :: partsD _ _
      rw [← ih (by omega)]
  have := key h (by omega)
  rwa [List.drop_zero, List.drop_zero] at this
section
variable {P : Program} {w : World} {K : Frag} {mg : Str → Option Value} {base : Heap}
abbrev s__law_inner : Stmt := top 18
abbrev N__law_inner : List Str := ["_law_frame_z", "_law_part"]
abbrev P__law_inner : List Str := ["_law_frame_z"]
abbrev O__law_inner_0 : List (Str × Nat) := [("_law_part", 1)]
theorem sc__law_inner : FnScope N__law_inner P__law_inner (defScope s__law_inner) := ⟨rfl, rfl, rfl, by decide +kernel, rfl, by decide +kernel, by decide +kernel⟩
theorem dd__law_inner (G : Gs K mg "_law_inner" s__law_inner) (m_isinstance : mg "isinstance" = none) (m_str : mg "str" = none) (m_list : mg "list" = none) (m_len : mg "len" = none) : Gd P w K mg base (L2.CX P w) 1 "_law_inner" P__law_inner (lift K spIns) := by
  refine Fo.gd (fo_d sc__law_inner (fun ws m Q Qx h => ?_) (fun f cdv A outer s H E hr => ⟨_, (dss_cons (ds_if (DW.dt (dw_or (dt_val (d_isi m_isinstance (da_cons (dv 0) (da_cons (d_ty (n := "str") m_str (by decide +kernel)) da_nil)))) (dw_or1 (dt_cmp (o_in (u65 hr)) (d_ix (dv 0) d_int) (d_lst (da_cons d_str (da_cons d_str da_nil))) (by rfl)))))
      (dss_one (ds_ret (d_lst da_nil)))
      dss_nil)
    (dss_cons (ds_if (dt_cmp (o_in (u65 hr)) (d_ix (dv 0) d_int) (d_lst (da_cons d_str (da_cons d_str (da_cons d_str da_nil)))) (by rfl))
      (dss_one (ds_ret (d_lc (own := O__law_inner_0) rfl sc__law_inner.nd (di_seq (d_slice (dv 0) (do_some d_int) do_none)) (blkOk_by (own := O__law_inner_0) (N := N__law_inner) (sc := defScope s__law_inner) (by decide +kernel)) (fun _ _ _ _ _ => (dg_name (i := 1) sc__law_inner.nd rfl (.inl rfl))) (fun _ _ _ _ _ => dts_nil) (fun _ _ _ _ _ => (d_ix (dv 1) d_int)))))
      dss_nil)
    (dss_cons (ds_if (dt_cmp (o_eq (u64 hr)) (d_ix (dv 0) d_int) d_str (nomark _))
      (dss_one (ds_ret (d_list m_list (da_cons (d_slice (dv 0) (do_some d_int) do_none) da_nil))))
      dss_nil)
    (dss_one (ds_ret (d_lst (da_cons (d_ix (dv 0) (d_op o_sub (d_len m_len (da_cons (dv 0) da_nil)) d_int)) da_nil))))))), fun ws m Qd Qx h => ?_⟩) [] []) G (fun _ _ _ _ _ _ us hl => match us, hl with | [_], _ => rfl)
  · obtain ⟨_, _, rfl, _⟩ := h
    rfl
  · obtain ⟨n, t, rfl, ht, q⟩ := h
    have ln := sizeLine_eq
    have s0 : 0 ≤ sizeLine := Nat.zero_le _
    have s1 : 1 ≤ sizeLine := by omega
    have s2 : 2 ≤ sizeLine := by omega
    have s3 : 3 ≤ sizeLine := by omega
    have z4 : ∀ k, k ≤ 64 ↔ k ≤ 64 := fun _ => Iff.rfl
    cases t with
    | name x => exact ⟨rfl, s0, List.prefix_refl _, q⟩
    | gap a b => exact ⟨rfl, .str "gap", rfl, s2, rfl, rfl, Nat.zero_le _, Nat.le_of_ble_eq_true rfl, s0, List.prefix_refl _, q⟩
    | hole => exact ⟨rfl, .str "hole", rfl, s2, rfl, rfl, Nat.zero_le _, Nat.le_of_ble_eq_true rfl, s0, List.prefix_refl _, q⟩
    | pad a b c d t => exact ⟨rfl, .str "pad", rfl, s2, rfl, rfl, Nat.zero_le _, Nat.le_of_ble_eq_true rfl, .str "pad", rfl, s3, rfl, rfl, Nat.zero_le _, Nat.le_of_ble_eq_true rfl, .str "pad", rfl, rfl, rfl, Nat.zero_le _, Nat.zero_le _, encF t, rfl, s1, List.prefix_refl _, q⟩
    | clip a b t => exact ⟨rfl, .str "clip", rfl, s2, rfl, rfl, Nat.zero_le _, Nat.le_of_ble_eq_true rfl, .str "clip", rfl, s3, rfl, rfl, Nat.zero_le _, Nat.le_of_ble_eq_true rfl, .str "clip", rfl, rfl, rfl, Nat.zero_le _, Nat.zero_le _, encF t, rfl, s1, List.prefix_refl _, q⟩
    | grid k ts =>
      refine ⟨rfl, .str "grid", at0 _ _, s2, rfl, rfl, Nat.zero_le _, Nat.le_of_ble_eq_true rfl, .str "grid", at0 _ _, s3, rfl, rfl, Nat.zero_le _, Nat.le_of_ble_eq_true rfl, .str "grid", at0 _ _, rfl, rfl, Nat.zero_le _, Nat.zero_le _, List.prefix_refl _, ?_⟩
      have e : cutD (.str "grid" :: .int k :: encs ts) (some ((2 : Nat) : Int)) none = ts.map encF := by
        rw [cutD_from, encs_map]
        rfl
      show Qd (.v (.lst (cutD (.str "grid" :: .int k :: encs ts) (some ((2 : Nat) : Int)) none))) m
      rw [e]
      exact q
    | line w ts as =>
      cases n with
      | zero => exact ht.elim
      | succ n =>
        obtain ⟨hw, hl, h26, _, _⟩ := ht
        have ec : cutD (.str w :: partsD (encs ts) as) (some ((1 : Nat) : Int)) none = partsD (encs ts) as := by
          rw [cutD_from]
          rfl
        have go : lcL (gN 1) tYs (tO2 (oL ixD) (tV 1) (tK (.int 0))) [some (.v (encF (.line w ts as))), none] (cutD (.str w :: partsD (encs ts) as) (some ((1 : Nat) : Int)) none) [] m (defN m Qd Qx).rt := by
          rw [ec]
          refine lcL_map fstD ?_ (fun d Qt hd hq => ?_) ?_
          · rw [partsD_len (by rw [encs_len]; exact hl), encs_len]
            show 0 + _ ≤ _
            omega
          · obtain ⟨j, hj⟩ := List.mem_iff_getElem?.mp hd
            obtain ⟨t, a, _, _, rfl⟩ := partsD_at hj
            exact ⟨t, rfl, hq⟩
          · rw [partsD_fst (by rw [encs_len]; exact hl), encs_map]
            exact ⟨List.prefix_refl _, q⟩
        rcases hw with rfl | rfl | rfl
        · exact ⟨rfl, .str "row", at0 _ _, s2, rfl, rfl, Nat.zero_le _, Nat.le_of_ble_eq_true rfl, .str "row", at0 _ _, s3, rfl, rfl, Nat.zero_le _, Nat.le_of_ble_eq_true rfl, go⟩
        · exact ⟨rfl, .str "column", at0 _ _, s2, rfl, rfl, Nat.zero_le _, Nat.le_of_ble_eq_true rfl, .str "column", at0 _ _, s3, rfl, rfl, Nat.zero_le _, Nat.le_of_ble_eq_true rfl, go⟩
        · exact ⟨rfl, .str "pile", at0 _ _, s2, rfl, rfl, Nat.zero_le _, Nat.le_of_ble_eq_true rfl, .str "pile", at0 _ _, s3, rfl, rfl, Nat.zero_le _, Nat.le_of_ble_eq_true rfl, go⟩
end
end Fs
set_option Elab.async false
set_option linter.all false
set_option maxRecDepth 100000
set_option maxHeartbeats 8000000
namespace Fs
open PySem PySem.Spec PyProof.Rows L2
def allT : Nat → Fr → Int → List D
  | 0, t, k => [.tup [encF t, .int k]]
  | n + 1, t, k => .tup [encF t, .int k] :: ((insT t).map fun u => allT n u (k + 1)).flatten
theorem flat_len {l : List (List D)} {k : Nat} (h : ∀ x ∈ l, x.length ≤ k) : l.flatten.length ≤ l.length * k := by
  induction l with
  | nil => exact Nat.zero_le _
  | cons x l ih =>
    have h1 := h x List.mem_cons_self
    have h2 := ih fun y hy => h y (List.mem_cons_of_mem _ hy)
    rw [List.flatten_cons, List.length_append, List.length_cons, Nat.add_mul]
    omega
theorem all_len : ∀ {n : Nat} {t : Fr} {k : Int}, okT n t → (allT n t k).length ≤ 27 ^ n
  | 0, t, k, h => Nat.le_refl _
  | n + 1, t, k, h => by
    have h2 : ((insT t).map fun u => allT n u (k + 1)).flatten.length ≤ ((insT t).map fun u => allT n u (k + 1)).length * 27 ^ n := flat_len fun x hx => by
      obtain ⟨u, hu, rfl⟩ := List.mem_map.mp hx
      exact all_len (ok_ins h u hu)
    rw [List.length_map] at h2
    have h3 : (insT t).length * 27 ^ n ≤ 26 * 27 ^ n := Nat.mul_le_mul_right _ (ins_len h)
    have h4 : 0 < 27 ^ n := Nat.pow_pos (by decide)
    show _ + 1 ≤ 27 ^ (n + 1)
    rw [Nat.pow_succ]
    omega
def spAll (n : Nat) : SpD := fun ws m Q _ => ∃ (t : Fr) (k : Int), ws = [.v (encF t), .v (.int k)] ∧ okU n t ∧ Q (.v (.lst (allT (n - 1) t k))) m
def isB : Fr → Prop
  | .pad _ _ _ _ _ => True
  | .clip _ _ _ => True
  | .grid _ _ => True
  | .line _ _ _ => True
  | _ => False
def spRebL : SpD := fun ws m Q _ => ∃ (n : Nat) (t : Fr) (xs : List D), ws = [.v (encF t), .v (.lst xs)] ∧ okT n t ∧ isB t ∧ xs.length = (insT t).length ∧ Q (.v (putD t xs)) m
def spHol (n : Nat) : SpD := fun ws m Q _ => ∃ (t : Fr) (x : Str), ws = [.v (encF t), .v (.str x)] ∧ okU n t ∧ ∀ t', okU n t' → Q (.v (encF t')) m
def setT : Fr → List Fr → Fr
  | .pad a b c d _, [x] => .pad a b c d x
  | .clip a b _, [x] => .clip a b x
  | .grid k _, xs => .grid k xs
  | .line w _ as, xs => .line w xs as
  | t, _ => t
theorem put_set {t : Fr} {us : List Fr} (h : us.length = (insT t).length) : putD t (us.map encF) = encF (setT t us) := by
  cases t with
  | name x => rfl
  | gap a b => rfl
  | hole => rfl
  | pad a b c d t =>
    match us, h with
    | [u], _ => rfl
  | clip a b t =>
    match us, h with
    | [u], _ => rfl
  | grid k ts =>
    show D.tup (_ :: _ :: us.map encF) = D.tup (_ :: _ :: encs us)
    rw [encs_map]
  | line w ts as =>
    show D.tup (_ :: partsD (us.map encF) as) = D.tup (_ :: partsD (encs us) as)
    rw [encs_map]
theorem ok_set {n : Nat} {t : Fr} {us : List Fr} (ht : okT (n + 1) t) (h : us.length = (insT t).length) (hu : ∀ u ∈ us, okT n u) : okT (n + 1) (setT t us) := by
  cases t with
  | name x => exact ht
  | gap a b => trivial
  | hole => trivial
  | pad a b c d t =>
    match us, h, hu with
    | [u], _, hu => exact hu u (by simp)
  | clip a b t =>
    match us, h, hu with
    | [u], _, hu => exact hu u (by simp)
  | grid k ts =>
    have h : us.length = ts.length := h
    exact ⟨by rw [h]; exact ht.1, by rw [h]; exact ht.2.1, hu⟩
  | line w ts as =>
    have h : us.length = ts.length := h
    exact ⟨ht.1, by rw [h]; exact ht.2.1, by rw [h]; exact ht.2.2.1, ht.2.2.2.1, hu⟩
theorem all2_some {C : Fr → Prop} : ∀ {i : Nat} {ds ys : List D}, All2 (fun _ _ y => ∃ u, y = encF u ∧ C u) i ds ys → ∃ us : List Fr, ys = us.map encF ∧ us.length = ds.length ∧ ∀ u ∈ us, C u := fun h => by
  induction h with
  | nil => exact ⟨[], rfl, rfl, fun _ h => by cases h⟩
  | cons r _ ih =>
    obtain ⟨u, rfl, hu⟩ := r
    obtain ⟨us, rfl, h2, h3⟩ := ih
    exact ⟨u :: us, rfl, by rw [List.length_cons, h2]; rfl, fun v hv => by
      rcases List.mem_cons.mp hv with rfl | hv
      · exact hu
      · exact h3 v hv⟩
section
variable {P : Program} {w : World} {K : Frag} {mg : Str → Option Value} {base : Heap}
abbrev s__law_all : Stmt := top 19
abbrev N__law_all : List Str := ["_law_frame_z", "_law_depth_z", "_law_found", "_law_one"]
abbrev P__law_all : List Str := ["_law_frame_z", "_law_depth_z"]
theorem sc__law_all : FnScope N__law_all P__law_all (defScope s__law_all) := ⟨rfl, rfl, rfl, by decide +kernel, rfl, by decide +kernel, by decide +kernel⟩
theorem dd__law_all (G : Gs K mg "_law_all" s__law_all) (g__law_inner : Gd P w K mg base (L2.CX P w) 1 "_law_inner" P__law_inner (lift K spIns)) :
    ∀ n : Nat, n ≤ 5 → Gd P w K mg base (L2.CX P w) (n + 1) "_law_all" P__law_all (lift K (spAll n)) := by
  intro n
  induction n with
  | zero =>
    intros
    refine Fo.gd (fo_okX sc__law_all (fun vs H Q E h => ?_) (fun f cdv A outer s H vs Q E hr h => ?_)) G (fun _ _ _ _ _ _ us hl => match us, hl with | [_, _], _ => rfl)
    · obtain ⟨_, _, _, _, _, _, _, r, ⟨_, _, _, f, _⟩, _⟩ := h
      exact f.elim
    · obtain ⟨_, _, _, _, _, _, _, r, ⟨_, _, _, f, _⟩, _⟩ := h
      exact f.elim
  | succ n g__law_all =>
  intro hn
  have g__law_all := g__law_all (by omega)
  refine Fo.gd (fo_d sc__law_all (fun ws m Q Qx h => ?_) (fun f cdv A outer s H E hr => ⟨_, (dss_cons (ds_set (i := 2) sc__law_all.nd rfl (.inl rfl) (d_lst (da_cons (d_tup (da_cons (dv 0) (da_cons (dv 1) da_nil))) da_nil)))
    (dss_cons (ds_for (passes_of rfl) rfl (di_seq (d_call g__law_inner (hr.mono (by omega)) (passE (takes_of rfl rfl rfl rfl)) (da_cons (dv 0) da_nil))) (dg_name (i := 3) sc__law_all.nd rfl (.inl rfl))
      (dss_one (ds_set (i := 2) sc__law_all.nd rfl (.inl rfl) (d_op o_add (dv 2) (d_call g__law_all (hr.mono (by omega)) (passE (takes_of rfl rfl rfl rfl)) (da_cons (dv 3) (da_cons (d_op o_add (dv 1) d_int) da_nil)))))))
    (dss_one (ds_ret (dv 2))))), fun ws m Qd Qx h => ?_⟩) [] []) G (fun _ _ _ _ _ _ us hl => match us, hl with | [_, _], _ => rfl)
  · obtain ⟨_, _, rfl, _⟩ := h
    rfl
  · obtain ⟨t, k, rfl, ht, q⟩ := h
    have ht : okT n t := ht
    have ln := sizeLine_eq
    have q : Qd (.v (.lst (allT n t k))) m := q
    have p27 : 27 ^ n ≤ 27 ^ 4 := Nat.pow_le_pow_right (by decide) (by omega)
    have e27 : 27 ^ 4 = 531441 := by decide
    have al := all_len (k := k) ht
    refine ⟨by show 2 ≤ sizeLine; omega, by show 1 ≤ sizeLine; omega, n, t, rfl, ht, ?_⟩
    have ea : allT n t k = .tup [encF t, .int k] :: ((insT t).map fun u => allT (n - 1) u (k + 1)).flatten := by
      cases n with
      | zero =>
        rw [ins_zero ht]
        rfl
      | succ n => rfl
    refine sFor0 (fun i en m' => m' = m ∧ ∃ v3, en = [some (.v (encF t)), some (.v (.int k)), some (.v (.lst (.tup [encF t, .int k] :: (((insT t).take i).map fun u => allT (n - 1) u (k + 1)).flatten))), v3]) ⟨rfl, none, rfl⟩ ?_ ?_
    · rintro j d en m' N' hd ⟨rfl, v3, rfl⟩ r1 r2 r3 hn2
      rw [List.getElem?_map] at hd
      obtain ⟨u, hu, rfl⟩ := Option.map_eq_some_iff.mp hd
      have hu2 := List.mem_of_getElem? hu
      have e : (((insT t).take (j + 1)).map fun u => allT (n - 1) u (k + 1)).flatten = (((insT t).take j).map fun u => allT (n - 1) u (k + 1)).flatten ++ allT (n - 1) u (k + 1) := by
        rw [List.take_succ, hu, List.map_append, List.flatten_append]
        simp
      have le : ((((insT t).take j).map fun u => allT (n - 1) u (k + 1)).flatten ++ allT (n - 1) u (k + 1)).length ≤ ((insT t).map fun u => allT (n - 1) u (k + 1)).flatten.length := by
        rw [← e]
        conv => rhs; rw [← List.take_append_drop (j + 1) (insT t), List.map_append, List.flatten_append, List.length_append]
        exact Nat.le_add_right _ _
      rw [ea, List.length_cons] at al
      rw [List.length_append] at le
      refine ⟨u, k + 1, rfl, ?_, ?_, ?_⟩
      · cases n with
        | zero =>
          rw [ins_zero ht] at hu2
          cases hu2
        | succ n => exact ok_ins ht u hu2
      · show _ + 1 + _ ≤ _
        omega
      · refine (hn2 _ _ ⟨rfl, some (.v (encF u)), ?_⟩).1
        rw [e]
        rfl
    · rintro en m' ⟨rfl, v3, rfl⟩
      rw [List.length_map, List.take_length]
      rw [ea] at q
      exact ⟨List.prefix_refl _, q⟩
end
end Fs
set_option Elab.async false
set_option linter.all false
set_option maxRecDepth 100000
set_option maxHeartbeats 8000000
namespace Fs
open PySem PySem.Spec PyProof.Rows L2
theorem frs_of {α : Type} {f : α → D} {C : Fr → Prop} : ∀ {gs : List α}, (∀ g ∈ gs, ∃ t, f g = encF t ∧ C t) → ∃ ts : List Fr, gs.map f = encs ts ∧ ts.length = gs.length ∧ ∀ t ∈ ts, C t
  | [], _ => ⟨[], rfl, rfl, fun _ h => by cases h⟩
  | g :: gs, h => by
    obtain ⟨t, e, c⟩ := h g List.mem_cons_self
    obtain ⟨ts, h1, h2, h3⟩ := frs_of (gs := gs) fun g hg => h g (List.mem_cons_of_mem _ hg)
    refine ⟨t :: ts, ?_, by rw [List.length_cons, List.length_cons, h2], fun u hu => ?_⟩
    · show f g :: gs.map f = encF t :: encs ts
      rw [e, h1]
    · rcases List.mem_cons.mp hu with rfl | hu
      · exact c
      · exact h3 u hu
theorem parts_map {α : Type} {f : α → D} {g : α → D × D} : ∀ gs : List α, partsD (gs.map f) (gs.map g) = gs.map fun a => partD (f a) (g a)
  | [] => rfl
  | a :: gs => by
    show partD (f a) (g a) :: partsD (gs.map f) (gs.map g) = _
    rw [parts_map gs]
    rfl
/-- a frame without a hole -/
def noHole : Nat → Fr → Prop
  | _, .hole => False
  | n + 1, t => ∀ u ∈ insT t, noHole n u
  | 0, _ => True
theorem no_in {t : Fr} (h : ∀ u ∈ insT t, ∀ N, noHole N u) (k : isHole t = false) : ∀ N, noHole N t := fun N => by
  cases N with
  | zero => cases t <;> first | trivial | cases k
  | succ N => cases t <;> first | exact (fun u hu => h u hu N) | cases k
theorem tree_fr {n : Nat} {names : List Str} {d : D} (h : TreeR n names d) : (∀ x ∈ names, x.length ≤ 600) → ∃ t, d = encF t ∧ okT n t ∧ ∀ N, noHole N t := by
  induction h with
  | gap n a b _ _ => exact fun _ => ⟨.gap a b, rfl, by cases n <;> trivial, no_in (fun _ h => by cases h) rfl⟩
  | name n x => exact fun hx => ⟨.name x, rfl, by cases n <;> exact hx x (by simp), no_in (fun _ h => by cases h) rfl⟩
  | pad n ns a b c d t _ _ _ _ _ ih =>
    intro hx
    obtain ⟨u, rfl, hu, hN⟩ := ih hx
    exact ⟨.pad a b c d u, rfl, hu, no_in (fun v hv => by rw [List.mem_singleton.mp hv]; exact hN) rfl⟩
  | clip n ns a b t _ _ _ ih =>
    intro hx
    obtain ⟨u, rfl, hu, hN⟩ := ih hx
    exact ⟨.clip a b u, rfl, hu, no_in (fun v hv => by rw [List.mem_singleton.mp hv]; exact hN) rfl⟩
  | grid n k gs _ h2 h26 _ ih =>
    intro hx
    obtain ⟨ts, h1, hl, ho⟩ := frs_of (gs := gs) (f := (·.2)) (C := fun t => okT n t ∧ ∀ N, noHole N t) fun g hg => ih g hg fun x hxg => hx x (List.mem_flatMap.mpr ⟨g, hg, hxg⟩)
    refine ⟨.grid k ts, ?_, ⟨by omega, by omega, fun t h => (ho t h).1⟩, no_in (fun v hv => (ho v hv).2) rfl⟩
    show D.tup (_ :: _ :: gs.map (·.2)) = D.tup (_ :: _ :: encs ts)
    rw [h1]
  | pile n gs h2 h26 _ _ ih =>
    intro hx
    obtain ⟨ts, h1, hl, ho⟩ := frs_of (gs := gs) (f := (·.1.2)) (C := fun t => okT n t ∧ ∀ N, noHole N t) fun g hg => ih g hg fun x hxg => hx x (List.mem_flatMap.mpr ⟨g, hg, hxg⟩)
    refine ⟨.line "pile" ts (gs.map fun g => (.str g.2.1, .str g.2.2)), ?_, ⟨.inr (.inr rfl), by rw [List.length_map]; exact hl.symm, by omega, fun a ha => ?_, fun t h => (ho t h).1⟩, no_in (fun v hv => (ho v hv).2) rfl⟩
    · show D.tup (_ :: _) = D.tup (_ :: partsD (encs ts) _)
      rw [← h1, parts_map]
      rfl
    · obtain ⟨g, _, rfl⟩ := List.mem_map.mp ha
      exact ⟨rfl, rfl⟩
  | line n w gs hw h2 h26 _ _ ih =>
    intro hx
    obtain ⟨ts, h1, hl, ho⟩ := frs_of (gs := gs) (f := (·.1.2)) (C := fun t => okT n t ∧ ∀ N, noHole N t) fun g hg => ih g hg fun x hxg => hx x (List.mem_flatMap.mpr ⟨g, hg, hxg⟩)
    refine ⟨.line w ts (gs.map fun g => (.str g.2.1, .int g.2.2)), ?_, ⟨?_, by rw [List.length_map]; exact hl.symm, by omega, fun a ha => ?_, fun t h => (ho t h).1⟩, no_in (fun v hv => (ho v hv).2) rfl⟩
    · show D.tup (_ :: _) = D.tup (_ :: partsD (encs ts) _)
      rw [← h1, parts_map]
      rfl
    · rcases hw with rfl | rfl
      · exact .inl rfl
      · exact .inr (.inl rfl)
    · obtain ⟨g, _, rfl⟩ := List.mem_map.mp ha
      exact ⟨rfl, rfl⟩
theorem ok_mono : ∀ {n : Nat} {t : Fr}, okT n t → okT (n + 1) t
  | 0, t, h => by cases t <;> first | exact h | exact h.elim
  | n + 1, t, h => by
    cases t with
    | name x => exact h
    | gap a b => trivial
    | hole => trivial
    | pad a b c d t => exact ok_mono (n := n) (t := t) h
    | clip a b t => exact ok_mono (n := n) (t := t) h
    | grid k ts => exact ⟨h.1, h.2.1, fun t ht => ok_mono (h.2.2 t ht)⟩
    | line w ts as => exact ⟨h.1, h.2.1, h.2.2.1, h.2.2.2.1, fun t ht => ok_mono (h.2.2.2.2 t ht)⟩
theorem ok_to {n m : Nat} {t : Fr} (h : okT n t) (l : n ≤ m) : okT m t := by
  induction l with
  | refl => exact h
  | step _ ih => exact ok_mono ih
/-! ### fit for the law's comparison -/
theorem flat_fit {k : Nat} {d : D} (h : flatA d = true) : fitD (k + 1) d := by
  cases d <;> first | exact h | cases h
theorem parts_fit {k : Nat} : ∀ {xs : List D} {as : List (D × D)}, (∀ x ∈ xs, fitD (k + 1) x) → (∀ a ∈ as, flatA a.1 = true ∧ flatA a.2 = true) → ∀ d ∈ partsD xs as, fitD (k + 2) d
  | [], [], _, _, _, h => by cases h
  | [], _ :: _, _, _, _, h => by cases h
  | _ :: _, [], _, _, _, h => by cases h
  | x :: xs, a :: as, hx, ha, d, h => by
    rcases List.mem_cons.mp h with rfl | h
    · obtain ⟨a1, a2⟩ := ha a List.mem_cons_self
      refine fit_tup (by show 3 < 2 ^ 20; decide) fun e he => ?_
      simp only [List.mem_cons, List.not_mem_nil, or_false] at he
      rcases he with rfl | rfl | rfl
      · exact hx _ List.mem_cons_self
      · exact flat_fit a1
      · exact flat_fit a2
    · exact parts_fit (fun x h => hx x (List.mem_cons_of_mem _ h)) (fun a h => ha a (List.mem_cons_of_mem _ h)) d h
theorem put_fit {n k : Nat} {t : Fr} {xs : List D} (h : okT (n + 1) t) (hx : ∀ x ∈ xs, fitD (k + 1) x) (hl : xs.length = (insT t).length) : fitD (k + 3) (putD t xs) := by
  have two : ∀ x ∈ xs, fitD (k + 2) x := fun x h => fit_mono (hx x h)
  have i26 := ins_len h
  cases t with
  | name x => exact rfl
  | gap a b =>
    refine fit_tup (by show 3 < 2 ^ 20; decide) fun e he => ?_
    simp only [List.mem_cons, List.not_mem_nil, or_false] at he
    rcases he with rfl | rfl | rfl <;> exact rfl
  | hole =>
    refine fit_tup (by show 1 < 2 ^ 20; decide) fun e he => ?_
    rw [List.mem_singleton.mp he]
    exact rfl
  | pad a b c d t =>
    match xs, hl, two with
    | [x], _, two =>
      refine fit_tup (by show 6 < 2 ^ 20; decide) fun e he => ?_
      simp only [List.mem_cons, List.not_mem_nil, or_false] at he
      rcases he with rfl | rfl | rfl | rfl | rfl | rfl <;> first | exact rfl | exact two _ (by simp)
  | clip a b t =>
    match xs, hl, two with
    | [x], _, two =>
      refine fit_tup (by show 4 < 2 ^ 20; decide) fun e he => ?_
      simp only [List.mem_cons, List.not_mem_nil, or_false] at he
      rcases he with rfl | rfl | rfl | rfl <;> first | exact rfl | exact two _ (by simp)
  | grid g ts =>
    have hl : xs.length = ts.length := hl
    have i26 : ts.length ≤ 26 := i26
    refine fit_tup (by rw [List.length_cons, List.length_cons]; omega) fun e he => ?_
    rcases List.mem_cons.mp he with rfl | he
    · exact rfl
    rcases List.mem_cons.mp he with rfl | he
    · exact rfl
    · exact two e he
  | line w ts as =>
    obtain ⟨_, al, i26, ha, _⟩ := h
    have hl : xs.length = ts.length := hl
    refine fit_tup (by rw [List.length_cons, partsD_len (by omega)]; omega) fun e he => ?_
    rcases List.mem_cons.mp he with rfl | he
    · exact rfl
    · exact parts_fit hx ha e he
theorem fit_more {k n : Nat} {d : D} (h : fitD k d) (l : k ≤ n) : fitD n d := by
  induction l with
  | refl => exact h
  | step _ ih => exact fit_mono ih
theorem enc_fit : ∀ {n : Nat} {t : Fr}, okT n t → fitD (2 * n + 2) (encF t)
  | 0, t, h => by
    cases t with
    | name x => exact rfl
    | gap a b =>
        refine fit_tup (by show 3 < 2 ^ 20; decide) fun e he => ?_
        simp only [List.mem_cons, List.not_mem_nil, or_false] at he
        rcases he with rfl | rfl | rfl <;> exact rfl
    | hole =>
      refine fit_tup (by show 1 < 2 ^ 20; decide) fun e he => ?_
      rw [List.mem_singleton.mp he]
      exact rfl
    | _ => exact h.elim
  | n + 1, t, h => by
    rw [← put_same t]
    have := put_fit h (k := 2 * n + 1) (xs := (insT t).map encF) (fun x hx => by
      obtain ⟨u, hu, rfl⟩ := List.mem_map.mp hx
      exact enc_fit (ok_ins h u hu)) (by rw [List.length_map])
    exact this
theorem fill_fit {f : D} {k : Nat} (hf : fitD (k + 1) f) : ∀ {n : Nat} {t : Fr}, okT n t → fitD (2 * n + 2 + k) (fillT n f t)
  | 0, t, h => by
    cases t with
    | hole => exact fit_more hf (by omega)
    | name x => exact fit_more (enc_fit (n := 0) (t := .name x) h) (by omega)
    | gap a b => exact fit_more (enc_fit (n := 0) (t := .gap a b) h) (by omega)
    | _ => exact h.elim
  | n + 1, t, h => by
    by_cases c : isHole t = true
    · have e : fillT (n + 1) f t = f := by cases t <;> first | rfl | cases c
      rw [e]
      exact fit_more hf (by omega)
    · have e : fillT (n + 1) f t = putD t ((insT t).map (fillT n f)) := by cases t <;> first | rfl | exact absurd rfl c
      rw [e]
      have := put_fit h (k := 2 * n + 1 + k) (xs := (insT t).map (fillT n f)) (fun x hx => by
        obtain ⟨u, hu, rfl⟩ := List.mem_map.mp hx
        exact fit_more (fill_fit hf (ok_ins h u hu)) (by omega)) (by rw [List.length_map])
      exact fit_more this (by omega)
/-- a frame without a hole stays as it is -/
theorem fill_same {f : D} : ∀ {n : Nat} {t : Fr}, noHole n t → fillT n f t = encF t
  | 0, t, h => by cases t <;> first | rfl | exact h.elim
  | n + 1, t, h => by
    have e : fillT (n + 1) f t = putD t ((insT t).map (fillT n f)) := by cases t <;> first | rfl | exact h.elim
    have h2 : ∀ u ∈ insT t, noHole n u := by cases t <;> first | exact h | exact h.elim
    have e2 : (insT t).map (fillT n f) = (insT t).map encF := List.map_congr_left fun u hu => fill_same (h2 u hu)
    rw [e, e2, put_same]
/-! ### all frames, plain -/
theorem all_plain : ∀ {n : Nat} {t : Fr} {k : Int}, okT n t → ∀ d ∈ allT n t k, plainD d = true ∧ depD d ≤ 2 * n + 2
  | n, t, k, h => by
    have one : ∀ {n : Nat} {t : Fr} {k : Int}, okT n t → plainD (.tup [encF t, .int k]) = true ∧ depD (.tup [encF t, .int k]) ≤ 2 * n + 2 := fun {n t k} h => by
      obtain ⟨p1, p2⟩ := enc_plain h
      constructor
      · show (plainD (encF t) && (true && true)) = true
        rw [p1]
        rfl
      · show max (depD (encF t)) (max 0 0) + 1 ≤ _
        omega
    cases n with
    | zero =>
      intro d hd
      rw [List.mem_singleton.mp hd]
      exact one h
    | succ n =>
      intro d hd
      rcases List.mem_cons.mp hd with rfl | hd
      · exact one h
      · obtain ⟨l, hl, hd⟩ := List.mem_flatten.mp hd
        obtain ⟨u, hu, rfl⟩ := List.mem_map.mp hl
        obtain ⟨r1, r2⟩ := all_plain (ok_ins h u hu) d hd
        exact ⟨r1, by omega⟩
mutual
theorem deq_self : ∀ d : D, plainD d = true → deq d d = true
  | .non, _ => rfl
  | .bl b, _ => by show (b == b) = true; simp
  | .int i, _ => by show (i == i) = true; simp
  | .str x, _ => by show (x == x) = true; simp
  | .tup xs, h => deqL_self xs h
  | .lst xs, h => deqL_self xs h
  | .ty _, h => by cases h
  | .fn _, h => by cases h
  | .dic _, h => by cases h
  | .obj _ _, h => by cases h
  | .exc _ _, h => by cases h
theorem deqL_self : ∀ xs : List D, plainL xs = true → deqL xs xs = true
  | [], _ => rfl
  | x :: xs, h => by
    have h := Bool.and_eq_true_iff.mp h
    show (deq x x && deqL xs xs) = true
    rw [deq_self x h.1, deqL_self xs h.2]
    rfl
end
end Fs
set_option Elab.async false
set_option linter.all false
set_option maxRecDepth 100000
set_option maxHeartbeats 8000000
namespace Fs
open PySem PySem.Spec PyProof.Rows L2
abbrev s_law : Stmt := top 22
abbrev N_law : List Str := ["_law_script", "_law_bag_here", "_law_turn", "_law_frame_z", "_law_due", "_law_first", "_law_told", "_law_tower_here", "_law_wide", "_law_none", "_law_pair"]
abbrev P_law : List Str := ["_law_script"]
abbrev O_law_0 : List (Str × Nat) := [("_law_pair", 10)]
abbrev O_law_1 : List (Str × Nat) := [("_law_pair", 10)]
abbrev O_law_2 : List (Str × Nat) := [("_law_pair", 10)]
abbrev O_law_3 : List (Str × Nat) := [("_law_pair", 10)]
abbrev O_law_4 : List (Str × Nat) := [("_law_pair", 10)]
theorem sc_law : FnScope N_law P_law (defScope s_law) := ⟨rfl, rfl, rfl, by decide +kernel, rfl, by decide +kernel, by decide +kernel⟩
/-- the law ends and gives True -/
def lawN : Dn := ⟨fun _ _ => False, fun x _ => x = .v (.bl true), fun _ _ => False, fun _ _ => False, noX⟩
/-- the law's slots behind its first statement -/
abbrev bagE (n : Nat) : En := none :: some (.loc 0) :: List.replicate n none
theorem bagE_at {n i : Nat} {x : W} {p : Addr} {σ : L2.St} (e : (bagE n)[i]? = some (some x)) (h : σ[1]? = some (some (.ref p))) : x = .loc 0 ∧ σ[i]? = some (some (.ref p)) := by
  match i, e with
  | 0, e => cases e
  | 1, e =>
    have e : some (some (W.loc 0)) = some (some x) := e
    cases e
    exact ⟨rfl, h⟩
  | i + 2, e =>
    have e : (List.replicate n none)[i]? = some (some x) := e
    rw [List.getElem?_replicate] at e
    split at e <;> cases e
section
variable {P : Program} {w : World} {K : Frag} {mg : Str → Option Value} {base : Heap}
theorem law_start {X : Cx} {t2 : TS} {T : DTS} {p l : Addr} {H1 : Hp} {Q : VK} {σ : L2.St} {en : En} (hs : SS X E0 t2 T) (B1 : BagAt H1 p l) (hl : σ.length = en.length) (he : ∀ (i : Nat) (x : W), en[i]? = some (some x) → x = .loc 0 ∧ σ[i]? = some (some (.ref p))) (hT : T en [.bag] lawN) (q : ∀ H', Q (.bl true) H') (D : Ends) (hD : D.rt = Q) : t2 D σ H1 := by
  obtain ⟨i, rs, sd, ns, e1, e2, e3⟩ := B1.ex
  have lp : l ≠ p := fun z => by
    subst z
    rw [e2] at e1
    cases ns <;> cases e1
  let B : Hp := fun b => if b = l then some (.lst (ns.map V.int)) else none
  have bl : B l = some (.lst (ns.map V.int)) := if_pos rfl
  have M : MemOk X.K B [p] [.bag] H1 := by
    refine ⟨fun a o e => ?_, rfl, fun a l' => ?_, fun n a m ea em _ => ?_, fun n k a m m' ea ek _ _ _ _ => ?_, fun a ps e => ?_⟩
    · have e : (if a = l then some (HO.lst (ns.map V.int)) else none) = some o := e
      by_cases c : a = l
      · rw [if_pos c] at e
        cases e
        rw [c]
        exact e2
      · rw [if_neg c] at e
        cases e
    · obtain ⟨n, m, ea, _⟩ := l'
      have ez : a = p := by
        cases n with
        | zero => simpa using ea.symm
        | succ n => simp at ea
      subst ez
      exact if_neg (fun z => lp z.symm)
    · have ez : a = p ∧ m = .bag := by
        cases n with
        | zero => exact ⟨by simpa using ea.symm, by simpa using em.symm⟩
        | succ n => simp at ea
      obtain ⟨rfl, rfl⟩ := ez
      exact ⟨l, i, rs, sd, ns, e1, bl, e3⟩
    · have e1 : n = 0 := by
        cases n with
        | zero => rfl
        | succ n => simp at ea
      have e2 : k = 0 := by
        cases k with
        | zero => rfl
        | succ n => simp at ek
      rw [e1, e2]
    · have e : (if a = l then some (HO.lst (ns.map V.int)) else none) = some (.tbl ps) := e
      by_cases c : a = l
      · rw [if_pos c] at e
        cases e
      · rw [if_neg c] at e
        cases e
  refine hs B [p] en [.bag] σ H1 lawN D ⟨M, hl, fun i x e => ?_⟩ ExOf.no hT ⟨fun _ _ _ _ _ _ _ _ z => z.elim, fun B' μ' m' H' x v s M' r z => ?_, fun _ _ _ _ _ _ _ _ z => z.elim, fun _ _ _ _ _ _ _ _ z => z.elim⟩
  · obtain ⟨rfl, h⟩ := he i x e
    exact ⟨_, h, p, rfl, rfl⟩
  · have z : x = .v (.bl true) := z
    subst z
    cases (show Rv X.K B' v (.bl true) from r)
    rw [hD]
    exact q H'
theorem tabB_nil {B H : Hp} {a : Addr} {q : Str} (h : H a = some (.tbl #[])) : TabB B H a q := ⟨#[], h, trivial, fun pos cv hc => by cases hc⟩
/-- .. where the law makes lambdas -/
theorem law_startT {X : Cx} {t2 : TS} {T : DTS} {p l PT : Addr} {qT : Str} {H1 : Hp} {Q : VK} {σ : L2.St} {en : En} (hs : SS X E0 t2 T) (B1 : BagAt H1 p l) (hP : H1 PT = some (.tbl #[])) (hl : σ.length = en.length) (he : ∀ (i : Nat) (x : W), en[i]? = some (some x) → x = .loc 0 ∧ σ[i]? = some (some (.ref p))) (hT : T en [.bag, .tab PT qT] lawN) (q : ∀ H', Q (.bl true) H') (D : Ends) (hD : D.rt = Q) : t2 D σ H1 := by
  obtain ⟨i, rs, sd, ns, e1, e2, e3⟩ := B1.ex
  have lp : l ≠ p := fun z => by
    subst z
    rw [e2] at e1
    cases ns <;> cases e1
  have pP : p ≠ PT := fun z => by
    subst z
    rw [e1] at hP
    cases hP
  have lP : l ≠ PT := fun z => by
    subst z
    rw [e2] at hP
    cases hP
  let B : Hp := fun b => if b = l then some (.lst (ns.map V.int)) else none
  have bl : B l = some (.lst (ns.map V.int)) := if_pos rfl
  have two : ∀ {n : Nat} {a : Addr} {m : MO}, [p, PT][n]? = some a → [MO.bag, .tab PT qT][n]? = some m → (n = 0 ∧ a = p ∧ m = .bag) ∨ (n = 1 ∧ a = PT ∧ m = .tab PT qT) := fun {n a m} ea em => by
    match n with
    | 0 =>
      left
      exact ⟨rfl, by simpa using ea.symm, by simpa using em.symm⟩
    | 1 =>
      right
      exact ⟨rfl, by simpa using ea.symm, by simpa using em.symm⟩
    | n + 2 => simp at ea
  have M : MemOk X.K B [p, PT] [.bag, .tab PT qT] H1 := by
    refine ⟨fun a o e => ?_, rfl, fun a l' => ?_, fun n a m ea em _ => ?_, fun n k a m m' ea ek em ek' _ _ => ?_, fun a ps e => ?_⟩
    · have e : (if a = l then some (HO.lst (ns.map V.int)) else none) = some o := e
      by_cases c : a = l
      · rw [if_pos c] at e
        cases e
        rw [c]
        exact e2
      · rw [if_neg c] at e
        cases e
    · obtain ⟨n, m, ea, em, _⟩ := l'
      rcases two ea em with ⟨_, rfl, _⟩ | ⟨_, rfl, _⟩
      · exact if_neg (fun z => lp z.symm)
      · exact if_neg (fun z => lP z.symm)
    · rcases two ea em with ⟨_, rfl, rfl⟩ | ⟨_, rfl, rfl⟩
      · exact ⟨l, i, rs, sd, ns, e1, bl, e3⟩
      · exact ⟨rfl, tabB_nil hP⟩
    · rcases two ea em with ⟨h0, h1, _⟩ | ⟨h0, h1, _⟩
      · rcases two ek ek' with ⟨k0, k1, _⟩ | ⟨k0, k1, _⟩
        · rw [h0, k0]
        · exact absurd (h1.symm.trans k1) pP
      · rcases two ek ek' with ⟨k0, k1, _⟩ | ⟨k0, k1, _⟩
        · exact absurd (k1.symm.trans h1) pP
        · rw [h0, k0]
    · have e : (if a = l then some (HO.lst (ns.map V.int)) else none) = some (.tbl ps) := e
      by_cases c : a = l
      · rw [if_pos c] at e
        cases e
      · rw [if_neg c] at e
        cases e
  refine hs B [p, PT] en [.bag, .tab PT qT] σ H1 lawN D ⟨M, hl, fun i x e => ?_⟩ ExOf.no hT ⟨fun _ _ _ _ _ _ _ _ z => z.elim, fun B' μ' m' H' x v s M' r z => ?_, fun _ _ _ _ _ _ _ _ z => z.elim, fun _ _ _ _ _ _ _ _ z => z.elim⟩
  · obtain ⟨rfl, h⟩ := he i x e
    exact ⟨_, h, p, rfl, rfl⟩
  · have z : x = .v (.bl true) := z
    subst z
    cases (show Rv X.K B' v (.bl true) from r)
    rw [hD]
    exact q H'
end
end Fs
set_option Elab.async false
set_option linter.all false
set_option maxRecDepth 100000
set_option maxHeartbeats 8000000
namespace Fs
open PySem PySem.Spec PyProof.Rows L2
section
variable {α : Type}
/-- the delegate that a yield-from code waits for -/
def yfOf : Code → Option Addr
  | .builtin id ⟨.ref a :: _, _⟩ => if id = "proto.yield_from" then some a else none
  | _ => none
/-- a generator object -/
def isGenO : Option Obj → Bool
  | some o => o.genNumber?.isSome
  | none => false
/-- the tree of the code c: a yield that waits for a generator is quiet, any other loud one is refused -/
def er (c : Code) : Sem α → Sem α
  | .pure a => .pure a
  | .raise e => .raise e
  | .unsupported x => .unsupported x
  | .finish e => .finish e
  | .rule t k => .rule t fun x => er c (k x)
  | .at p k => .at p fun x => er c (k x)
  | .load a p k => .load a p fun x => er c (k x)
  | .update a p f k => .update a p f fun x => er c (k x)
  | .alloc o k => .alloc o fun x => er c (k x)
  | .loadIfAlive a k => .loadIfAlive a fun x => er c (k x)
  | .point l k => .point l fun x => er c (k x)
  | .register a k => .register a fun x => er c (k x)
  | .fresh k => .fresh fun x => er c (k x)
  | .ask k => .ask fun x => er c (k x)
  | .choose s n k => .choose s n fun x => er c (k x)
  | .os q l k => .os q l fun x => er c (k x)
  | .call d h g l k => .call d h g l fun x => er c (k x)
  | .handled o k => .handled o fun x => er c (k x)
  | .newGen d k => .newGen d fun x => er c (k x)
  | .genState g k => .genState g fun x => er c (k x)
  | .resume g r l k => .resume g r l fun x => er c (k x)
  | .yield v g l k => match g, yfOf c with
    | false, none => .yield v false l fun x => er c (k x)
    | false, some _ => .yield v false (.none :: l) fun x => er c (k x)
    | true, some a => .loadIfAlive a fun o => if isGenO o = true then .yield v false (.ellipsis :: l) fun x => er c (k x) else .unsupported "loud"
    | true, none => .yield v true l fun x => er c (k x)
  | .stack k => .stack fun x => er c (k x)
  | .fork d k => .fork d fun x => er c (k x)
  | .thread k => .thread fun x => er c (k x)
  | .await a t d l k => .await a t d l fun x => er c (k x)
end
def erF : Frame → Frame
  | .ret k h g l c p kp => .ret (fun r => er c (k r)) h g l c p kp
  | .gen g k l c p => .gen g (fun r => er c (k r)) l c p
def erS (fs : List Frame) : List Frame := fs.map erF
/-- its loudness is that of a yield from alone -/
def mildC (c : Code) (fs : List Frame) : Bool := (yfOf c).isSome && !fs.any Frame.guarded
/-- the live list, marked in a yield from -/
def erL (c : Code) (b : Bool) (l : List Value) : List Value := match yfOf c with
  | none => l
  | some _ => (if b = true then .ellipsis else .none) :: l
def erG : GenState → GenState
  | .fresh c => .fresh c
  | .suspended k l c p fs cl => .suspended (fun r => er c (k r)) (erL c (cl && mildC c fs) l) c p (erS fs) (cl && !mildC c fs)
  | .running => .running
  | .finished => .finished
def erSh (s : Shared) : Shared := { s with gens := s.gens.map erG }
def erT (t : Thread) : Thread := ⟨er t.code t.cur, t.code, t.pos, erS t.stack⟩
theorem erF_where (f : Frame) : (erF f).where_ = f.where_ := by cases f <;> rfl
theorem erF_guarded (f : Frame) : (erF f).guarded = f.guarded := by cases f <;> rfl
theorem erS_where (fs : List Frame) : (erS fs).map Frame.where_ = fs.map Frame.where_ := by
  unfold erS
  rw [List.map_map]
  exact List.map_congr_left fun f _ => erF_where f
theorem erS_any (fs : List Frame) : (erS fs).any Frame.guarded = fs.any Frame.guarded := by
  unfold erS
  rw [List.any_map]
  congr 1
  funext f
  exact erF_guarded f
theorem erS_split (fs : List Frame) : splitAtGen (erS fs) = (splitAtGen fs).map fun q => (erS q.1, (q.2.1.1, (fun r => er q.2.1.2.2.1 (q.2.1.2.1 r)), q.2.1.2.2.1, q.2.1.2.2.2), erS q.2.2) := by
  induction fs with
  | nil => rfl
  | cons f fs ih =>
    cases f with
    | gen g k l c p => rfl
    | ret k h g l c p kp =>
      show (splitAtGen (erS fs)).map _ = ((splitAtGen fs).map _).map _
      rw [ih]
      cases splitAtGen fs <;> rfl
theorem erS_top (b : Bool) (fs : List Frame) : topHandled.go b (erS fs) = topHandled.go b fs := by
  induction fs generalizing b with
  | nil => cases b <;> rfl
  | cons f fs ih =>
    cases f with
    | gen g k l c p =>
      show topHandled.go b (Frame.gen g _ l c p :: erS fs) = _
      cases b <;> simp only [topHandled.go, ih]
    | ret k h g l c p kp =>
      show topHandled.go b (Frame.ret _ h g l c p kp :: erS fs) = _
      cases b with
      | true => simp only [topHandled.go, ih]
      | false => cases h <;> simp only [topHandled.go, ih]
/-- loud here -/
def loudY (t : Thread) : Bool := match t.cur with
  | .yield _ g _ _ => g
  | _ => false

theorem er_id {α : Type} {c : Code} (h : yfOf c = none) (t : Sem α) : er c t = t := by
  induction t with
  | yield v g l k ih =>
    cases g with
    | false =>
      rw [er.eq_def]
      simp only [h]
      congr 1
      funext x
      exact ih x
    | true =>
      rw [er.eq_def]
      simp only [h]
      congr 1
      funext x
      exact ih x
  | _ => first | rfl | (rw [er.eq_def]; simp only []; congr 1; funext x; rename_i ih; exact ih x)
theorem er_q {α : Type} {c : Code} {v : Value} {l : List Value} {k : Resume → Sem α} : er c (Sem.yield v false l k) = .yield v false (erL c false l) fun x => er c (k x) := by
  rw [er.eq_def]
  unfold erL
  cases yfOf c <;> rfl
end Fs
set_option Elab.async false
set_option linter.all false
set_option maxRecDepth 100000
set_option maxHeartbeats 8000000
namespace Fs
open PySem PySem.Spec PyProof.Rows L2
def erStep : Step → Step
  | .go s t => .go (erSh s) (erT t)
  | .halt o s => .halt o (erSh s)
def den0 (den : Code → Sem PySem.Fin) : Code → Sem PySem.Fin := fun c => er c (den c)
theorem erG_seen (x : GenState) : (erG x).seen = x.seen := by
  cases x with
  | suspended k l c p fs cl =>
    show (GenStatus.suspended, some ((c, p) :: (erS fs).map Frame.where_)) = (GenStatus.suspended, some ((c, p) :: fs.map Frame.where_))
    rw [erS_where]
  | _ => rfl
theorem erS_cons (f : Frame) (fs : List Frame) : erS (f :: fs) = erF f :: erS fs := rfl
theorem erS_app (a b : List Frame) : erS (a ++ b) = erS a ++ erS b := List.map_append ..
theorem map_set {gens : Array GenState} {g : Nat} {x : GenState} : (gens.setIfInBounds g x).map erG = (gens.map erG).setIfInBounds g (erG x) := by
  apply Array.ext_getElem?
  intro i
  rw [Array.getElem?_map, Array.getElem?_setIfInBounds, Array.getElem?_setIfInBounds, Array.getElem?_map, Array.size_map]
  by_cases c : g = i
  · rw [if_pos c, if_pos c]
    by_cases d : i < gens.size
    · simp [c, d]
    · simp [c, d]
  · rw [if_neg c, if_neg c]
theorem map_push {gens : Array GenState} {x : GenState} : (gens.push x).map erG = (gens.map erG).push (erG x) := by simp
theorem map_get {gens : Array GenState} {g : Nat} : (gens.map erG)[g]? = (gens[g]?).map erG := by simp
section
variable (den : Code → Sem PySem.Fin) (prog : Program) (w : World)
theorem lock {s : Shared} {t : Thread} (hy : loudY t = false) (he : t.atItsEnd = false) : step (den0 den) prog w (erSh s) (erT t) = erStep (step den prog w s t) := by
  obtain ⟨heap, gens, drawn, toks, os⟩ := s
  obtain ⟨cur, code, pos, stack⟩ := t
  cases cur with
  | pure a =>
    cases a with
    | again c =>
      cases stack with
      | nil => cases code <;> cases c <;> rfl
      | cons f fs => cases f <;> cases code <;> cases c <;> rfl
    | done f =>
      cases stack with
      | nil => exact absurd he (by simp [Thread.atItsEnd])
      | cons fr fs =>
        cases fr with
        | ret k h g l c p kp => rfl
        | gen g k l c p =>
          show Step.go ⟨heap, (gens.map erG).setIfInBounds g .finished, drawn, toks, os⟩ _ = Step.go ⟨heap, (gens.setIfInBounds g .finished).map erG, drawn, toks, os⟩ _
          rw [map_set]
          rfl
  | raise e =>
    cases stack with
    | nil => exact absurd he (by simp [Thread.atItsEnd])
    | cons fr fs =>
      cases fr with
      | ret k h g l c p kp => rfl
      | gen g k l c p =>
        show Step.go ⟨heap, (gens.map erG).setIfInBounds g .finished, drawn, toks, os⟩ _ = Step.go ⟨heap, (gens.setIfInBounds g .finished).map erG, drawn, toks, os⟩ _
        rw [map_set]
        rfl
  | unsupported x => rfl
  | finish e => exact absurd he (by simp [Thread.atItsEnd])
  | rule t k => rfl
  | «at» p k => rfl
  | load a p k =>
    simp only [step, erSh, erT, er, erStep]
    cases heap.get? a <;> rfl
  | update a p f k =>
    by_cases h : (heap.get? a).isSome = true <;> simp [step, erSh, erT, er, erStep, h]
  | alloc o k => rfl
  | loadIfAlive a k => rfl
  | point l k => rfl
  | register a k => rfl
  | fresh k => rfl
  | ask k => rfl
  | choose s n k =>
    simp only [step, erSh, erT, er, erStep]
    by_cases h : n = 0
    · simp only [h, if_true]
    · simp only [h, if_false]
  | os q l k => rfl
  | call d h g l k => rfl
  | handled o k =>
    cases o with
    | false =>
      show Step.go _ ⟨er code (k (topHandled (erS stack))), _, _, _⟩ = Step.go _ ⟨er code (k (topHandled stack)), _, _, _⟩
      rw [show topHandled (erS stack) = topHandled stack from erS_top false stack]
      rfl
    | true =>
      simp only [step, erSh, erT, er, erStep, if_true]
      rw [erS_split]
      cases q : splitAtGen stack with
      | none =>
        simp only [Option.map_none]
        rw [show topHandled (erS stack) = topHandled stack from erS_top false stack]
      | some z =>
        obtain ⟨fs, b, r⟩ := z
        simp only [Option.map_some]
        rw [show topHandled (erS fs) = topHandled fs from erS_top false fs]
  | newGen d k =>
    show Step.go ⟨heap, (gens.map erG).push (.fresh d), drawn, toks, os⟩ ⟨er code (k (gens.map erG).size), _, _, _⟩ = Step.go ⟨heap, (gens.push (.fresh d)).map erG, drawn, toks, os⟩ ⟨er code (k gens.size), _, _, _⟩
    rw [map_push, Array.size_map]
    rfl
  | genState g k =>
    simp only [step, erSh, erT, er, erStep]
    rw [map_get]
    cases q : gens[g]? with
    | none => rfl
    | some x =>
      cases x with
      | suspended kk l c p fs cl =>
        simp only [Option.map_some, erG]
        rw [erS_where]
      | _ => rfl
  | resume g r l k =>
    simp only [step, erSh, erT, er, erStep]
    rw [map_get]
    cases q : gens[g]? with
    | none => rfl
    | some x =>
      cases x with
      | fresh c =>
        cases r with
        | send v =>
          cases v <;> first
            | rfl
            | (simp only [Option.map_some, erG]; rw [map_set]; rfl)
        | throw e =>
          simp only [Option.map_some, erG]
          rw [map_set]
          rfl
      | suspended kk l c p fs cl =>
        simp only [Option.map_some, erG]
        rw [map_set, erS_app]
        rfl
      | running => rfl
      | finished => rfl
  | yield v g l k =>
    have hg : g = false := hy
    subst hg
    have ey : er code (Sem.yield v false l k) = .yield v false (erL code false l) fun x => er code (k x) := er_q
    show step (den0 den) prog w (erSh ⟨heap, gens, drawn, toks, os⟩) ⟨er code (Sem.yield v false l k), code, pos, erS stack⟩ = _
    rw [ey]
    simp only [step, erSh, erStep]
    rw [erS_split]
    cases q : splitAtGen stack with
    | none => simp [erT, ey]
    | some z =>
      obtain ⟨fs, ⟨gn, kg, cg, pg⟩, r⟩ := z
      simp only [Option.map_some]
      rw [map_set]
      simp only [erG, Bool.false_or, erS_any]
      have e : (fs.any Frame.guarded && !mildC code fs) = fs.any Frame.guarded := by
        unfold mildC
        cases fs.any Frame.guarded <;> cases (yfOf code).isSome <;> rfl
      have e2 : (fs.any Frame.guarded && mildC code fs) = false := by
        unfold mildC
        cases fs.any Frame.guarded <;> cases (yfOf code).isSome <;> rfl
      rw [e, e2]
      rfl
  | stack k =>
    show Step.go _ ⟨er code (k ((code, pos) :: (erS stack).map Frame.where_)), _, _, _⟩ = _
    rw [erS_where]
    rfl
  | fork d k => rfl
  | thread k => rfl
  | await a t d l k => rfl
end
end Fs
set_option Elab.async false
set_option linter.all false
set_option maxRecDepth 100000
set_option maxHeartbeats 8000000
namespace Fs
open PySem PySem.Spec PyProof.Rows L2
theorem yfOf_code {c : Code} {a : Addr} (h : yfOf c = some a) : ∃ rest kw, c = .builtin "proto.yield_from" ⟨.ref a :: rest, kw⟩ := by
  unfold yfOf at h
  split at h
  · rename_i id a' rest kw
    split at h
    · rename_i e
      subst e
      cases h
      exact ⟨_, _, rfl⟩
    · cases h
  · cases h
/-- a loud yield of a yield from over a generator -/
structure Mild (s : Shared) (t : Thread) : Prop where
  ex : ∃ v l k a fs b r, t.cur = .yield v true l k ∧ yfOf t.code = some a ∧ isGenO (s.heap.get? a) = true ∧ splitAtGen t.stack = some (fs, b, r) ∧ fs.any Frame.guarded = false
theorem deleg_no {s : Shared} {a : Addr} (h : isGenO (s.heap.get? a) = true) (hr : s.heap.life.registered = []) : delegateShows s (.ref a) = false := by
  cases q : s.heap.get? a with
  | none =>
    unfold delegateShows
    simp only [q]
  | some o =>
    rw [q] at h
    have h : o.genNumber?.isSome = true := h
    unfold delegateShows
    simp only [q]
    cases g : o.genNumber? with
    | none => rw [g] at h; cases h
    | some n =>
      simp only [hr]
      rfl
section
variable (den : Code → Sem PySem.Fin) (prog : Program) (w : World)
theorem lifeStep_mild (others : List Value) {s : Shared} {t : Thread} (h : Mild s t) (hz : s.asleep) : lifeStep den prog w others s t = step den prog w s t := by
  obtain ⟨v, l, k, a, fs, b, r, e1, e2, e3, e4, e5⟩ := h.ex
  obtain ⟨cur, code, pos, stack⟩ := t
  have e1 : cur = .yield v true l k := e1
  subst e1
  obtain ⟨rest, kw, rfl⟩ := yfOf_code e2
  have e4 : splitAtGen stack = some (fs, b, r) := e4
  obtain ⟨hr, hc⟩ := hz
  have sp : Thread.special ⟨.yield v true l k, .builtin "proto.yield_from" ⟨.ref a :: rest, kw⟩, pos, stack⟩ = true := by simp [Thread.special, Thread.yieldsInsideHandler]
  have cs : closingShows s fs (.builtin "proto.yield_from" ⟨.ref a :: rest, kw⟩) true = false := by
    unfold closingShows
    rw [e5]
    exact deleg_no e3 hr
  obtain ⟨fb, kg, cg, pg⟩ := b
  unfold lifeStep
  rw [if_pos sp]
  simp only [collectorTurn?, e4, cs]
  simp [stepCounting, hc, Thread.atItsEnd]
theorem moves_mild (pr : Profile) {s : Shared} {t : Thread} (h : Mild s t) : (Config.single s t).moves pr = [.run 0] := by
  obtain ⟨v, l, k, a, fs, b, r, e1, _⟩ := h.ex
  obtain ⟨cur, code, pos, stack⟩ := t
  have e1 : cur = .yield v true l k := e1
  subst e1
  simp [Config.moves, Config.single, movesFrom, Thread.moves, Thread.atomic, Thread.rests, Thread.tells]
theorem pick_mild {s : Shared} {t : Thread} (h : Mild s t) (hr : s.heap.life.registered = []) : (Config.single s t).pick w = .ok (.run 0, .single s t) := by
  have h1 : (Config.single s t).collect? w.params = none := by
    simp [Config.collect?, Config.single, (nothing_to_collect _ _ _ s t hr).1]
  have h2 : (Config.single s t).collectable = [] := by
    simp [Config.collectable, Config.single, (nothing_to_collect w.params _ _ s t hr).2]
  simp only [Config.pick, h1, h2, Config.pickThread, moves_mild _ h]
  cases w.params.lifetimes <;> simp
theorem run_mild {s : Shared} {t : Thread} (h : Mild s t) (hz : s.asleep) : (Config.single s t).run den prog w 0 = (step den prog w s t).lift := by
  have hl := fun others => lifeStep_mild den prog w others h hz
  obtain ⟨v, l, k, a, fs, b, r, e1, e2, e3, e4, e5⟩ := h.ex
  obtain ⟨cur, code, pos, stack⟩ := t
  have e1 : cur = .yield v true l k := e1
  subst e1
  simp only [Config.run, Config.single]
  simp [hl, others_single, frozenBadly, ThreadState.insideWrite]
  split <;> simp_all [Step.lift, Config.single, Thread.finalizes]
end
end Fs
set_option Elab.async false
set_option linter.all false
set_option maxRecDepth 100000
set_option maxHeartbeats 8000000
namespace Fs
open PySem PySem.Spec PyProof.Rows L2
section
variable (den : Code → Sem PySem.Fin) (prog : Program) (w : World)
theorem sstep_mild {s : Shared} {t : Thread} (h : Mild s t) (hz : s.asleep) : sstep den prog w (.single s t) = (step den prog w s t).lift := by
  simp only [sstep, pick_mild w h hz.1, Config.move, run_mild den prog w h hz]
/-- steps that the machine of one thread takes too -/
inductive Path : Shared → Thread → Shared → Thread → Prop
  | refl (s : Shared) (t : Thread) : Path s t s t
  | step {s s' sf : Shared} {t t' tf : Thread} : (t.calm = true ∨ Mild s t) → PySem.step den prog w s t = .go s' t' → Path s' t' sf tf → Path s t sf tf
theorem Path.life {s sf : Shared} {t tf : Thread} (h : Path den prog w s t sf tf) : sf.heap.life = s.heap.life := by
  induction h with
  | refl => rfl
  | step _ e _ ih => rw [ih, step_life den prog w _ _ _ _ e]
theorem Path.sched {s sf : Shared} {t tf : Thread} (h : Path den prog w s t sf tf) : ∀ {m : Nat} {o : Outcome} {s1 : Shared}, s.asleep → schedN den prog w m (.single sf tf) = .halted o s1 → ∃ n, schedN den prog w n (.single s t) = .halted o s1 := by
  induction h with
  | refl => exact fun _ e => ⟨_, e⟩
  | @step s s' sf t t' tf ok e _ ih =>
    intro m o s1 hz hm
    have hz' : s'.asleep := by
      unfold Shared.asleep
      rw [step_life den prog w s s' t t' e]
      exact hz
    obtain ⟨n, hn⟩ := ih hz' hm
    have es : sstep den prog w (.single s t) = (PySem.step den prog w s t).lift := by
      rcases ok with hc | hm'
      · rcases sstep_single den prog w s t hc hz with z | z
        · exact z
        · rw [e] at z
          cases z
      · exact sstep_mild den prog w hm' hz
    refine ⟨n + 1, ?_⟩
    simp only [schedN, es, e]
    exact hn
/-- how a thread ends -/
def endO (t : Thread) : Option Outcome := match t.cur, t.stack with
  | .pure (.done f), [] => some (.done f)
  | .raise e, [] => some (.uncaught e)
  | _, _ => none
theorem end_sched {s : Shared} {t : Thread} {o : Outcome} (he : endO t = some o) (hz : s.asleep) (hl : leftWithCleanup (forgetSuspended (w.params.lifetimes == .anyTime) s).gens = false) :
    schedN den prog w 1 (.single s t) = .halted o (forgetSuspended (w.params.lifetimes == .anyTime) s) := by
  obtain ⟨cur, code, pos, stack⟩ := t
  have key : ∀ cur : Sem PySem.Fin, (∃ f, cur = .pure (.done f) ∧ o = .done f) ∨ (∃ e, cur = .raise e ∧ o = .uncaught e) → stack = [] → schedN den prog w 1 (.single s ⟨cur, code, pos, stack⟩) = .halted o (forgetSuspended (w.params.lifetimes == .anyTime) s) := fun cur hc hs => by
    subst hs
    have calm : Thread.calm ⟨cur, code, pos, []⟩ = true := by
      rcases hc with ⟨f, rfl, _⟩ | ⟨e, rfl, _⟩ <;> rfl
    have fin : ∀ others, lifeStep den prog w others s ⟨cur, code, pos, []⟩ = .halt o (forgetSuspended (w.params.lifetimes == .anyTime) s) := fun others => by
      rw [lifeStep_calm0 den prog w others s _ calm hz]
      have ae : Thread.atItsEnd ⟨cur, code, pos, []⟩ = true := by
        rcases hc with ⟨f, rfl, _⟩ | ⟨e, rfl, _⟩ <;> rfl
      rw [if_pos ae]
      generalize forgetSuspended (w.params.lifetimes == .anyTime) s = S at *
      obtain ⟨heap, gens, drawn, toks, os⟩ := S
      have hl : leftWithCleanup gens = false := hl
      rcases hc with ⟨f, rfl, rfl⟩ | ⟨e, rfl, rfl⟩
      · simp [PySem.step, PySem.finish, hl]
      · simp [PySem.step, PySem.finish, hl]
    have hp := pick_single w s ⟨cur, code, pos, []⟩ calm hz.1
    simp only [schedN, sstep, hp, Config.move]
    rcases hc with ⟨f, rfl, rfl⟩ | ⟨e, rfl, rfl⟩
    · simp only [Config.run, Config.single]
      simp [fin, others_single, frozenBadly, ThreadState.insideWrite]
    · simp only [Config.run, Config.single]
      simp [fin, others_single, frozenBadly, ThreadState.insideWrite]
  unfold endO at he
  split at he
  · cases he
    rename_i h1 h2
    exact key _ (.inl ⟨_, h1, rfl⟩) h2
  · cases he
    rename_i h1 h2
    exact key _ (.inr ⟨_, h1, rfl⟩) h2
  · cases he
end
end Fs
set_option Elab.async false
set_option linter.all false
set_option maxRecDepth 100000
set_option maxHeartbeats 8000000
namespace Fs
open PySem PySem.Spec PyProof.Rows L2
theorem er_calm {t : Thread} (hy : loudY t = false) (h : (erT t).calm = true) : t.calm = true := by
  obtain ⟨cur, code, pos, stack⟩ := t
  cases cur with
  | pure a => cases a <;> exact h
  | yield v g l k =>
    have hg : g = false := hy
    subst hg
    have e : erT ⟨.yield v false l k, code, pos, stack⟩ = ⟨.yield v false (erL code false l) fun x => er code (k x), code, pos, erS stack⟩ := by
      show (⟨er code (.yield v false l k), code, pos, erS stack⟩ : Thread) = _
      rw [er_q]
    rw [e] at h
    cases q : splitAtGen stack with
    | none => simp [Thread.calm, Thread.atCollectorCode, Thread.yieldsInsideHandler, q]
    | some z =>
      obtain ⟨fs, b, r⟩ := z
      simp [Thread.calm, Thread.atCollectorCode, Thread.yieldsInsideHandler, erS_split, q, erS_any] at h
      simpa [Thread.calm, Thread.atCollectorCode, Thread.yieldsInsideHandler, q] using h
  | _ => exact h
theorem er_loud_some {α : Type} {c : Code} {v : Value} {l : List Value} {k : Resume → Sem α} {a : Addr} (h : yfOf c = some a) : er c (.yield v true l k) = .loadIfAlive a fun o => if isGenO o = true then .yield v false (.ellipsis :: l) fun x => er c (k x) else .unsupported "loud" := by
  rw [er]
  rw [h]
theorem er_loud_none {α : Type} {c : Code} {v : Value} {l : List Value} {k : Resume → Sem α} (h : yfOf c = none) : er c (.yield v true l k) = .yield v true l fun x => er c (k x) := by
  rw [er.eq_def]
  simp only [h]
theorem er_end {t : Thread} : (erT t).atItsEnd = t.atItsEnd := by
  obtain ⟨cur, code, pos, stack⟩ := t
  cases cur with
  | pure a => cases a <;> cases stack <;> rfl
  | raise e => cases stack <;> rfl
  | yield v g l k =>
    cases g with
    | false =>
      show Thread.atItsEnd ⟨er code (.yield v false l k), code, pos, erS stack⟩ = false
      rw [er_q]
      rfl
    | true =>
      show Thread.atItsEnd ⟨er code (.yield v true l k), code, pos, erS stack⟩ = false
      unfold er
      cases yfOf code <;> rfl
  | _ => rfl
section
variable (den : Code → Sem PySem.Fin) (prog : Program) (w : World)
theorem halt_not {s s' : Shared} {t : Thread} {o : Outcome} (he : t.atItsEnd = false) (h : step den prog w s t = .halt o s') : o.ends = false := by
  obtain ⟨heap, gens, drawn, toks, os⟩ := s
  obtain ⟨cur, code, pos, stack⟩ := t
  cases cur <;> simp only [step, PySem.finish] at h <;> (repeat' split at h) <;> simp_all [Thread.atItsEnd, Outcome.ends] <;> (first | (obtain ⟨h, _⟩ := h; subst h; rfl) | rfl | skip)
theorem end_halts {s : Shared} {t : Thread} (he : t.atItsEnd = true) : ∃ o s', step den prog w s t = .halt o s' := by
  obtain ⟨heap, gens, drawn, toks, os⟩ := s
  obtain ⟨cur, code, pos, stack⟩ := t
  cases cur with
  | pure a =>
    cases a with
    | again c => exact absurd he (by simp [Thread.atItsEnd])
    | done f =>
      cases stack with
      | nil =>
        simp only [step, PySem.finish]
        split <;> exact ⟨_, _, rfl⟩
      | cons f fs => exact absurd he (by simp [Thread.atItsEnd])
  | raise e =>
    cases stack with
    | nil =>
      simp only [step, PySem.finish]
      split <;> exact ⟨_, _, rfl⟩
    | cons f fs => exact absurd he (by simp [Thread.atItsEnd])
  | finish e =>
    simp only [step]
    split <;> exact ⟨_, _, rfl⟩
  | _ => exact absurd he (by simp [Thread.atItsEnd])
theorem sim : ∀ (n : Nat) {s : Shared} {t : Thread} {o : Outcome} {s0 : Shared}, runN (den0 den) prog w n (erSh s) (erT t) = .halted o s0 → o.ends = true → (∀ k s1 t1, runN (den0 den) prog w k (erSh s) (erT t) = .running s1 t1 → t1.calm = true) →
    ∃ sf tf, Path den prog w s t sf tf ∧ tf.atItsEnd = true ∧ step (den0 den) prog w (erSh sf) (erT tf) = .halt o s0 := by
  intro n
  induction n using Nat.strongRecOn with
  | _ n ih =>
    intro s t o s0 hr ho hc
    cases n with
    | zero => cases hr
    | succ n =>
      have c0 := hc 0 _ _ rfl
      cases hl : loudY t with
      | false =>
        cases he : t.atItsEnd with
        | true =>
          refine ⟨s, t, .refl _ _, he, ?_⟩
          obtain ⟨o', s', e⟩ := end_halts (den0 den) prog w (s := erSh s) (t := erT t) (er_end.trans he)
          simp only [runN, e] at hr
          cases hr
          exact e
        | false =>
          have lk := lock den prog w (s := s) hl he
          cases q : step den prog w s t with
          | go s' t' =>
            rw [q] at lk
            have lk : step (den0 den) prog w (erSh s) (erT t) = .go (erSh s') (erT t') := lk
            have hr' : runN (den0 den) prog w n (erSh s') (erT t') = .halted o s0 := by
              simp only [runN, lk] at hr
              exact hr
            obtain ⟨sf, tf, p, e1, e2⟩ := ih n (Nat.lt_succ_self n) hr' ho fun k s1 t1 hk => hc (k + 1) s1 t1 (by simp only [runN, lk]; exact hk)
            exact ⟨sf, tf, .step (.inl (er_calm hl c0)) q p, e1, e2⟩
          | halt o' s' =>
            rw [q] at lk
            have lk : step (den0 den) prog w (erSh s) (erT t) = .halt o' (erSh s') := lk
            simp only [runN, lk] at hr
            cases hr
            rw [halt_not den prog w he q] at ho
            cases ho
      | true =>
        obtain ⟨cur, code, pos, stack⟩ := t
        cases cur with
        | yield v g l k =>
          have hg : g = true := hl
          subst hg
          cases ya : yfOf code with
          | none =>
            have e2 : erT ⟨.yield v true l k, code, pos, stack⟩ = ⟨.yield v true l fun x => er code (k x), code, pos, erS stack⟩ := by
              show (⟨er code (.yield v true l k), code, pos, erS stack⟩ : Thread) = _
              rw [er_loud_none ya]
            rw [e2] at c0
            exact absurd c0 (by simp [Thread.calm, Thread.yieldsInsideHandler])
          | some a =>
            have e2 : erT ⟨.yield v true l k, code, pos, stack⟩ = ⟨.loadIfAlive a fun o => if isGenO o = true then .yield v false (.ellipsis :: l) fun x => er code (k x) else .unsupported "loud", code, pos, erS stack⟩ := by
              show (⟨er code (.yield v true l k), code, pos, erS stack⟩ : Thread) = _
              rw [er_loud_some ya]
            have e3 : step (den0 den) prog w (erSh s) (erT ⟨.yield v true l k, code, pos, stack⟩) = .go (erSh s) ⟨if isGenO (s.heap.get? a) = true then .yield v false (.ellipsis :: l) fun x => er code (k x) else .unsupported "loud", code, pos, erS stack⟩ := by
              rw [e2]
              rfl
            simp only [runN, e3] at hr
            cases n with
            | zero => cases hr
            | succ n =>
              cases hg : isGenO (s.heap.get? a) with
              | false =>
                rw [hg] at hr
                cases hr
                cases ho
              | true =>
                rw [hg] at hr e3
                simp only [if_true] at hr e3
                have c1 := hc 1 _ _ (by simp only [runN, e3]; rfl)
                cases sp : splitAtGen stack with
                | none =>
                  have e4 : step (den0 den) prog w (erSh s) ⟨.yield v false (.ellipsis :: l) fun x => er code (k x), code, pos, erS stack⟩ = .halt (.stuck "yield outside a generator") (erSh s) := by
                    simp only [step, erSh]
                    rw [erS_split, sp]
                    rfl
                  simp only [runN, e4] at hr
                  cases hr
                  cases ho
                | some z =>
                  obtain ⟨fs, ⟨gn, kg, cg, pg⟩, r⟩ := z
                  have un : fs.any Frame.guarded = false := by
                    simp [Thread.calm, Thread.atCollectorCode, Thread.yieldsInsideHandler, erS_split, sp, erS_any] at c1
                    simpa using c1
                  have real : step den prog w s ⟨.yield v true l k, code, pos, stack⟩ = .go (s.setGen gn (.suspended k l code pos fs true)) ⟨kg (.yielded v), cg, pg, r⟩ := by
                    obtain ⟨heap, gens, drawn, toks, os⟩ := s
                    simp only [step, sp]
                    rfl
                  have e4 : step (den0 den) prog w (erSh s) ⟨.yield v false (.ellipsis :: l) fun x => er code (k x), code, pos, erS stack⟩ = .go (erSh (s.setGen gn (.suspended k l code pos fs true))) (erT ⟨kg (.yielded v), cg, pg, r⟩) := by
                    obtain ⟨heap, gens, drawn, toks, os⟩ := s
                    simp only [step, erSh, Shared.setGen]
                    rw [erS_split, sp]
                    simp only [Option.map_some]
                    rw [map_set]
                    have em : mildC code fs = true := by
                      unfold mildC
                      rw [ya, un]
                      rfl
                    have el : erL code (true && true) l = .ellipsis :: l := by
                      unfold erL
                      rw [ya]
                      rfl
                    simp only [erG, Bool.false_or, erS_any, un, em, el]
                    rfl
                  simp only [runN, e4] at hr
                  obtain ⟨sf, tf, p, f1, f2⟩ := ih n (by omega) hr ho fun j s1 t1 hk => hc (j + 2) s1 t1 (by
                    have : runN (den0 den) prog w (j + 1 + 1) (erSh s) (erT ⟨.yield v true l k, code, pos, stack⟩) = .running s1 t1 := by
                      simp only [runN, e3, e4]
                      exact hk
                    exact this)
                  exact ⟨sf, tf, .step (.inr ⟨v, l, k, a, fs, _, r, rfl, ya, hg, sp, un⟩) real p, f1, f2⟩
        | _ => cases hl
end
end Fs
set_option Elab.async false
set_option linter.all false
set_option maxRecDepth 100000
set_option maxHeartbeats 8000000
namespace Fs
open PySem PySem.Spec PyProof.Rows L2
/-- the generators whose last yield was loud wait for generators (a state of the quiet machine) -/
def GensOk (s : Shared) : Prop := ∀ (i : Nat) (k : Resume → Sem PySem.Fin) (l : List Value) (c : Code) (p : Pos) (fs : List Frame) (cl : Bool), s.gens[i]? = some (.suspended k (.ellipsis :: l) c p fs cl) → ∀ a, yfOf c = some a → isGenO (s.heap.get? a) = true
/-- the same of the real machine's state -/
def GensR (s : Shared) : Prop := ∀ (i : Nat) (k : Resume → Sem PySem.Fin) (l : List Value) (c : Code) (p : Pos) (fs : List Frame), s.gens[i]? = some (.suspended k l c p fs true) → mildC c fs = true → ∀ a, yfOf c = some a → isGenO (s.heap.get? a) = true
theorem forget_clean {s : Shared} (hz : s.asleep) (all : Bool) (h : leftWithCleanup (erSh s).gens = false) (g : GensR s) : leftWithCleanup (forgetSuspended all s).gens = false := by
  obtain ⟨heap, gens, drawn, toks, os⟩ := s
  unfold leftWithCleanup at h ⊢
  rw [Array.any_eq_false] at h ⊢
  intro i hi
  have hi' : i < gens.size := by simpa [forgetSuspended] using hi
  have hx : gens[i]? = some gens[i] := Array.getElem?_eq_getElem hi'
  have he := h i (by simpa [erSh] using hi')
  simp only [erSh, Array.getElem_map] at he
  simp only [forgetSuspended, Array.getElem_map]
  generalize gens[i] = x at *
  cases x with
  | suspended k l c p fs cl =>
    cases cl with
    | false => simp
    | true =>
      have he : ¬ (true && !mildC c fs) = true := he
      have m : mildC c fs = true := by
        cases q : mildC c fs with
        | true => rfl
        | false => rw [q] at he; exact absurd rfl he
      unfold mildC at m
      obtain ⟨m1, m2⟩ := Bool.and_eq_true_iff.mp m
      obtain ⟨a, ha⟩ := Option.isSome_iff_exists.mp m1
      have gg := g i k l c p fs hx m a ha
      obtain ⟨rest, kw, rfl⟩ := yfOf_code ha
      have cs : closingShows ⟨heap, gens, drawn, toks, os⟩ fs (.builtin "proto.yield_from" ⟨.ref a :: rest, kw⟩) true = false := by
        unfold closingShows
        rw [show fs.any Frame.guarded = false by simpa using m2]
        exact deleg_no (s := ⟨heap, gens, drawn, toks, os⟩) gg hz.1
      simp [cs]
  | _ => simp
theorem gens_back {s s' : Shared} (e : (erSh s).forget = s'.forget) (g : GensOk s') : GensR s := by
  intro i k l c p fs h hm a ha
  have hh : s.heap = s'.heap := (congrArg Shared.heap e : (erSh s).forget.heap = s'.forget.heap)
  have hg : ((erSh s).forget).gens[i]? = (s'.forget).gens[i]? := by rw [e]
  have el : erL c (true && mildC c fs) l = .ellipsis :: l := by
    unfold erL
    rw [ha, hm]
    rfl
  simp only [Shared.forget, erSh, Array.getElem?_map, h, Option.map_some, erG, el] at hg
  cases q : s'.gens[i]? with
  | none => rw [q] at hg; cases hg
  | some x =>
    rw [q] at hg
    cases x with
    | suspended k2 l2 c2 p2 fs2 cl2 =>
      simp only [Option.map_some, GenState.forget, Option.some.injEq, GenState.suspended.injEq] at hg
      obtain ⟨_, e2, e3, _⟩ := hg
      subst e2 e3
      rw [hh]
      exact g i k2 l c p2 fs2 cl2 q a ha
    | fresh c2 => simp [GenState.forget] at hg
    | running => simp [GenState.forget] at hg
    | finished => simp [GenState.forget] at hg
section
variable (prog : Program) (w : World)
/-- the model with quiet yields from generators -/
abbrev M0 : Model := ⟨den0 (denote table), prog, w⟩
theorem fin_of {S s1 : Shared} {o q : Outcome} (h : PySem.finish o S = .halt q s1) (hq : ∀ m, q ≠ .unsupported m) : o = q ∧ s1 = S ∧ leftWithCleanup S.gens = false := by
  unfold PySem.finish at h
  by_cases z : leftWithCleanup S.gens = true
  · rw [if_pos z] at h
    exact absurd (Step.halt.inj h).1.symm (hq _)
  · rw [if_neg z] at h
    exact ⟨(Step.halt.inj h).1, (Step.halt.inj h).2.symm, by simpa using z⟩
theorem out_ne (r : Result) : ∀ m, outcomeOf r ≠ .unsupported m := by
  intro m h
  cases r <;> cases h
theorem out_ne2 (r : Result) : ∀ m, outcomeOf r ≠ .ended m := by
  intro m h
  cases r <;> cases h
theorem end_of {s s1 : Shared} {t : Thread} {r : Result} (he : t.atItsEnd = true) (h : step (den0 (denote table)) prog w (erSh s) (erT t) = .halt (outcomeOf r) s1) : endO t = some (outcomeOf r) ∧ s1 = erSh s ∧ leftWithCleanup (erSh s).gens = false := by
  obtain ⟨cur, code, pos, stack⟩ := t
  cases cur with
  | pure a =>
    cases a with
    | again c => exact absurd he (by simp [Thread.atItsEnd])
    | done f =>
      cases stack with
      | nil =>
        have h' : PySem.finish (.done f) (erSh s) = .halt (outcomeOf r) s1 := h
        obtain ⟨e1, e2, e3⟩ := fin_of h' (out_ne r)
        exact ⟨congrArg some e1, e2, e3⟩
      | cons f fs => exact absurd he (by simp [Thread.atItsEnd])
  | raise e =>
    cases stack with
    | nil =>
      have h' : PySem.finish (.uncaught e) (erSh s) = .halt (outcomeOf r) s1 := h
      obtain ⟨e1, e2, e3⟩ := fin_of h' (out_ne r)
      exact ⟨congrArg some e1, e2, e3⟩
    | cons f fs => exact absurd he (by simp [Thread.atItsEnd])
  | finish e =>
    have h' : PySem.finish (.ended e) (erSh s) = .halt (outcomeOf r) s1 := h
    exact absurd (fin_of h' (out_ne r)).1.symm (out_ne2 r e)
  | _ => exact absurd he (by simp [Thread.atItsEnd])
/-- what the logic over M0 shows, the real machine does -/
theorem loud_sched {t : Sem PySem.Fin} {c : Code} {p : Pos} {s : Shared} {R : Result → Shared → Prop} (hz : s.asleep)
    (h : Sem.wp (M0 prog w) ⟨c, none, none, [], none⟩ (er c t) (Sem.finPost (M0 prog w) ⟨c, none, none, [], none⟩ fun r s' => (R r s' ∧ GensOk s') ∧ leftWithCleanup s'.gens = false) (fun e _ s' => (R (.error e) s' ∧ GensOk s') ∧ leftWithCleanup s'.gens = false) p (erSh s)) :
    ∃ n r s1 s2, schedN (denote table) prog w n (.single s ⟨t, c, p, []⟩) = .halted (outcomeOf r) s1 ∧ R r s2 ∧ s1.heap = s2.heap ∧ s1.drawn = s2.drawn ∧ s1.toks = s2.toks ∧ s1.os = s2.os := by
  obtain ⟨n, r, s', hn, hR, hG⟩ := (wp_iff_halts (M := M0 prog w) (er c t) (fun r s' => R r s' ∧ GensOk s') p (erSh s)).mp h
  obtain ⟨s'', hr, hf, hc⟩ := runNI_real (den0 (denote table)) prog w hn (outcomeOf_ends r)
  obtain ⟨sf, tf, pa, he, hs⟩ := sim (denote table) prog w n (s := s) (t := ⟨t, c, p, []⟩) hr (outcomeOf_ends r) hc
  obtain ⟨ho, rfl, hl⟩ := end_of prog w he hs
  have hzf : sf.asleep := by
    unfold Shared.asleep
    rw [Path.life _ _ _ pa]
    exact hz
  have gf := gens_back hf hG
  obtain ⟨m, hm⟩ := Path.sched (denote table) prog w pa hz (end_sched (denote table) prog w ho hzf (forget_clean hzf _ hl gf))
  refine ⟨m, r, _, s', hm, hR, ?_, ?_, ?_, ?_⟩
  · exact (congrArg Shared.heap hf : (erSh sf).forget.heap = s'.forget.heap)
  · exact (congrArg Shared.drawn hf : (erSh sf).forget.drawn = s'.forget.drawn)
  · exact (congrArg Shared.toks hf : (erSh sf).forget.toks = s'.forget.toks)
  · exact (congrArg Shared.os hf : (erSh sf).forget.os = s'.forget.os)
end
end Fs
set_option Elab.async false
set_option linter.all false
set_option maxRecDepth 100000
set_option maxHeartbeats 8000000
namespace Fs
open PySem PySem.Spec PyProof.Rows L2
section
theorem erF_marks (f : Frame) : (erF f).marks = f.marks := by cases f <;> rfl
theorem erS_marks (fs : List Frame) (x : Option Value × Option Value) : marksOver (erS fs) x = marksOver fs x := by
  induction fs with
  | nil => rfl
  | cons f fs ih =>
    show (erF f).marks (marksOver (erS fs) x) = f.marks (marksOver fs x)
    rw [ih, erF_marks]
def erE : End → End
  | .ret r => .ret r
  | .susp v g l k c p fs => .susp v g (erL c false l) (fun r => er c (k r)) c p (erS fs)
theorem erS_over (Γ : PySem.Ctx) (fs : List Frame) : Γ.over (erS fs) = Γ.over fs := by
  unfold Ctx.over
  rw [erS_marks, erS_marks, erS_where, erS_split]
  cases splitAtGen fs with
  | none => rfl
  | some q =>
    simp only [Option.map_some, topHandled, erS_top]
theorem erSh_set (s : Shared) (g : Nat) (x : GenState) : erSh (s.setGen g x) = (erSh s).setGen g (erG x) := by
  simp [erSh, Shared.setGen, Array.map_setIfInBounds]
theorem erSh_push (s : Shared) (c : Code) : erSh { s with gens := s.gens.push (.fresh c) } = { erSh s with gens := (erSh s).gens.push (.fresh c) } := by
  simp [erSh, erG]
theorem erSh_at {s : Shared} {g : Nat} {x : GenState} (h : s.gens[g]? = some x) : (erSh s).gens[g]? = some (erG x) := by
  simp [erSh, h]
theorem erE_state {e : End} (h : e.quiet = true) : erG e.genState = (erE e).genState := by
  cases e with
  | ret r => rfl
  | susp v g l k c p fs =>
    have q : (g || fs.any Frame.guarded) = false := by simpa [End.quiet] using h
    show GenState.suspended _ (erL c ((g || fs.any Frame.guarded) && mildC c fs) l) c p (erS fs) ((g || fs.any Frame.guarded) && !mildC c fs) = GenState.suspended _ (erL c false l) c p (erS fs) (g || (erS fs).any Frame.guarded)
    rw [erS_any, q]
    rfl
theorem erE_result (e : End) : (erE e).result = e.result := by cases e <;> rfl
theorem erE_quiet (e : End) : (erE e).quiet = e.quiet := by
  cases e with
  | ret r => rfl
  | susp v g l k c p fs =>
    show (!(g || (erS fs).any Frame.guarded)) = _
    rw [erS_any]
    rfl
variable {den : Code → Sem Fin} {prog : Program} {w : World}
/-- a quiet derivation -/
theorem runs_er {Γ : PySem.Ctx} {p : Pos} {t : Sem Fin} {fs : List Frame} {s s' : Shared} {e : End} (h : Runs ⟨den, prog, w⟩ Γ p t fs s e s') :
    e.quiet = true → Runs ⟨den0 den, prog, w⟩ Γ p (er Γ.code t) (erS fs) (erSh s) (erE e) (erSh s') := by
  induction h with
  | done => intro _; exact .done
  | raise => intro _; exact .raise
  | again hq _ ih => intro q; exact .again hq (ih q)
  | rule _ ih => intro q; exact .rule (ih q)
  | «at» _ ih => intro q; exact .at (ih q)
  | load h _ ih => intro q; exact .load h (ih q)
  | update h _ ih => intro q; exact .update h (ih q)
  | loadIfAlive _ ih => intro q; exact .loadIfAlive (ih q)
  | point _ ih => intro q; exact .point (ih q)
  | alloc _ ih => intro q; exact .alloc (ih q)
  | fresh _ ih => intro q; exact .fresh (ih q)
  | ask _ ih => intro q; exact .ask (ih q)
  | choose h _ ih => intro q; exact .choose h (ih q)
  | os _ ih => intro q; exact .os (ih q)
  | handled _ ih => intro q; exact .handled (ih q)
  | genState h _ ih => intro q; exact .genState (erSh_at h) (by rw [erG_seen]; exact ih q)
  | stack _ ih => intro q; exact .stack (ih q)
  | thread _ ih => intro q; exact .thread (ih q)
  | newGen _ ih =>
    intro q
    have z := ih q
    rw [erSh_push] at z
    refine .newGen ?_
    rw [show (erSh _).gens.size = _ from Array.size_map ..]
    exact z
  | call _ _ ih1 ih2 => intro q; exact .call (ih1 rfl) (ih2 q)
  | callSusp _ ih =>
    intro q
    have z := ih (by simp only [End.quiet, List.any_append, Bool.not_eq_true', Bool.or_eq_false_iff] at q ⊢; exact ⟨q.1, q.2.1⟩)
    show Runs _ _ _ _ _ _ (.susp _ _ _ _ _ _ (erS (_ ++ [_]))) _
    rw [erS_app]
    exact .callSusp z
  | @yield _ _ _ g _ _ _ =>
    intro q
    have hg : g = false := by cases g with
      | false => rfl
      | true => exact absurd q (by simp [End.quiet])
    subst hg
    rw [er_q]
    exact .yield
  | resumeFresh h _ qe _ ih1 ih2 =>
    intro q
    have z1 := ih1 qe
    have z2 := ih2 q
    rw [erSh_set] at z1 z2
    rw [erE_state qe] at z2
    rw [← erE_result] at z2
    exact .resumeFresh (erSh_at h) z1 (by rw [erE_quiet]; exact qe) z2
  | resumeSuspended h _ qe _ ih1 ih2 =>
    intro q
    have z1 := ih1 qe
    have z2 := ih2 q
    rw [erSh_set] at z1 z2
    rw [erE_state qe] at z2
    rw [← erE_result] at z2
    exact .resumeSuspended (erSh_at h) z1 (by rw [erE_quiet]; exact qe) z2
  | resumeJustStarted h hv _ ih => intro q; exact .resumeJustStarted (erSh_at h) hv (ih q)
  | resumeThrowFresh h _ ih =>
    intro q
    have z := ih q
    rw [erSh_set] at z
    exact .resumeThrowFresh (erSh_at h) z
  | resumeRunning h _ ih => intro q; exact .resumeRunning (erSh_at h) (ih q)
  | resumeFinished h _ ih => intro q; exact .resumeFinished (erSh_at h) (ih q)
  | segRet _ _ ih1 ih2 =>
    intro q
    have z1 := ih1 rfl
    rw [← erS_over] at z1
    exact .segRet z1 (ih2 q)
  | segGen _ _ ih1 ih2 =>
    intro q
    have z1 := ih1 rfl
    have z2 := ih2 q
    rw [← erS_over] at z1
    rw [erSh_set] at z2
    exact .segGen z1 z2
  | segSuspOut hs _ ih =>
    intro q
    have z := ih (by simp only [End.quiet, List.any_append, Bool.not_eq_true', Bool.or_eq_false_iff] at q ⊢; exact ⟨q.1, q.2.1⟩)
    rw [← erS_over] at z
    show Runs _ _ _ _ _ _ (.susp _ _ _ _ _ _ (erS (_ ++ _))) _
    rw [erS_app]
    refine .segSuspOut ?_ z
    show splitAtGen (erS (_ :: _)) = none
    rw [erS_split, hs]
    rfl
  | @segSuspGen Γ p t F fs pre g k c₁ p₁ rest s v g₀ l₀ k₀ c₀ p₀ fs₀ s₁ e s' hs _ qe _ ih1 ih2 =>
    intro q
    have z1 := ih1 (by simp only [End.quiet, List.any_append, Bool.not_eq_true', Bool.or_eq_false_iff] at qe ⊢; exact ⟨qe.1, qe.2.1⟩)
    have z2 := ih2 q
    rw [← erS_over] at z1
    rw [erSh_set, erE_state qe] at z2
    have q2 := (erE_quiet _).trans qe
    have e0 : erE (.susp v g₀ l₀ k₀ c₀ p₀ (fs₀ ++ pre)) = .susp v g₀ (erL c₀ false l₀) (fun r => er c₀ (k₀ r)) c₀ p₀ (erS fs₀ ++ erS pre) := by simp only [erE, erS_app]
    rw [e0] at z2 q2
    have hs' : splitAtGen (erS (F :: fs)) = some (erS pre, (g, (fun r => er c₁ (k r)), c₁, p₁), erS rest) := by
      rw [erS_split, hs]
      rfl
    exact .segSuspGen hs' z1 q2 z2
end
end Fs
set_option Elab.async false
set_option linter.all false
set_option maxRecDepth 100000
set_option maxHeartbeats 8000000
namespace Fs
open PySem PySem.Spec PyProof.Rows L2
section
variable {den : Code → Sem PySem.Fin} {prog : Program} {w : World}
theorem wakes_er {Γ : PySem.Ctx} {p : Pos} {g : Nat} {r : Resume} {s s' : Shared} {res : GenResult} (h : Wakes ⟨den, prog, w⟩ Γ p g r s res s') : Wakes ⟨den0 den, prog, w⟩ Γ p g r (erSh s) res (erSh s') := by
  unfold Wakes at h ⊢
  cases q : s.gens[g]? with
  | none =>
    rw [q] at h
    exact h.elim
  | some x =>
    rw [q] at h
    rw [erSh_at q]
    cases x with
    | fresh c =>
      cases r with
      | send v =>
        by_cases hv : v = .none
        · subst hv
          obtain ⟨e1, s1, hr, hq, rfl, rfl⟩ := h
          refine ⟨erE e1, erSh s1, ?_, (erE_quiet e1).trans hq, (erE_result e1).symm, ?_⟩
          · have z := runs_er hr hq
            rw [erSh_set] at z
            exact z
          · rw [erSh_set, erE_state hq]
        · have h' : res = .justStarted ∧ s' = s := by
            cases v <;> first | exact h | exact absurd rfl hv
          obtain ⟨rfl, rfl⟩ := h'
          show (match (Resume.send v) with | .send .none => _ | .send _ => GenResult.justStarted = .justStarted ∧ erSh s' = erSh s' | .throw x => _)
          cases v <;> first | exact ⟨rfl, rfl⟩ | exact absurd rfl hv
      | throw x =>
        obtain ⟨rfl, rfl⟩ := h
        exact ⟨rfl, erSh_set _ _ _⟩
    | suspended k l c p0 fs cl =>
      obtain ⟨e1, s1, hr, hq, rfl, rfl⟩ := h
      refine ⟨erE e1, erSh s1, ?_, (erE_quiet e1).trans hq, (erE_result e1).symm, ?_⟩
      · have z := runs_er hr hq
        rw [erSh_set] at z
        exact z
      · rw [erSh_set, erE_state hq]
    | running =>
      obtain ⟨rfl, rfl⟩ := h
      exact ⟨rfl, rfl⟩
    | finished =>
      obtain ⟨rfl, rfl⟩ := h
      exact ⟨rfl, rfl⟩
theorem returns_er {Γ : PySem.Ctx} {p : Pos} {s s' : Shared} {r : Result} (h : Returns ⟨den, prog, w⟩ Γ p s r s') : Returns ⟨den0 den, prog, w⟩ Γ p (erSh s) r (erSh s') :=
  runs_er h rfl
/-- behind the other machine -/
def Beh {β : Type} (Q : β → Shared → Prop) (a : β) (s1 : Shared) : Prop := ∃ s', s1 = erSh s' ∧ Q a s'
theorem wp_lift {α : Type} {Γ : PySem.Ctx} (t : Sem α) {Q : α → Pos → Shared → Prop} {E : Value → Pos → Shared → Prop} {p : Pos} {s : Shared} (h : Sem.wp ⟨den, prog, w⟩ Γ t Q E p s) :
    Sem.wp ⟨den0 den, prog, w⟩ Γ t (fun a p s1 => ∃ s', s1 = erSh s' ∧ Q a p s') (fun e p s1 => ∃ s', s1 = erSh s' ∧ E e p s') p (erSh s) := by
  induction t generalizing p s with
  | pure a => exact ⟨s, rfl, h⟩
  | raise e => exact ⟨s, rfl, h⟩
  | unsupported | finish | yield | fork | await | register => exact h.elim
  | rule t k ih => exact ih _ h
  | «at» p' k ih => exact ih _ h
  | load a part k ih =>
    obtain ⟨o, ho, h⟩ := h
    exact ⟨o, ho, ih _ h⟩
  | update a part f k ih => exact ⟨h.1, ih _ h.2⟩
  | loadIfAlive a k ih => exact ih _ h
  | point l k ih => exact ih _ h
  | alloc o k ih => exact ih _ h
  | fresh k ih => exact ih _ h
  | ask k ih => exact ih _ h
  | choose src n k ih => exact ⟨h.1, ih _ h.2⟩
  | os q l k ih => exact ih _ h
  | call c hd g l k ih =>
    obtain ⟨r, s1, hr, h⟩ := h
    exact ⟨r, erSh s1, returns_er hr, ih _ h⟩
  | handled own k ih => exact ih _ h
  | genState g k ih =>
    obtain ⟨st, hg, h⟩ := h
    refine ⟨erG st, erSh_at hg, ?_⟩
    rw [erG_seen]
    exact ih _ h
  | newGen c k ih =>
    have z := ih _ h
    rw [erSh_push] at z
    show Sem.wp _ _ (k (erSh s).gens.size) _ _ _ _
    rw [show (erSh s).gens.size = s.gens.size from Array.size_map ..]
    exact z
  | resume g r l k ih =>
    obtain ⟨res, s1, hw, h⟩ := h
    exact ⟨res, erSh s1, wakes_er hw, ih _ h⟩
  | stack k ih => exact ih _ h
  | thread k ih => exact ih _ h
theorem any_lift {α : Type} {A : Around} {t : Sem α} {Q : α → Shared → Prop} {E : Value → Shared → Prop} {s : Shared} (h : wpAny ⟨den, prog, w⟩ A t Q E s) : wpAny ⟨den0 den, prog, w⟩ A t (Beh Q) (Beh E) (erSh s) :=
  fun Γ p hΓ => wp_lift t (h Γ p hΓ)
theorem code_lift {A : Around} {c : Code} {R : Result → Shared → Prop} {s : Shared} (h : codeAny ⟨den, prog, w⟩ A c R s) : codeAny ⟨den0 den, prog, w⟩ A c (Beh R) (erSh s) := by
  intro Γ p hc hb
  obtain ⟨r, s', hr, q⟩ := h Γ p hc hb
  exact ⟨r, erSh s', returns_er hr, s', rfl, q⟩
end
/-! ### trees and their quiet twins -/
theorem wp_er {α : Type} {M : Model} {Γ : PySem.Ctx} {c : Code} (t : Sem α) {Q : α → Pos → Shared → Prop} {E : Value → Pos → Shared → Prop} {p : Pos} {s : Shared} (h : Sem.wp M Γ t Q E p s) : Sem.wp M Γ (er c t) Q E p s := by
  induction t generalizing p s with
  | pure a => exact h
  | raise e => exact h
  | unsupported | finish | yield | fork | await | register => exact h.elim
  | rule t k ih => exact ih _ h
  | «at» p' k ih => exact ih _ h
  | load a part k ih =>
    obtain ⟨o, ho, h⟩ := h
    exact ⟨o, ho, ih _ h⟩
  | update a part f k ih => exact ⟨h.1, ih _ h.2⟩
  | loadIfAlive a k ih => exact ih _ h
  | point l k ih => exact ih _ h
  | alloc o k ih => exact ih _ h
  | fresh k ih => exact ih _ h
  | ask k ih => exact ih _ h
  | choose src n k ih => exact ⟨h.1, ih _ h.2⟩
  | os q l k ih => exact ih _ h
  | call c hd g l k ih =>
    obtain ⟨r, s1, hr, h⟩ := h
    exact ⟨r, s1, hr, ih _ h⟩
  | handled own k ih => exact ih _ h
  | genState g k ih =>
    obtain ⟨st, hg, h⟩ := h
    exact ⟨st, hg, ih _ h⟩
  | newGen c k ih => exact ih _ h
  | resume g r l k ih =>
    obtain ⟨res, s1, hw, h⟩ := h
    exact ⟨res, s1, hw, ih _ h⟩
  | stack k ih => exact ih _ h
  | thread k ih => exact ih _ h
/-- what the logic over M0 shows, the real machine does -/
theorem loud_holds {prog : Program} {w : World} {t : Sem PySem.Fin} {c : Code} {p : Pos} {s : Shared} {R : Result → Shared → Prop} (hz : s.asleep) (h0 : s.gens = #[])
    (h : Sem.wp (M0 prog w) ⟨c, none, none, [], none⟩ t (Sem.finPost (M0 prog w) ⟨c, none, none, [], none⟩ fun r s' => (R r s' ∧ GensOk s') ∧ leftWithCleanup s'.gens = false) (fun e _ s' => (R (.error e) s' ∧ GensOk s') ∧ leftWithCleanup s'.gens = false) p s) :
    ∃ n r s1 s2, schedN (denote table) prog w n (.single s ⟨t, c, p, []⟩) = .halted (outcomeOf r) s1 ∧ R r s2 ∧ s1.heap = s2.heap ∧ s1.drawn = s2.drawn ∧ s1.toks = s2.toks ∧ s1.os = s2.os := by
  have e : erSh s = s := by
    obtain ⟨heap, gens, drawn, toks, os⟩ := s
    have h0 : gens = #[] := h0
    subst h0
    simp [erSh]
  exact loud_sched prog w hz (by rw [e]; exact wp_er t h)
end Fs
set_option Elab.async false
set_option linter.all false
set_option maxRecDepth 100000
set_option maxHeartbeats 8000000
namespace Fs
open PySem PySem.Spec PyProof.Rows L2
/-! ### sleepers -/
/-- a sleeper whose waking goes nowhere, and the one it stands for -/
def Psn (a b : GenState) : Prop := ∃ l c p fs cl k l' fs', a = .suspended (fun _ => .unsupported "") l c p fs cl ∧ b = .suspended k l' c p fs' cl ∧ fs.map Frame.where_ = fs'.map Frame.where_
theorem Psn.seen {a b : GenState} (h : Psn a b) : a.seen = b.seen := by
  obtain ⟨l, c, p, fs, cl, k, l', fs', rfl, rfl, e⟩ := h
  show (GenStatus.suspended, some ((c, p) :: fs.map Frame.where_)) = (GenStatus.suspended, some ((c, p) :: fs'.map Frame.where_))
  rw [e]
theorem Psn.bare {a b : GenState} (h : Psn a b) : a.bare = b.bare := by
  obtain ⟨l, c, p, fs, cl, k, l', fs', rfl, rfl, _⟩ := h
  rfl
/-- alike but for the sleepers at J -/
structure SimG (J : Nat → Prop) (a b : Array GenState) : Prop where
  sz : a.size = b.size
  at_ : ∀ i, J i → ∃ x y, a[i]? = some x ∧ b[i]? = some y ∧ Psn x y
  off : ∀ i, ¬ J i → a[i]? = b[i]?
theorem SimG.lt {J : Nat → Prop} {a b : Array GenState} (h : SimG J a b) {i : Nat} (j : J i) : i < a.size := by
  obtain ⟨x, y, e, _⟩ := h.at_ i j
  exact (Array.getElem?_eq_some_iff.mp e).1
theorem SimG.push {J : Nat → Prop} {a b : Array GenState} (h : SimG J a b) (x : GenState) : SimG J (a.push x) (b.push x) := by
  refine ⟨by simp [h.sz], fun i j => ?_, fun i j => ?_⟩
  · obtain ⟨u, v, e1, e2, r⟩ := h.at_ i j
    have l := h.lt j
    have l2 : i < b.size := by rw [← h.sz]; exact l
    exact ⟨u, v, by rw [Array.getElem?_push_lt l, ← Array.getElem?_eq_getElem l]; exact e1, by rw [Array.getElem?_push_lt l2, ← Array.getElem?_eq_getElem l2]; exact e2, r⟩
  · have q := h.off i j
    rw [Array.getElem?_push, Array.getElem?_push, h.sz, q]
theorem SimG.set {J : Nat → Prop} {a b : Array GenState} (h : SimG J a b) {g : Nat} (hg : ¬ J g) (x : GenState) : SimG J (a.setIfInBounds g x) (b.setIfInBounds g x) := by
  refine ⟨by simp [h.sz], fun i j => ?_, fun i j => ?_⟩
  · obtain ⟨u, v, e1, e2, r⟩ := h.at_ i j
    have ne : g ≠ i := fun z => hg (by rw [z]; exact j)
    exact ⟨u, v, by rw [Array.getElem?_setIfInBounds_ne ne]; exact e1, by rw [Array.getElem?_setIfInBounds_ne ne]; exact e2, r⟩
  · have q := h.off i j
    rw [Array.getElem?_setIfInBounds, Array.getElem?_setIfInBounds, h.sz, q]
/-- a sleeper beside J has frames of calls alone -/
def WfG (J : Nat → Prop) (a : Array GenState) : Prop := ∀ i k l c p fs cl, ¬ J i → a[i]? = some (.suspended k l c p fs cl) → splitAtGen fs = none
theorem WfG.push {J : Nat → Prop} {a : Array GenState} (h : WfG J a) (c : Code) : WfG J (a.push (.fresh c)) := fun i k l c' p fs cl j e => by
  rw [Array.getElem?_push] at e
  split at e
  · cases e
  · exact h i k l c' p fs cl j e
theorem WfG.set {J : Nat → Prop} {a : Array GenState} (h : WfG J a) {g : Nat} {x : GenState} (hx : ∀ k l c p fs cl, x = .suspended k l c p fs cl → splitAtGen fs = none) : WfG J (a.setIfInBounds g x) := fun i k l c p fs cl j e => by
  rw [Array.getElem?_setIfInBounds] at e
  split at e
  · split at e
    · exact hx k l c p fs cl (Option.some.inj e)
    · cases e
  · exact h i k l c p fs cl j e
def endWf : End → Prop
  | .ret _ => True
  | .susp _ _ _ _ _ _ fs => splitAtGen fs = none
theorem endWf.gs {e : End} (h : endWf e) : ∀ k l c p fs cl, e.genState = .suspended k l c p fs cl → splitAtGen fs = none := fun k l c p fs cl q => by
  cases e with
  | ret r => cases q
  | susp v g l k c p fs => cases q; exact h
theorem split_cons_ret {k : Result → Sem PySem.Fin} {h : Option Value} {g : Bool} {l kp : List Value} {c : Code} {p : Pos} {fs : List Frame} : splitAtGen (.ret k h g l c p kp :: fs) = none ↔ splitAtGen fs = none := by
  show (splitAtGen fs).map _ = none ↔ _
  cases splitAtGen fs <;> simp
theorem split_app {a b : List Frame} (ha : splitAtGen a = none) (hb : splitAtGen b = none) : splitAtGen (a ++ b) = none := by
  induction a with
  | nil => exact hb
  | cons F r ih => cases F with
    | ret k h g l c p kp =>
      rw [List.cons_append]
      exact split_cons_ret.mpr (ih (split_cons_ret.mp ha))
    | gen g k l c p => cases ha
theorem unsup_runs {M : Model} {Γ : PySem.Ctx} {p : Pos} {what : String} : ∀ {fs : List Frame} {s : Shared} {e : End} {s' : Shared}, ¬ Runs M Γ p (.unsupported what) fs s e s' := by
  have nil : ∀ {Γ : PySem.Ctx} {s : Shared} {e : End} {s' : Shared}, ¬ Runs M Γ p (.unsupported what) [] s e s' := fun h => nomatch h
  intro fs s e s' h
  cases fs with
  | nil => exact nil h
  | cons F fs =>
    cases h with
    | segRet h _ => exact nil h
    | segGen h _ => exact nil h
    | segSuspOut _ h => exact nil h
    | segSuspGen _ h _ _ => exact nil h
theorem SimG.noj {J : Nat → Prop} {a b : Array GenState} (hb : SimG J a b) {g : Nat} {x : GenState} (hg : a[g]? = some x) (hx : ∀ l c p fs cl, x ≠ .suspended (fun _ => .unsupported "") l c p fs cl) : ¬ J g := fun j => by
  obtain ⟨x', y, e1, e2, l, c', p, fs, cl, k, l', fs', r, _⟩ := hb.at_ g j
  rw [hg, r] at e1
  exact hx _ _ _ _ _ (Option.some.inj e1)
theorem SimG.seen {J : Nat → Prop} {a b : Array GenState} (hb : SimG J a b) {g : Nat} {x : GenState} (hg : a[g]? = some x) : ∃ y, b[g]? = some y ∧ x.seen = y.seen := by
  rcases Classical.em (J g) with j | j
  · obtain ⟨x', y, e1, e2, r⟩ := hb.at_ g j
    rw [hg] at e1
    cases e1
    exact ⟨y, e2, r.seen⟩
  · exact ⟨x, by rw [← hb.off g j]; exact hg, rfl⟩
theorem SimG.keepJ {J : Nat → Prop} {b : Array GenState} {g : Nat} (nj : ¬ J g) {i : Nat} (j : J i) (x : GenState) : (b.setIfInBounds g x)[i]? = b[i]? := Array.getElem?_setIfInBounds_ne fun z => nj (by rw [z]; exact j)
/-- the run, with other sleepers in their places -/
theorem runs_psn {M : Model} {J : Nat → Prop} {Γ : PySem.Ctx} {p : Pos} {t : Sem PySem.Fin} {fs : List Frame} {s : Shared} {e : End} {s' : Shared} (h : Runs M Γ p t fs s e s') :
    splitAtGen fs = none → WfG J s.gens → ∀ b, SimG J s.gens b → endWf e ∧ WfG J s'.gens ∧ ∃ b', SimG J s'.gens b' ∧ (∀ i, J i → b'[i]? = b[i]?) ∧ Runs M Γ p t fs { s with gens := b } e { s' with gens := b' } := by
  induction h with
  | done => exact fun hf hw b hb => ⟨trivial, hw, b, hb, fun _ _ => rfl, .done⟩
  | raise => exact fun hf hw b hb => ⟨trivial, hw, b, hb, fun _ _ => rfl, .raise⟩
  | again hc _ ih => intro hf hw b hb; obtain ⟨h0, h1, b', h2, h3, h4⟩ := ih hf hw b hb; exact ⟨h0, h1, b', h2, h3, .again hc h4⟩
  | rule _ ih => intro hf hw b hb; obtain ⟨h0, h1, b', h2, h3, h4⟩ := ih hf hw b hb; exact ⟨h0, h1, b', h2, h3, .rule h4⟩
  | «at» _ ih => intro hf hw b hb; obtain ⟨h0, h1, b', h2, h3, h4⟩ := ih hf hw b hb; exact ⟨h0, h1, b', h2, h3, .at h4⟩
  | load ho _ ih => intro hf hw b hb; obtain ⟨h0, h1, b', h2, h3, h4⟩ := ih hf hw b hb; exact ⟨h0, h1, b', h2, h3, .load ho h4⟩
  | update ho _ ih => intro hf hw b hb; obtain ⟨h0, h1, b', h2, h3, h4⟩ := ih hf hw b hb; exact ⟨h0, h1, b', h2, h3, .update ho h4⟩
  | loadIfAlive _ ih => intro hf hw b hb; obtain ⟨h0, h1, b', h2, h3, h4⟩ := ih hf hw b hb; exact ⟨h0, h1, b', h2, h3, .loadIfAlive h4⟩
  | point _ ih => intro hf hw b hb; obtain ⟨h0, h1, b', h2, h3, h4⟩ := ih hf hw b hb; exact ⟨h0, h1, b', h2, h3, .point h4⟩
  | alloc _ ih => intro hf hw b hb; obtain ⟨h0, h1, b', h2, h3, h4⟩ := ih hf hw b hb; exact ⟨h0, h1, b', h2, h3, .alloc h4⟩
  | fresh _ ih => intro hf hw b hb; obtain ⟨h0, h1, b', h2, h3, h4⟩ := ih hf hw b hb; exact ⟨h0, h1, b', h2, h3, .fresh h4⟩
  | ask _ ih => intro hf hw b hb; obtain ⟨h0, h1, b', h2, h3, h4⟩ := ih hf hw b hb; exact ⟨h0, h1, b', h2, h3, .ask h4⟩
  | choose hn _ ih => intro hf hw b hb; obtain ⟨h0, h1, b', h2, h3, h4⟩ := ih hf hw b hb; exact ⟨h0, h1, b', h2, h3, .choose hn h4⟩
  | os _ ih => intro hf hw b hb; obtain ⟨h0, h1, b', h2, h3, h4⟩ := ih hf hw b hb; exact ⟨h0, h1, b', h2, h3, .os h4⟩
  | handled _ ih => intro hf hw b hb; obtain ⟨h0, h1, b', h2, h3, h4⟩ := ih hf hw b hb; exact ⟨h0, h1, b', h2, h3, .handled h4⟩
  | stack _ ih => intro hf hw b hb; obtain ⟨h0, h1, b', h2, h3, h4⟩ := ih hf hw b hb; exact ⟨h0, h1, b', h2, h3, .stack h4⟩
  | thread _ ih => intro hf hw b hb; obtain ⟨h0, h1, b', h2, h3, h4⟩ := ih hf hw b hb; exact ⟨h0, h1, b', h2, h3, .thread h4⟩
  | genState hg _ ih =>
    intro hf hw b hb
    obtain ⟨h0, h1, b', h2, h3, h4⟩ := ih hf hw b hb
    obtain ⟨y, e, r⟩ := hb.seen hg
    rw [r] at h4
    exact ⟨h0, h1, b', h2, h3, .genState e h4⟩
  | newGen _ ih =>
    intro hf hw b hb
    obtain ⟨h0, h1, b', h2, h3, h4⟩ := ih hf (hw.push _) _ (hb.push _)
    refine ⟨h0, h1, b', h2, fun i j => ?_, .newGen ?_⟩
    · have l : i < b.size := by rw [← hb.sz]; exact hb.lt j
      rw [h3 i j, Array.getElem?_push_lt l, ← Array.getElem?_eq_getElem l]
    · exact hb.sz ▸ h4
  | call _ _ ih1 ih2 =>
    intro hf hw b hb
    obtain ⟨h0, h1, b1, h2, h3, h4⟩ := ih1 rfl hw b hb
    obtain ⟨k0, k1, b2, k2, k3, k4⟩ := ih2 hf h1 b1 h2
    exact ⟨k0, k1, b2, k2, fun i j => (k3 i j).trans (h3 i j), .call h4 k4⟩
  | callSusp _ ih1 =>
    intro hf hw b hb
    obtain ⟨h0, h1, b1, h2, h3, h4⟩ := ih1 rfl hw b hb
    exact ⟨split_app h0 rfl, h1, b1, h2, h3, .callSusp h4⟩
  | yield => exact fun hf hw b hb => ⟨rfl, hw, b, hb, fun _ _ => rfl, .yield⟩
  | resumeFresh hg _ hq _ ih1 ih2 =>
    intro hf hw b hb
    have nj := hb.noj hg fun _ _ _ _ _ z => nomatch z
    obtain ⟨h0, h1, b1, h2, h3, h4⟩ := ih1 rfl (hw.set fun _ _ _ _ _ _ z => nomatch z) _ (hb.set nj .running)
    obtain ⟨k0, k1, b2, k2, k3, k4⟩ := ih2 hf (h1.set h0.gs) _ (h2.set nj _)
    exact ⟨k0, k1, b2, k2, fun i j => (k3 i j).trans ((SimG.keepJ nj j _).trans ((h3 i j).trans (SimG.keepJ nj j _))), .resumeFresh (by rw [← hb.off _ nj]; exact hg) h4 hq k4⟩
  | resumeSuspended hg hr hq _ ih1 ih2 =>
    intro hf hw b hb
    have nj := hb.noj hg fun _ _ _ _ _ z => by
      cases z
      exact unsup_runs hr
    obtain ⟨h0, h1, b1, h2, h3, h4⟩ := ih1 (hw _ _ _ _ _ _ _ nj hg) (hw.set fun _ _ _ _ _ _ z => nomatch z) _ (hb.set nj .running)
    obtain ⟨k0, k1, b2, k2, k3, k4⟩ := ih2 hf (h1.set h0.gs) _ (h2.set nj _)
    exact ⟨k0, k1, b2, k2, fun i j => (k3 i j).trans ((SimG.keepJ nj j _).trans ((h3 i j).trans (SimG.keepJ nj j _))), .resumeSuspended (by rw [← hb.off _ nj]; exact hg) h4 hq k4⟩
  | resumeJustStarted hg hv _ ih =>
    intro hf hw b hb
    have nj := hb.noj hg fun _ _ _ _ _ z => nomatch z
    obtain ⟨h0, h1, b', h2, h3, h4⟩ := ih hf hw b hb
    exact ⟨h0, h1, b', h2, h3, .resumeJustStarted (by rw [← hb.off _ nj]; exact hg) hv h4⟩
  | resumeThrowFresh hg _ ih =>
    intro hf hw b hb
    have nj := hb.noj hg fun _ _ _ _ _ z => nomatch z
    obtain ⟨h0, h1, b', h2, h3, h4⟩ := ih hf (hw.set fun _ _ _ _ _ _ z => nomatch z) _ (hb.set nj .finished)
    exact ⟨h0, h1, b', h2, fun i j => (h3 i j).trans (SimG.keepJ nj j _), .resumeThrowFresh (by rw [← hb.off _ nj]; exact hg) h4⟩
  | resumeRunning hg _ ih =>
    intro hf hw b hb
    have nj := hb.noj hg fun _ _ _ _ _ z => nomatch z
    obtain ⟨h0, h1, b', h2, h3, h4⟩ := ih hf hw b hb
    exact ⟨h0, h1, b', h2, h3, .resumeRunning (by rw [← hb.off _ nj]; exact hg) h4⟩
  | resumeFinished hg _ ih =>
    intro hf hw b hb
    have nj := hb.noj hg fun _ _ _ _ _ z => nomatch z
    obtain ⟨h0, h1, b', h2, h3, h4⟩ := ih hf hw b hb
    exact ⟨h0, h1, b', h2, h3, .resumeFinished (by rw [← hb.off _ nj]; exact hg) h4⟩
  | segRet _ _ ih1 ih2 =>
    intro hf hw b hb
    obtain ⟨h0, h1, b1, h2, h3, h4⟩ := ih1 rfl hw b hb
    obtain ⟨k0, k1, b2, k2, k3, k4⟩ := ih2 (split_cons_ret.mp hf) h1 b1 h2
    exact ⟨k0, k1, b2, k2, fun i j => (k3 i j).trans (h3 i j), .segRet h4 k4⟩
  | segGen _ _ _ _ => exact fun hf => nomatch hf
  | segSuspOut hs _ ih1 =>
    intro hf hw b hb
    obtain ⟨h0, h1, b1, h2, h3, h4⟩ := ih1 rfl hw b hb
    exact ⟨split_app h0 hf, h1, b1, h2, h3, .segSuspOut hs h4⟩
  | segSuspGen hs _ _ _ _ _ => exact fun hf => by rw [hs] at hf; cases hf
theorem SimG.bare {J : Nat → Prop} {a b : Array GenState} (h : SimG J a b) (ha : AllBare a) : AllBare b := fun y hy => by
  obtain ⟨i, hi, e⟩ := Array.mem_iff_getElem.mp hy
  have e' : b[i]? = some y := by rw [Array.getElem?_eq_getElem hi, e]
  rcases Classical.em (J i) with j | j
  · obtain ⟨x, y', e1, e2, r⟩ := h.at_ i j
    rw [e'] at e2
    cases e2
    rw [← r.bare]
    exact ha x (Array.mem_of_getElem? e1)
  · rw [← h.off i j] at e'
    exact ha y (Array.mem_of_getElem? e')
/-- what a piece of code reaches, with other sleepers in their places -/
def OffG (J : Nat → Prop) (b : Array GenState) (s' : Shared) (Q : Shared → Prop) : Prop := ∃ a', SimG J a' s'.gens ∧ WfG J a' ∧ (∀ i, J i → s'.gens[i]? = b[i]?) ∧ Q { s' with gens := a' }
theorem OffG.next {J : Nat → Prop} {b b' : Array GenState} {s' : Shared} {Q : Shared → Prop} (h : OffG J b' s' Q) (k : ∀ i, J i → b'[i]? = b[i]?) : OffG J b s' Q := by
  obtain ⟨a', h1, h2, h3, h4⟩ := h
  exact ⟨a', h1, h2, fun i j => (h3 i j).trans (k i j), h4⟩
theorem returns_psn {M : Model} {J : Nat → Prop} {Γ : PySem.Ctx} {p : Pos} {s s' : Shared} {r : Result} (h : Returns M Γ p s r s') (hw : WfG J s.gens) {b : Array GenState} (hb : SimG J s.gens b) :
    WfG J s'.gens ∧ ∃ b', SimG J s'.gens b' ∧ (∀ i, J i → b'[i]? = b[i]?) ∧ Returns M Γ p { s with gens := b } r { s' with gens := b' } :=
  (runs_psn h rfl hw b hb).2
theorem wakes_psn {M : Model} {J : Nat → Prop} {Γ : PySem.Ctx} {p : Pos} {g : Nat} {r : Resume} {s s' : Shared} {res : GenResult} (h : Wakes M Γ p g r s res s') (hw : WfG J s.gens) {b : Array GenState} (hb : SimG J s.gens b) :
    WfG J s'.gens ∧ ∃ b', SimG J s'.gens b' ∧ (∀ i, J i → b'[i]? = b[i]?) ∧ Wakes M Γ p g r { s with gens := b } res { s' with gens := b' } := by
  unfold Wakes at h ⊢
  split at h
  · exact h.elim
  · rename_i c hg
    have nj := hb.noj hg fun _ _ _ _ _ z => nomatch z
    have hg' : b[g]? = some (.fresh c) := by rw [← hb.off g nj]; exact hg
    split at h
    · obtain ⟨e₁, s₁, hr, hq, rfl, rfl⟩ := h
      obtain ⟨h0, h1, b1, h2, h3, h4⟩ := runs_psn hr rfl (hw.set fun _ _ _ _ _ _ z => nomatch z) _ (hb.set nj .running)
      refine ⟨h1.set h0.gs, _, h2.set nj e₁.genState, fun i j => (SimG.keepJ nj j _).trans ((h3 i j).trans (SimG.keepJ nj j _)), ?_⟩
      simp only [hg']
      exact ⟨e₁, _, h4, hq, rfl, rfl⟩
    · obtain ⟨rfl, rfl⟩ := h
      refine ⟨hw, b, hb, fun _ _ => rfl, ?_⟩
      simp only [hg']
      first | exact ⟨trivial, trivial⟩ | exact ⟨trivial, rfl⟩ | exact ⟨rfl, rfl⟩ | trivial | skip
    · obtain ⟨rfl, rfl⟩ := h
      refine ⟨hw.set (fun _ _ _ _ _ _ z => nomatch z), _, hb.set nj .finished, fun i j => SimG.keepJ nj j _, ?_⟩
      simp only [hg']
      trivial
  · rename_i k₀ l c₀ p₀ fs cl hg
    obtain ⟨e₁, s₁, hr, hq, rfl, rfl⟩ := h
    have nj := hb.noj hg fun _ _ _ _ _ z => by
      cases z
      exact unsup_runs hr
    have hg' : b[g]? = some (.suspended k₀ l c₀ p₀ fs cl) := by rw [← hb.off g nj]; exact hg
    obtain ⟨h0, h1, b1, h2, h3, h4⟩ := runs_psn hr (hw _ _ _ _ _ _ _ nj hg) (hw.set fun _ _ _ _ _ _ z => nomatch z) _ (hb.set nj .running)
    refine ⟨h1.set h0.gs, _, h2.set nj e₁.genState, fun i j => (SimG.keepJ nj j _).trans ((h3 i j).trans (SimG.keepJ nj j _)), ?_⟩
    simp only [hg']
    exact ⟨e₁, _, h4, hq, rfl, rfl⟩
  · rename_i hg
    have nj := hb.noj hg fun _ _ _ _ _ z => nomatch z
    obtain ⟨rfl, rfl⟩ := h
    refine ⟨hw, b, hb, fun _ _ => rfl, ?_⟩
    simp only [show b[g]? = some .running by rw [← hb.off g nj]; exact hg]
    first | exact ⟨trivial, trivial⟩ | exact ⟨trivial, rfl⟩ | exact ⟨rfl, rfl⟩ | trivial | skip
  · rename_i hg
    have nj := hb.noj hg fun _ _ _ _ _ z => nomatch z
    obtain ⟨rfl, rfl⟩ := h
    refine ⟨hw, b, hb, fun _ _ => rfl, ?_⟩
    simp only [show b[g]? = some .finished by rw [← hb.off g nj]; exact hg]
    first | exact ⟨trivial, trivial⟩ | exact ⟨trivial, rfl⟩ | exact ⟨rfl, rfl⟩ | trivial | skip
theorem wp_psn {α : Type} {M : Model} {J : Nat → Prop} {Γ : PySem.Ctx} (t : Sem α) : ∀ (Q : α → Pos → Shared → Prop) (E : Value → Pos → Shared → Prop) (p : Pos) (s : Shared) (b : Array GenState), SimG J s.gens b → WfG J s.gens → Sem.wp M Γ t Q E p s →
    Sem.wp M Γ t (fun a p' s' => OffG J b s' (Q a p')) (fun e p' s' => OffG J b s' (E e p')) p { s with gens := b } := by
  have mono : ∀ {β : Type} {t : Sem β} {Q Q' : β → Pos → Shared → Prop} {E E' : Value → Pos → Shared → Prop} {p : Pos} {s : Shared}, (∀ a p s, Q a p s → Q' a p s) → (∀ a p s, E a p s → E' a p s) → Sem.wp M Γ t Q E p s → Sem.wp M Γ t Q' E' p s := fun h1 h2 h => Sem.wp_mono _ _ _ h1 h2 _ _ h
  induction t with
  | pure a => intro Q E p s b hb hw h; exact ⟨s.gens, hb, hw, fun _ _ => rfl, h⟩
  | raise e => intro Q E p s b hb hw h; exact ⟨s.gens, hb, hw, fun _ _ => rfl, h⟩
  | unsupported _ => intro Q E p s b hb hw h; exact h
  | finish _ => intro Q E p s b hb hw h; exact h
  | rule _ k ih => intro Q E p s b hb hw h; exact ih () Q E p s b hb hw h
  | «at» p' k ih => intro Q E p s b hb hw h; exact ih () Q E p' s b hb hw h
  | load a _ k ih => intro Q E p s b hb hw h; obtain ⟨o, ho, h⟩ := h; exact ⟨o, ho, ih o Q E p s b hb hw h⟩
  | update a _ f k ih => intro Q E p s b hb hw h; exact ⟨h.1, ih () Q E p { s with heap := s.heap.update a f } b hb hw h.2⟩
  | loadIfAlive a k ih => intro Q E p s b hb hw h; exact ih _ Q E p s b hb hw h
  | point _ k ih => intro Q E p s b hb hw h; exact ih () Q E p s b hb hw h
  | register _ _ => intro Q E p s b hb hw h; exact h
  | alloc o k ih => intro Q E p s b hb hw h; exact ih _ Q E p { s with heap := s.heap.push o } b hb hw h
  | fresh k ih => intro Q E p s b hb hw h; exact ih _ Q E p { s with toks := s.toks + 1 } b hb hw h
  | ask k ih => intro Q E p s b hb hw h; exact ih _ Q E p s b hb hw h
  | choose src m k ih => intro Q E p s b hb hw h; exact ⟨h.1, ih _ Q E p { s with drawn := s.drawn.bump src } b hb hw h.2⟩
  | os q _ k ih => intro Q E p s b hb hw h; exact ih _ Q E p { s with os := (Os.step s.os q).1 } b hb hw h
  | call c hd _ _ k ih =>
    intro Q E p s b hb hw h
    obtain ⟨r, s', hr, h⟩ := h
    obtain ⟨h1, b', h2, h3, h4⟩ := returns_psn hr hw hb
    exact ⟨r, _, h4, mono (fun a p s z => z.next h3) (fun a p s z => z.next h3) (ih r Q E p s' b' h2 h1 h)⟩
  | handled own k ih => intro Q E p s b hb hw h; exact ih _ Q E p s b hb hw h
  | genState g k ih =>
    intro Q E p s b hb hw h
    obtain ⟨st, hs, h⟩ := h
    obtain ⟨y, e, r⟩ := hb.seen hs
    rw [r] at h
    exact ⟨y, e, ih _ Q E p s b hb hw h⟩
  | newGen c k ih =>
    intro Q E p s b hb hw h
    have z := ih _ Q E p { s with gens := s.gens.push (.fresh c) } _ (hb.push (.fresh c)) (hw.push c) h
    have z2 := mono (Q' := fun a p' s' => OffG J b s' (Q a p')) (E' := fun a p' s' => OffG J b s' (E a p')) (fun a p s z => z.next fun i j => by
      have l : i < b.size := by rw [← hb.sz]; exact hb.lt j
      rw [Array.getElem?_push_lt l, ← Array.getElem?_eq_getElem l]) (fun a p s z => z.next fun i j => by
      have l : i < b.size := by rw [← hb.sz]; exact hb.lt j
      rw [Array.getElem?_push_lt l, ← Array.getElem?_eq_getElem l]) z
    show Sem.wp M Γ (k b.size) _ _ _ _
    rw [← hb.sz]
    exact z2
  | resume g r _ k ih =>
    intro Q E p s b hb hw h
    obtain ⟨res, s', hr, h⟩ := h
    obtain ⟨h1, b', h2, h3, h4⟩ := wakes_psn hr hw hb
    exact ⟨res, _, h4, mono (fun a p s z => z.next h3) (fun a p s z => z.next h3) (ih res Q E p s' b' h2 h1 h)⟩
  | yield _ _ _ _ => intro Q E p s b hb hw h; exact h
  | stack k ih => intro Q E p s b hb hw h; exact ih _ Q E p s b hb hw h
  | fork _ _ => intro Q E p s b hb hw h; exact h
  | thread k ih => intro Q E p s b hb hw h; exact ih _ Q E p s b hb hw h
  | await _ _ _ _ _ => intro Q E p s b hb hw h; exact h
/-! ### all sleepers -/
def isSlp : GenState → Prop
  | .suspended .. => True
  | _ => False
def psn : GenState → GenState
  | .suspended _ l c p fs cl => .suspended (fun _ => .unsupported "") l c p fs cl
  | x => x
/-- the state with sleepers that cannot be woken -/
def asleep (s : Shared) : Shared := { s with gens := s.gens.map psn }
/-- s' is s0 with the sleepers of s in their places -/
structure Slp (s s0 s' : Shared) : Prop where
  eq : s' = { s0 with gens := s'.gens }
  bare : AllBare s0.gens → AllBare s'.gens
  slp : ∀ (i : Nat) (x : GenState), s.gens[i]? = some x → isSlp x → s'.gens[i]? = some x
  sim : SimG (fun i => ∃ x, s.gens[i]? = some x ∧ isSlp x) s0.gens s'.gens
  wf : WfG (fun i => ∃ x, s.gens[i]? = some x ∧ isSlp x) s0.gens
theorem asleep_bare {s : Shared} (h : AllBare s.gens) : AllBare (asleep s).gens := fun y hy => by
  obtain ⟨x, hx, rfl⟩ := Array.mem_map.mp hy
  have q := h x hx
  cases x <;> exact q
theorem wpAny_slp {α : Type} {M : Model} {A : Around} {t : Sem α} {Q : α → Shared → Prop} {E : Value → Shared → Prop} {s : Shared} (h : wpAny M A t Q E (asleep s)) : wpAny M A t (fun a s' => ∃ s0, Q a s0 ∧ Slp s s0 s') (fun e s' => ∃ s0, E e s0 ∧ Slp s s0 s') s := by
  intro Γ p hΓ
  have hb : SimG (fun i => ∃ x, s.gens[i]? = some x ∧ isSlp x) (asleep s).gens s.gens := by
    refine ⟨by simp [asleep], fun i ⟨x, e, hx⟩ => ?_, fun i j => ?_⟩
    · cases x with
      | suspended k l c p fs cl => exact ⟨_, _, by simp [asleep, e, psn], e, l, c, p, fs, cl, k, l, fs, rfl, rfl, rfl⟩
      | _ => exact hx.elim
    · simp only [asleep, Array.getElem?_map]
      cases e : s.gens[i]? with
      | none => rfl
      | some x =>
        cases x with
        | suspended k l c p fs cl => exact absurd ⟨_, e, trivial⟩ j
        | _ => rfl
  have hw : WfG (fun i => ∃ x, s.gens[i]? = some x ∧ isSlp x) (asleep s).gens := fun i k l c p fs cl j e => by
    simp only [asleep, Array.getElem?_map] at e
    cases q : s.gens[i]? with
    | none => rw [q] at e; cases e
    | some x =>
      rw [q] at e
      cases x with
      | suspended k l c p fs cl => exact absurd ⟨_, q, trivial⟩ j
      | _ => cases e
  have z := wp_psn t _ _ p (asleep s) s.gens hb hw (h Γ p hΓ)
  have fin : ∀ {s' : Shared} {Z : Shared → Prop}, OffG (fun i => ∃ x, s.gens[i]? = some x ∧ isSlp x) s.gens s' Z → ∃ s0, Z s0 ∧ Slp s s0 s' := fun {s' Z} ⟨a', h1, h2, h3, h4⟩ =>
    ⟨_, h4, rfl, fun q => h1.bare q, fun i x e hx => (by rw [h3 i ⟨x, e, hx⟩]; exact e), h1, h2⟩
  exact Sem.wp_mono _ _ _ (fun a p s' q => fin q) (fun a p s' q => fin q) _ _ z
/-! ### what only grows -/
/-- heap and generators only grow; what is gone stays gone -/
structure Fz (s s' : Shared) : Prop where
  hp : s.heap.objs.size ≤ s'.heap.objs.size
  gn : s.gens.size ≤ s'.gens.size
  gone : ∀ b, b < s.heap.objs.size → s.heap.get? b = none → s'.heap.get? b = none
  bare : AllBare s.gens → AllBare s'.gens
  life : s'.heap.life = s.heap.life
theorem Fz.refl (s : Shared) : Fz s s := ⟨Nat.le_refl _, Nat.le_refl _, fun _ _ h => h, id, rfl⟩
theorem Fz.trans {a b c : Shared} (h : Fz a b) (k : Fz b c) : Fz a c := ⟨Nat.le_trans h.hp k.hp, Nat.le_trans h.gn k.gn, fun x l e => k.gone x (Nat.lt_of_lt_of_le l h.hp) (h.gone x l e), fun x => k.bare (h.bare x), k.life.trans h.life⟩
theorem Fz.upd {s : Shared} {a : Addr} {f : Obj → Obj} (h : (s.heap.get? a).isSome) : Fz s { s with heap := s.heap.update a f } := by
  refine ⟨by simp [Heap.update, Array.size_modify], Nat.le_refl _, fun b _ e => ?_, id, rfl⟩
  have ne : a ≠ b := fun z => by rw [z, e] at h; cases h
  show (s.heap.update a f).get? b = none
  rw [Heap.get?_update_other _ _ ne]
  exact e
theorem Fz.push {s : Shared} {o : Obj} : Fz s { s with heap := s.heap.push o } := by
  refine ⟨by show _ ≤ (s.heap.push o).objs.size; rw [Heap.size_push]; exact Nat.le_succ _, Nat.le_refl _, fun b l e => ?_, id, rfl⟩
  cases q : (s.heap.push o).get? b with
  | none => rfl
  | some u =>
    rcases Heap.get?_push_cases q with ⟨z, _⟩ | z
    · exact absurd l (by rw [z]; exact Nat.lt_irrefl _)
    · rw [e] at z
      cases z
theorem Fz.of {s s' : Shared} (h : s'.heap = s.heap) (g : s.gens.size ≤ s'.gens.size) (hb : AllBare s.gens → AllBare s'.gens) : Fz s s' := ⟨by rw [h]; exact Nat.le_refl _, g, fun b _ e => by rw [h]; exact e, hb, by rw [h]⟩
theorem Fz.set {s : Shared} {g : Nat} {x : GenState} (hx : x.bare = true := by rfl) : Fz s (s.setGen g x) := ⟨Nat.le_refl _, by simp [Shared.setGen], fun _ _ h => h, fun h => L2.allBare_setGen h hx, rfl⟩
theorem Fz.setR {s s' : Shared} {g : Nat} {x : GenState} (h : Fz (s.setGen g x) s') (hx : x.bare = true := by rfl) : Fz s s' := (Fz.set hx).trans h
theorem runs_fz {M : Model} {Γ : PySem.Ctx} {p : Pos} {t : Sem PySem.Fin} {fs : List Frame} {s : Shared} {e : End} {s' : Shared} (h : Runs M Γ p t fs s e s') : Fz s s' := by
  induction h with
  | update ho _ ih => exact (Fz.upd ho).trans ih
  | alloc _ ih => exact Fz.push.trans ih
  | newGen _ ih => refine Fz.trans ?_ ih; exact Fz.of rfl (by simp) fun h => AllBare.push h rfl
  | fresh _ ih => refine Fz.trans ?_ ih; exact Fz.of rfl (Nat.le_refl _) id
  | choose _ _ ih => refine Fz.trans ?_ ih; exact Fz.of rfl (Nat.le_refl _) id
  | os _ ih => refine Fz.trans ?_ ih; exact Fz.of rfl (Nat.le_refl _) id
  | call _ _ ih1 ih2 => exact ih1.trans ih2
  | resumeFresh _ _ hq _ ih1 ih2 => exact ih1.setR.trans (ih2.setR (End.bare_of_quiet hq))
  | resumeSuspended _ _ hq _ ih1 ih2 => exact ih1.setR.trans (ih2.setR (End.bare_of_quiet hq))
  | resumeThrowFresh _ _ ih => exact ih.setR
  | segRet _ _ ih1 ih2 => exact ih1.trans ih2
  | segGen _ _ ih1 ih2 => exact ih1.trans ih2.setR
  | segSuspGen _ _ hq _ ih1 ih2 => exact ih1.trans (ih2.setR hq)
  | done => exact .refl _
  | raise => exact .refl _
  | yield => exact .refl _
  | again _ _ ih => exact ih
  | rule _ ih => exact ih
  | «at» _ ih => exact ih
  | load _ _ ih => exact ih
  | loadIfAlive _ ih => exact ih
  | point _ ih => exact ih
  | ask _ ih => exact ih
  | handled _ ih => exact ih
  | genState _ _ ih => exact ih
  | stack _ ih => exact ih
  | thread _ ih => exact ih
  | callSusp _ ih => exact ih
  | resumeJustStarted _ _ _ ih => exact ih
  | resumeRunning _ _ ih => exact ih
  | resumeFinished _ _ ih => exact ih
  | segSuspOut _ _ ih => exact ih
theorem wakes_fz {M : Model} {Γ : PySem.Ctx} {p : Pos} {g : Nat} {r : Resume} {s s' : Shared} {res : GenResult} (h : Wakes M Γ p g r s res s') : Fz s s' := by
  unfold Wakes at h
  split at h
  · exact h.elim
  · split at h
    · obtain ⟨e₁, s₁, hr, hq, _, rfl⟩ := h
      exact (runs_fz hr).setR.trans (.set (End.bare_of_quiet hq))
    · rw [h.2]; exact .refl _
    · rw [h.2]; exact .set
  · obtain ⟨e₁, s₁, hr, hq, _, rfl⟩ := h
    exact (runs_fz hr).setR.trans (.set (End.bare_of_quiet hq))
  · rw [h.2]; exact .refl _
  · rw [h.2]; exact .refl _
theorem wp_fz {α : Type} {M : Model} {Γ : PySem.Ctx} (s0 : Shared) (t : Sem α) : ∀ (Q : α → Pos → Shared → Prop) (E : Value → Pos → Shared → Prop) (p : Pos) (s : Shared), Fz s0 s → Sem.wp M Γ t Q E p s →
    Sem.wp M Γ t (fun a p' s' => Fz s0 s' ∧ Q a p' s') (fun e p' s' => Fz s0 s' ∧ E e p' s') p s := by
  induction t with
  | pure a => intro Q E p s hn h; exact ⟨hn, h⟩
  | raise e => intro Q E p s hn h; exact ⟨hn, h⟩
  | unsupported _ => intro Q E p s _ h; exact h
  | finish _ => intro Q E p s _ h; exact h
  | rule _ k ih => intro Q E p s hn h; exact ih () Q E p s hn h
  | «at» p' k ih => intro Q E p s hn h; exact ih () Q E p' s hn h
  | load a _ k ih => intro Q E p s hn h; obtain ⟨o, ho, h⟩ := h; exact ⟨o, ho, ih o Q E p s hn h⟩
  | update a _ f k ih => intro Q E p s hn h; exact ⟨h.1, ih () Q E p _ (hn.trans (Fz.upd h.1)) h.2⟩
  | loadIfAlive a k ih => intro Q E p s hn h; exact ih _ Q E p s hn h
  | point _ k ih => intro Q E p s hn h; exact ih () Q E p s hn h
  | register _ _ => intro Q E p s _ h; exact h
  | alloc o k ih => intro Q E p s hn h; exact ih _ Q E p _ (hn.trans Fz.push) h
  | fresh k ih => intro Q E p s hn h; exact ih _ Q E p _ (hn.trans ⟨Nat.le_refl _, Nat.le_refl _, fun _ _ h => h, id, rfl⟩) h
  | ask k ih => intro Q E p s hn h; exact ih _ Q E p s hn h
  | choose src m k ih => intro Q E p s hn h; exact ⟨h.1, ih _ Q E p _ (hn.trans ⟨Nat.le_refl _, Nat.le_refl _, fun _ _ h => h, id, rfl⟩) h.2⟩
  | os q _ k ih => intro Q E p s hn h; exact ih _ Q E p _ (hn.trans ⟨Nat.le_refl _, Nat.le_refl _, fun _ _ h => h, id, rfl⟩) h
  | call c hd _ _ k ih => intro Q E p s hn h; obtain ⟨r, s', hr, h⟩ := h; exact ⟨r, s', hr, ih r Q E p s' (hn.trans (runs_fz hr)) h⟩
  | handled own k ih => intro Q E p s hn h; exact ih _ Q E p s hn h
  | genState g k ih => intro Q E p s hn h; obtain ⟨st, hs, h⟩ := h; exact ⟨st, hs, ih _ Q E p s hn h⟩
  | newGen c k ih => intro Q E p s hn h; exact ih _ Q E p _ (hn.trans ⟨Nat.le_refl _, by simp, fun _ _ h => h, fun h => AllBare.push h rfl, rfl⟩) h
  | resume g r _ k ih => intro Q E p s hn h; obtain ⟨res, s', hw, h⟩ := h; exact ⟨res, s', hw, ih res Q E p s' (hn.trans (wakes_fz hw)) h⟩
  | yield _ _ _ _ => intro Q E p s _ h; exact h
  | stack k ih => intro Q E p s hn h; exact ih _ Q E p s hn h
  | fork _ _ => intro Q E p s _ h; exact h
  | thread k ih => intro Q E p s hn h; exact ih _ Q E p s hn h
  | await _ _ _ _ _ => intro Q E p s _ h; exact h
theorem wpAny_fz {α : Type} {M : Model} {A : Around} {s0 s : Shared} {t : Sem α} {Q : α → Shared → Prop} {E : Value → Shared → Prop} (hn : Fz s0 s) (h : wpAny M A t (fun a s' => Fz s0 s' → Q a s') (fun e s' => Fz s0 s' → E e s') s) : wpAny M A t Q E s :=
  wpAny_mono (fun Γ p hΓ => wp_fz s0 t _ _ p s hn (h Γ p hΓ) : wpAny M A t (fun a s' => Fz s0 s' ∧ (Fz s0 s' → Q a s')) (fun e s' => Fz s0 s' ∧ (Fz s0 s' → E e s')) s) (fun _ _ x => x.2 x.1) fun _ _ x => x.2 x.1
end Fs
set_option Elab.async false
set_option linter.all false
set_option maxRecDepth 100000
set_option maxHeartbeats 8000000
namespace Fs
open PySem PySem.Spec PyProof.Rows L2
/-- the sleepers of a state -/
abbrev slpOf (s : Shared) : Nat → Prop := fun i => ∃ x, s.gens[i]? = some x ∧ isSlp x
/-- s' is what the model's state s0 stands for, with other sleepers at J -/
structure Sj (J : Nat → Prop) (s0 s' : Shared) : Prop where
  eq : s' = { s0 with gens := s'.gens }
  sim : SimG J (erSh s0).gens s'.gens
  wf : WfG J (erSh s0).gens
theorem erG_bare {x : GenState} (h : x.bare = true) : (erG x).bare = true := by
  cases x with
  | suspended k l c p fs cl =>
    cases cl with
    | true => cases h
    | false => rfl
  | _ => rfl
theorem erSh_bare {s : Shared} (h : AllBare s.gens) : AllBare (erSh s).gens := fun y hy => by
  obtain ⟨x, hx, rfl⟩ := Array.mem_map.mp hy
  exact erG_bare (h x hx)
theorem Sj.bare {J : Nat → Prop} {s0 s' : Shared} (j : Sj J s0 s') (h : AllBare s0.gens) : AllBare s'.gens := j.sim.bare (erSh_bare h)
/-- what bears a loud mark is one of J -/
theorem Sj.loud {J : Nat → Prop} {s0 s' : Shared} (j : Sj J s0 s') (q : AllBare s0.gens) {i : Nat} {k : Resume → Sem PySem.Fin} {l : List Value} {c : Code} {p : Pos} {fs : List Frame} {cl : Bool}
    (e : s'.gens[i]? = some (.suspended k (.ellipsis :: l) c p fs cl)) (hy : (yfOf c).isSome = true) : J i := by
  rcases Classical.em (J i) with h | h
  · exact h
  · have e5 := j.sim.off i h
    rw [e] at e5
    simp only [erSh, Array.getElem?_map] at e5
    cases r : s0.gens[i]? with
    | none => rw [r] at e5; cases e5
    | some x =>
      rw [r] at e5
      have hx := q x (Array.mem_of_getElem? r)
      cases x with
      | suspended k2 l2 c2 p2 fs2 cl2 =>
        cases cl2 with
        | true => cases hx
        | false =>
          simp only [Option.map_some, erG, Bool.false_and, Option.some.injEq, GenState.suspended.injEq] at e5
          obtain ⟨_, e6, e7, _⟩ := e5
          subst e7
          unfold erL at e6
          cases y : yfOf c2 with
          | none => rw [y] at hy; cases hy
          | some a =>
            rw [y] at e6
            exact absurd (List.cons.inj e6).1 (by simp)
      | fresh c2 => simp [erG] at e5
      | running => simp [erG] at e5
      | finished => simp [erG] at e5
/-- a fact of the model at s0, at s' -/
theorem lift_j {α : Type} {P : Program} {w : World} {A : Around} {t : Sem α} {Q : α → Shared → Prop} {E : Value → Shared → Prop} {J : Nat → Prop} {s0 s' : Shared} (j : Sj J s0 s') (h : wpAny (model P w) A t Q E s0) :
    wpAny (M0 P w) A t (fun a s2 => ∃ s1, Q a s1 ∧ Sj J s1 s2 ∧ ∀ i, J i → s2.gens[i]? = s'.gens[i]?) (fun e s2 => ∃ s1, E e s1 ∧ Sj J s1 s2 ∧ ∀ i, J i → s2.gens[i]? = s'.gens[i]?) s' := by
  intro Γ p hΓ
  have z0 : wpAny (M0 P w) A t (Beh Q) (Beh E) (erSh s0) := any_lift h
  have z := wp_psn t _ _ p (erSh s0) s'.gens j.sim j.wf (z0 Γ p hΓ)
  rw [show ({ erSh s0 with gens := s'.gens } : Shared) = s' from j.eq.symm] at z
  have fin : ∀ {s2 : Shared} {Z : Shared → Prop}, OffG J s'.gens s2 (fun s1 => ∃ s0, s1 = erSh s0 ∧ Z s0) → ∃ s1, Z s1 ∧ Sj J s1 s2 ∧ ∀ i, J i → s2.gens[i]? = s'.gens[i]? := fun {s2 Z} ⟨a', h1, h2, h3, s1, e0, h4⟩ => by
    have eg : a' = (erSh s1).gens := congrArg Shared.gens e0
    subst eg
    refine ⟨s1, h4, ⟨?_, h1, h2⟩, h3⟩
    have e1 : s2.heap = s1.heap := (congrArg Shared.heap e0 : ({ s2 with gens := (erSh s1).gens } : Shared).heap = (erSh s1).heap)
    have e2 : s2.drawn = s1.drawn := (congrArg Shared.drawn e0 : ({ s2 with gens := (erSh s1).gens } : Shared).drawn = (erSh s1).drawn)
    have e3 : s2.toks = s1.toks := (congrArg Shared.toks e0 : ({ s2 with gens := (erSh s1).gens } : Shared).toks = (erSh s1).toks)
    have e4 : s2.os = s1.os := (congrArg Shared.os e0 : ({ s2 with gens := (erSh s1).gens } : Shared).os = (erSh s1).os)
    obtain ⟨h, g, d, t, o⟩ := s2
    have e1 : h = s1.heap := e1
    have e2 : d = s1.drawn := e2
    have e3 : t = s1.toks := e3
    have e4 : o = s1.os := e4
    subst e1 e2 e3 e4
    rfl
  exact Sem.wp_mono _ _ _ (fun a p s' q => fin q) (fun a p s' q => fin q) _ _ z
theorem Sj.of {s : Shared} (hb : AllBare s.gens) : Sj (slpOf s) (asleep s) s := by
  refine ⟨rfl, ⟨by simp [asleep, erSh], fun i ⟨x, e, hx⟩ => ?_, fun i j => ?_⟩, fun i k l c p fs cl j e => ?_⟩
  · cases x with
    | suspended k l c p fs cl =>
      have hc : cl = false := by
        have q := hb _ (Array.mem_of_getElem? e)
        cases cl with
        | false => rfl
        | true => cases q
      subst hc
      exact ⟨erG (psn (.suspended k l c p fs false)), _, by simp [asleep, erSh, e], e, erL c false l, c, p, erS fs, false, k, l, fs, rfl, rfl, erS_where fs⟩
    | _ => exact hx.elim
  · simp only [asleep, erSh, Array.getElem?_map]
    cases e : s.gens[i]? with
    | none => rfl
    | some x =>
      cases x with
      | suspended k l c p fs cl => exact absurd ⟨_, e, trivial⟩ j
      | _ => rfl
  · simp only [asleep, erSh, Array.getElem?_map] at e
    cases q : s.gens[i]? with
    | none => rw [q] at e; cases e
    | some x =>
      rw [q] at e
      cases x with
      | suspended k l c p fs cl => exact absurd ⟨_, q, trivial⟩ j
      | _ => cases e
theorem wpAny_bare {α : Type} {M : Model} {A : Around} {t : Sem α} {Q : α → Shared → Prop} {E : Value → Shared → Prop} {s : Shared} (hb : AllBare s.gens) (h : wpAny M A t Q E s) : wpAny M A t (fun a s' => Q a s' ∧ AllBare s'.gens) (fun e s' => E e s' ∧ AllBare s'.gens) s :=
  wpAny_fz (Fz.refl s) (wpAny_mono h (fun _ _ q fz => ⟨q, fz.bare hb⟩) fun _ _ q fz => ⟨q, fz.bare hb⟩)
/-- s' is what s0 stands for, with the sleepers of s in their places -/
structure Slq (s s0 s' : Shared) : Prop where
  j : Sj (slpOf s) s0 s'
  kept : ∀ i, slpOf s i → s'.gens[i]? = s.gens[i]?
  b0 : AllBare s0.gens
theorem Slq.eq {s s0 s' : Shared} (q : Slq s s0 s') : s' = { s0 with gens := s'.gens } := q.j.eq
theorem Slq.bare {s s0 s' : Shared} (q : Slq s s0 s') (_ : AllBare s0.gens) : AllBare s'.gens := q.j.bare q.b0
theorem Slq.slp {s s0 s' : Shared} (q : Slq s s0 s') {i : Nat} {x : GenState} (e : s.gens[i]? = some x) (h : isSlp x) : s'.gens[i]? = some x := (q.kept i ⟨x, e, h⟩).trans e
theorem lift_slp {α : Type} {P : Program} {w : World} {A : Around} {t : Sem α} {Q : α → Shared → Prop} {E : Value → Shared → Prop} {s : Shared} (hb : AllBare s.gens) (h : wpAny (model P w) A t Q E (asleep s)) :
    wpAny (M0 P w) A t (fun a s' => ∃ s0, Q a s0 ∧ Slq s s0 s') (fun e s' => ∃ s0, E e s0 ∧ Slq s s0 s') s :=
  wpAny_mono (lift_j (Sj.of hb) (wpAny_bare (asleep_bare hb) h)) (fun _ _ ⟨s0, ⟨q, b⟩, j, k⟩ => ⟨s0, q, j, k, b⟩) fun _ _ ⟨s0, ⟨q, b⟩, j, k⟩ => ⟨s0, q, j, k, b⟩
/-- a second piece -/
theorem lift_slq {α : Type} {P : Program} {w : World} {A : Around} {t : Sem α} {Q : α → Shared → Prop} {E : Value → Shared → Prop} {s s0 s' : Shared} (q : Slq s s0 s') (h : wpAny (model P w) A t Q E s0) :
    wpAny (M0 P w) A t (fun a s2 => ∃ s1, Q a s1 ∧ Slq s s1 s2) (fun e s2 => ∃ s1, E e s1 ∧ Slq s s1 s2) s' :=
  wpAny_mono (lift_j q.j (wpAny_bare q.b0 h)) (fun _ _ ⟨s1, ⟨z, b⟩, j, k⟩ => ⟨s1, z, j, fun i hi => (k i hi).trans (q.kept i hi), b⟩) fun _ _ ⟨s1, ⟨z, b⟩, j, k⟩ => ⟨s1, z, j, fun i hi => (k i hi).trans (q.kept i hi), b⟩
end Fs
set_option Elab.async false
set_option linter.all false
set_option maxRecDepth 100000
set_option maxHeartbeats 8000000
namespace Fs
open PySem PySem.Spec PyProof.Rows L2
/-- the run from here reaches its end or the next yield in Φ -/
def SegX (M : Model) (A : Around) (Φ : End → Shared → Prop) (c : Code) (t : Sem PySem.Fin) (fs : List Frame) (s : Shared) : Prop := ∀ (Γ : PySem.Ctx) (p : Pos), Γ.code = c → Γ.Woken A → ∃ e s', Runs M Γ p t fs s e s' ∧ Φ e s'
section
variable {M : Model} {A : Around} {Φ : End → Shared → Prop} {c : Code} {fs : List Frame} {s : Shared}
theorem SegX.mono {Φ' : End → Shared → Prop} {t : Sem PySem.Fin} (h : SegX M A Φ c t fs s) (k : ∀ e s', Φ e s' → Φ' e s') : SegX M A Φ' c t fs s := fun Γ p hc hΓ =>
  let ⟨e, s', hr, he⟩ := h Γ p hc hΓ
  ⟨e, s', hr, k e s' he⟩
theorem SegX.runs {Φ' : End → Shared → Prop} {t : Sem PySem.Fin} (h : SegX M A Φ c t fs s) (k : ∀ (Γ : PySem.Ctx) p e s', Runs M Γ p t fs s e s' → Φ e s' → Φ' e s') : SegX M A Φ' c t fs s := fun Γ p hc hΓ =>
  let ⟨e, s', hr, he⟩ := h Γ p hc hΓ
  ⟨e, s', hr, k Γ p e s' hr he⟩
theorem segx_wrap {α : Type} {m : Sem α} {K : α → Sem PySem.Fin} {H : Value → Sem PySem.Fin} {gd lv} (h : wpAny M (A.over c fs) m (fun a s' => SegX M A Φ c (K a) fs s') (fun x s' => SegX M A Φ c (H x) fs s') s) :
    SegX M A Φ c (m.wrap K H gd lv) fs s := by
  rintro Γ p rfl hΓ
  exact runs_wrap_of_wp K H gd lv m (h (Γ.over fs) p (hΓ.over fs)) (fun a p' s' h' => h' Γ p' rfl hΓ) (fun x p' s' h' => h' Γ p' rfl hΓ)
theorem segx_bind {α : Type} {m : Sem α} {K : α → Sem PySem.Fin} (h : wpAny M (A.over c fs) m (fun a s' => SegX M A Φ c (K a) fs s') (fun x s' => SegX M A Φ c (.raise x) fs s') s) : SegX M A Φ c (m >>= K) fs s := by
  rw [Sem.bind_eq_wrap']
  exact segx_wrap h
theorem segx_bind_wrap {α β : Type} {m : Sem α} {f : α → Sem β} {K : β → Sem PySem.Fin} {H : Value → Sem PySem.Fin} {gd lv} (h : wpAny M (A.over c fs) m (fun a s' => SegX M A Φ c ((f a).wrap K H gd lv) fs s') (fun x s' => SegX M A Φ c (H x) fs s') s) :
    SegX M A Φ c ((m >>= f).wrap K H gd lv) fs s := by
  rw [Sem.bind_eq_wrap' m f, Sem.wrap_wrap]
  exact segx_wrap h
theorem segx_at {p' : Pos} {k : Unit → Sem PySem.Fin} (h : SegX M A Φ c (k ()) fs s) : SegX M A Φ c (.at p' k) fs s :=
  segx_wrap (m := standAt p') (K := k) (H := .raise) (gd := id) (lv := id) (wpAny_standAt h)
theorem segx_point {l : List Value} {k : Unit → Sem PySem.Fin} (h : SegX M A Φ c (k ()) fs s) : SegX M A Φ c (.point l k) fs s :=
  segx_wrap (m := point) (K := k) (H := .raise) (gd := id) (lv := fun _ => l) (wpAny_point h)
theorem segx_call {c' : Code} {h g l} {k : Result → Sem PySem.Fin} (hc : ∀ p, SegX M A Φ c' (M.den c') (.ret k h g l c p [] :: fs) s) : SegX M A Φ c (.call c' h g l k) fs s := by
  rintro Γ p rfl hΓ
  obtain ⟨e, s', hr, he⟩ := hc p (Γ.goto c') p rfl (hΓ.goto c')
  exact ⟨e, s', runs_call_seg hr, he⟩
theorem segx_leaf {k h g l c₁ p₁ kp} (r : Result) (hk : SegX M A Φ c₁ (k r) fs s) : SegX M A Φ c (leafOf r) (.ret k h g l c₁ p₁ kp :: fs) s := by
  rintro Γ p rfl hΓ
  obtain ⟨e, s', hr, he⟩ := hk (Γ.goto c₁) p₁ rfl (hΓ.goto c₁)
  exact ⟨e, s', Runs.pop r hr, he⟩
theorem segx_again {c' : Code} (hq : c'.quiet = true) (hc : SegX M A Φ c' (M.den c') fs s) : SegX M A Φ c (.pure (.again c')) fs s := by
  rintro Γ p rfl hΓ
  obtain ⟨e, s', hr, he⟩ := hc (Γ.goto c') p rfl (hΓ.goto c')
  exact ⟨e, s', Runs.head (c₁ := c') (fun _ _ x => .again hq x) hr, he⟩
theorem segx_end (r : Result) (h : Φ (.ret r) s) : SegX M A Φ c (leafOf r) [] s := by
  rintro Γ p rfl _
  exact ⟨.ret r, s, Runs.leaf r, h⟩
/-- how a sleeper goes on -/
def SlpOn (M : Model) (A : Around) : End → (End → Shared → Prop) → Shared → Prop
  | .susp _ _ _ k c _ fs, Ψ, s => SegX M A Ψ c (k (.send .none)) fs s
  | _, _, _ => False
theorem segx_yield {v g l} {k : Resume → Sem PySem.Fin} (hfs : splitAtGen fs = none) (hg : g = false) (hfg : fs.any Frame.guarded = false)
    (h : ∀ p, (End.susp v g l k c p fs).quiet = true → Φ (.susp v g l k c p fs) s) : SegX M A Φ c (.yield v g l k) fs s := by
  rintro Γ p rfl _
  exact ⟨_, s, Runs.yield' fs hfs, h p (by simp [End.quiet, hg, hfg])⟩
variable {env : Env} {K : Flow → Sem PySem.Fin} {H : Value → Sem PySem.Fin} {gd : Bool → Bool} {lv : List Value → List Value}
theorem segx_execs_nil (h : SegX M A Φ c (K .next) fs s) : SegX M A Φ c ((execs [] env).wrap K H gd lv) fs s := h
theorem segx_execs_cons {st : Stmt} {rest : List Stmt} (h : SegX M A Φ c ((exec st env).wrap (fun f => match f with | .next => (execs rest env).wrap K H gd lv | f => K f) H gd lv) fs s) :
    SegX M A Φ c ((execs (st :: rest) env).wrap K H gd lv) fs s := by rw [execs_cons_wrap]; exact h
theorem segx_Expr_Yield {e : Expr} {ypos pos : Pos} (hfs : splitAtGen fs = none) (hgd : gd false = false) (hfg : fs.any Frame.guarded = false)
    (h : wpAny M (A.over c fs) (eval e env) (fun v s' => ∀ en, (∃ g l k p, en = End.susp v g l k c p fs) → en.quiet = true → (∀ Ψ s'', SegX M A Ψ c (K .next) fs s'' → SlpOn M A en Ψ s'') → Φ en s')
      (fun x s' => SegX M A Φ c (H x) fs s') s) (hco : env.scope.isCoroutine = false := by rfl) (hi : interactive env = false := by rfl) :
    SegX M A Φ c ((exec (.Expr (.Yield (some e) ypos) pos) env).wrap K H gd lv) fs s := by
  rw [exec_Expr env _ pos hi rfl]
  show SegX M A Φ c (.at pos fun _ => ((eval e env >>= fun v => (standAt ypos >>= fun _ => yieldOut env v)) >>= fun x => dropValue (.Yield (some e) ypos) pos x).wrap K H gd lv) fs s
  have hy : ∀ v, yieldOut env v = yieldValue v := fun v => by simp only [yieldOut, hco, Bool.false_eq_true, if_false]
  simp only [hy]
  refine segx_at ?_
  rw [Sem.bind_eq_wrap', Sem.bind_eq_wrap', Sem.wrap_wrap, Sem.wrap_wrap]
  refine segx_wrap (wpAny_mono h (fun v s' h' => ?_) fun _ _ x => x)
  refine segx_at (segx_yield hfs hgd hfg fun p hq => ?_)
  exact h' _ ⟨_, _, _, _, rfl⟩ hq fun Ψ s'' hx => hx
theorem segx_If {test : Expr} {a b : List Stmt} {pos : Pos} (h : wpAny M (A.over c fs) (isTrue test env (eval test env)) (fun r s' => if r = true then SegX M A Φ c ((execs a env).wrap K H gd lv) fs s' else SegX M A Φ c ((execs b env).wrap K H gd lv) fs s')
    (fun x s' => SegX M A Φ c (H x) fs s') s) : SegX M A Φ c ((exec (.If test a b pos) env).wrap K H gd lv) fs s := by
  show SegX M A Φ c (.at pos fun _ => ((isTrue test env (eval test env)) >>= fun r => if r = true then execs a env else execs b env).wrap K H gd lv) fs s
  refine segx_at (segx_bind_wrap (wpAny_mono h (fun r s' h' => ?_) fun _ _ x => x))
  cases r with
  | true => exact h'
  | false => exact h'
/-- what a loop's code does with what is raised -/
def notedX (env : Env) (e : Value) : Sem PySem.Fin := (do noteFrame e env; theTreesLotGoes e : Sem Unit).wrap (fun _ => .raise e) .raise id id
def forK (cF : Code) : Flow → Sem PySem.Fin
  | .next | .cont => .pure (.again cF)
  | .brk => .pure (.done .next)
  | .ret v => .pure (.done (.ret v))
/-- the frame of a loop's call -/
def loopFr (env : Env) (K : Flow → Sem PySem.Fin) (H : Value → Sem PySem.Fin) (gd : Bool → Bool) (lv : List Value → List Value) (c : Code) (p : Pos) : Frame :=
  .ret (fun r => ((match r with | .ok f => (.pure f : Sem Flow) | .error e => .raise e).onRaise (cameBack env)).wrap K H gd lv) none (gd false) (lv []) c p []
theorem segx_For {target iter : Expr} {body : List Stmt} {pos : Pos} (h : wpAny M (A.over c fs) (eval iter env) (fun v s1 => wpAny M (A.over c fs) (pyIter v) (fun it s2 => ∀ p, ∃ l, SegX M A Φ (.forLoop target it body [] env) (M.den (.forLoop target it body [] env))
      (.ret (fun r => ((match r with | .ok f => (.pure f : Sem Flow) | .error e => .raise e).onRaise (cameBack env)).wrap K H gd lv) none (gd false) l c p [] :: fs) s2 ∧ l = lv []) (fun x s' => SegX M A Φ c (H x) fs s') s1) (fun x s' => SegX M A Φ c (H x) fs s') s)
    (hs : ∀ x, foldedSetIterable iter env x = pure x) : SegX M A Φ c ((exec (.For target iter body [] pos) env).wrap K H gd lv) fs s := by
  rw [exec_For]
  refine segx_bind_wrap (wpAny_standAt (segx_bind_wrap (wpAny_mono h (fun v s1 h1 => ?_) fun _ _ x => x)))
  refine segx_bind_wrap (wpAny_of_eq (hs v) (segx_bind_wrap (wpAny_standAt (segx_bind_wrap (wpAny_holding (wpAny_mono h1 (fun it s2 h2 => ?_) fun _ _ x => x))))))
  refine segx_call fun p => ?_
  obtain ⟨l, q, rfl⟩ := h2 p
  exact q
end
section
variable {prog : Program} {w : World} {A : Around} {Φ : End → Shared → Prop} {fs : List Frame} {s : Shared} {env : Env}
/-- the tree of a code that is no yield from -/
theorem den_raw {c : Code} (h : yfOf c = none) : (M0 prog w).den c = denote table c := er_id h _
theorem segx_block {body : List Stmt} (h : SegX (M0 prog w) A Φ (.block [] env) (.pure (.done .next)) fs s) : SegX (M0 prog w) A Φ (.block [] env) ((M0 prog w).den (.block [] env)) fs s := by
  rw [den_raw rfl]
  exact h
theorem segx_forLoop {target : Expr} {it : Value} {body : List Stmt}
    (h : wpAny (M0 prog w) (A.over (.forLoop target it body [] env) fs) (pyNext it) (fun r s1 => match r with
      | none => SegX (M0 prog w) A Φ (.block [] env) (.pure (.done .next)) fs s1
      | some v => wpAny (M0 prog w) (A.over (.forLoop target it body [] env) fs) (letOwnedTupleGo target it v) (fun _ s2 => wpAny (M0 prog w) (A.over (.forLoop target it body [] env) fs) (assign target env v) (fun _ s3 =>
          SegX (M0 prog w) A Φ (.forLoop target it body [] env) ((execs body env).wrap (forK (.forLoop target it body [] env)) (notedX env) id id) fs s3)
          (fun x s' => SegX (M0 prog w) A Φ (.forLoop target it body [] env) (notedX env x) fs s') s2) (fun x s' => SegX (M0 prog w) A Φ (.forLoop target it body [] env) (notedX env x) fs s') s1)
      (fun x s' => SegX (M0 prog w) A Φ (.forLoop target it body [] env) (notedX env x) fs s') s) :
    SegX (M0 prog w) A Φ (.forLoop target it body [] env) ((M0 prog w).den (.forLoop target it body [] env)) fs s := by
  rw [den_raw rfl]
  show SegX _ A Φ _ ((forTurn target it body [] env).onRaise (fun x => do noteFrame x env; theTreesLotGoes x)) fs s
  unfold forTurn
  rw [Sem.onRaise_eq_wrap]
  have hJ : (fun e => (do noteFrame e env; theTreesLotGoes e : Sem Unit).bind fun _ => (.raise e : Sem PySem.Fin)) = notedX env := by
    funext e
    unfold notedX
    rw [Sem.bind_eq_wrap]
  have hJ' : (fun e => ((fun x => do noteFrame x env; theTreesLotGoes x : Value → Sem Unit) e).bind fun _ => (.raise e : Sem PySem.Fin)) = notedX env := hJ
  rw [hJ']
  refine segx_bind_wrap (wpAny_standAt (segx_bind_wrap (wpAny_onRaise (wpAny_mono h (fun r s1 h1 => ?_) fun x s' h' => wpAny_standAt h'))))
  cases r with
  | none => exact segx_again rfl (segx_block (body := body) h1)
  | some v =>
    refine segx_bind_wrap (wpAny_mono h1 (fun _ s2 h2 => ?_) fun _ _ x => x)
    refine segx_bind_wrap (wpAny_mono h2 (fun _ s3 h3 => ?_) fun _ _ x => x)
    rw [Sem.bind_eq_wrap', Sem.wrap_wrap]
    refine Eq.mpr (congrArg (fun t => SegX (M0 prog w) A Φ (.forLoop target it body [] env) t fs s3) (Sem.wrap_congr (execs body env) id id (fun f => ?_) (fun e => ?_))) h3
    · cases f <;> rfl
    · rfl
theorem segx_func {body : List Stmt} (h : SegX (M0 prog w) A Φ (.func body env) ((execs body env).wrap (fun f => .pure (.done (.ret (match f with | .ret v => v | _ => .none)))) (fun e => (leaving env e).wrap (fun _ => .raise e) .raise id id) id id) fs s) :
    SegX (M0 prog w) A Φ (.func body env) ((M0 prog w).den (.func body env)) fs s := by
  rw [den_raw rfl]
  show SegX _ A Φ _ (.point [] fun _ => ((execs body env).onRaise (leaving env)) >>= _) fs s
  refine segx_point ?_
  rw [Sem.onRaise_eq_wrap, Sem.bind_eq_wrap', Sem.wrap_wrap]
  rw [Sem.wrap_congr (execs body env) _ _ (K' := fun f => .pure (.done (.ret (match f with | .ret v => v | _ => .none)))) (H' := fun e => (leaving env e).wrap (fun _ => .raise e) .raise id id) (fun f => by cases f <;> rfl) (fun e => by rw [Sem.bind_eq_wrap, Sem.wrap_wrap]; rfl)]
  exact h
end
end Fs
set_option Elab.async false
set_option linter.all false
set_option maxRecDepth 100000
set_option maxHeartbeats 8000000
namespace Fs
open PySem PySem.Spec PyProof.Rows L2
theorem yf_builtin {id : String} {args : Args} (h : id ≠ "proto.yield_from") : yfOf (.builtin id args) = none := by
  unfold yfOf
  split
  · rename_i id' a rest kw e
    injection e with e1 _
    rw [if_neg (by rw [← e1]; exact h)]
  · rfl
section
variable {P : Program} {w : World} {A : Around} {E : Value → Shared → Prop} {s : Shared} {R : Result → Shared → Prop}
theorem code_builtin0 {id : String} {args : Args} {b : Builtin} (hn : id ≠ "proto.yield_from") (hb : entryFor table id = some b)
    (h : wpAny (M0 P w) (A.under (.builtin id args)) (b args) (fun fin s' => match fin with | .done f => R (.ok f) s' | .again c' => c'.quiet = true ∧ codeAny (M0 P w) A c' R s') (fun e s' => R (.error e) s') s) : codeAny (M0 P w) A (.builtin id args) R s := by
  refine codeAny_of_tree ?_
  rw [den_raw (yf_builtin hn)]
  show wpAny _ _ (match entryFor table id with | some b => b args | none => unsupported ((withoutEnding? id "#data").getD id)) _ _ s
  rw [hb]
  exact h
theorem code_call0 {id : String} {args : Args} {b : Builtin} (hn : id ≠ "proto.yield_from") (hq : plainId id = true) (hb : entryFor table id = some b)
    (h : wpAny (M0 P w) A.in1 (checkBuiltinCall id args) (fun _ s1 => wpAny (M0 P w) A.in1 (b args)
      (fun fin s' => match fin with | .done f => R (.ok f) s' | .again c' => c'.quiet = true ∧ codeAny (M0 P w) A c' R s') (fun e s' => R (.error e) s') s1) (fun e s' => R (.error e) s') s) : codeAny (M0 P w) A (.call (.builtin id) args) R s := by
  refine codeAny_of_tree ?_
  rw [den_raw rfl]
  have e : A.under (.call (.builtin id) args) = A.in1 := rfl
  show wpAny _ (A.under (.call (.builtin id) args)) (checkBuiltinCall id args >>= fun _ => again (.builtin id args)) _ _ s
  rw [e]
  refine wpAny_bind (wpAny_mono h (fun _ s1 h1 => wpAny_pure ⟨plainId_quiet hq args, code_builtin0 hn hb ?_⟩) fun _ _ x => x)
  rw [Around.under_plainId hq args]
  exact h1
/-- a slot's function, at M0 -/
theorem call_entry0 {T : String} {name : Str} {id : String} {b : Builtin} {self : Value} {rest : List Value} {Q : Value → Shared → Prop} (hn : id ≠ "proto.yield_from") (h : Slot T name id) (hT : s.TypeIs self T) (hb : entryFor table id = some b)
    (hc : wpAny (M0 P w) A.in1 (b ⟨self :: rest, []⟩) (fun fin s' => ∃ v, fin = .done (.ret v) ∧ Q v s') E s) (ha : argsOk id ⟨self :: rest, []⟩ := by rfl) : wpAny (M0 P w) A (call (.builtin id) (self :: rest)) Q E s := by
  refine wpAny_call (code_call0 hn h.plain hb (h.check _ _ _ _ _ _ _ _ hT ha (wpAny_mono hc (fun fin s' h' => ?_) fun _ _ x => x)))
  obtain ⟨v, rfl, hv⟩ := h'
  exact hv
/-- a call of a generator def, at M0: bind, make the names' map, lay the object -/
theorem code_callgen0 {f : Addr} {args : Args} {of_ : Obj} {fd : FuncData} {body : List Stmt} (room : A.depth < recursionLimit) (hf : s.heap.get? f = some of_) (hfd : of_.data = .func fd) (h1 : fd.scope.isCoroutine = false) (h2 : fd.scope.isGenerator = true) (h3 : fd.body = .stmts body)
    (hcode : s.heap.CodeRec fd.code fd.qualname)
    (h : wpAny (M0 P w) A.in1 (bindArgs fd args) (fun bs t => wpAny (M0 P w) A.in1 (newFunctionEnv fd.scope fd.globals fd.closure bs (fd.qualname ++ Str.ofString ".<locals>.") (some f) fd.code none fd.builtins)
      (fun env t2 => t2.heap.NoLimit ∧ R (.ok (.ret (.ref t2.heap.objs.size))) { t2 with gens := t2.gens.push (.fresh (.func body env)), toks := t2.toks + 1 + 1, heap := t2.heap.push { cls := .type "generator", data := .fields #[.int t2.gens.size 0, .str fd.name t2.toks, .str fd.qualname (t2.toks + 1)] } })
      (fun e t2 => R (.error e) t2) t) (fun e t => R (.error e) t) s) : codeAny (M0 P w) A (.call (.ref f) args) R s := by
  obtain ⟨ca, co, cv, ct, ec, e1, e2, e3⟩ := hcode
  rw [ec] at h
  refine codeAny_of_tree ?_
  rw [den_raw rfl]
  show wpAny _ A.in1 (callAny (.ref f) args) _ _ s
  simp only [callAny]
  refine wpAny_bind (wpAny_load hf ?_)
  simp only [hfd, callFunction, h1, h2, h3, ec]
  refine wpAny_bind (m := field (.ref ca) 1) (wpAny_field e1 e2 e3 (wpAny_bind (wpAny_pure (wpAny_bind (wpAny_mono h (fun bs t ht => ?_) fun _ _ x => x)))))
  refine wpAny_bind (wpAny_mono ht (fun env t2 q => wpAny_bind (wpAny_enterFrame q.1 room ?_)) fun _ _ x => x)
  simp only [newGenerator, newFields]
  refine wpAny_bind (wpAny_bind (wpAny_newGen (wpAny_bind (wpAny_mkText (wpAny_bind (wpAny_mkText ?_))))))
  exact wpAny_newObj_type (wpAny_pure q.2) (by size_fits)
end
end Fs
set_option Elab.async false
set_option linter.all false
set_option maxRecDepth 100000
set_option maxHeartbeats 8000000
namespace Fs
open PySem PySem.Spec PyProof.Rows L2
/-! ### the heap as it was ahead of the frame -/
def trH (n : Nat) (h : Heap) : Heap := ⟨h.objs.extract 0 n, h.life⟩
theorem trH_size (n : Nat) (h : Heap) : (trH n h).objs.size = min n h.objs.size := by simp [trH]
theorem trH_get {n : Nat} {h : Heap} {b : Addr} {o : Obj} : (trH n h).get? b = some o ↔ b < n ∧ h.get? b = some o := by
  rw [Heap.get?_some_iff, Heap.get?_some_iff]
  show (h.objs.extract 0 n)[b]? = some o ∧ _ ↔ _
  constructor
  · rintro ⟨e, f⟩
    rw [Array.getElem?_extract] at e
    split at e
    · rename_i l
      have l' : (b : Nat) < min n h.objs.size - 0 := l
      exact ⟨Nat.lt_of_lt_of_le l' (Nat.le_trans (Nat.sub_le _ _) (Nat.min_le_left _ _)), by simpa using e, f⟩
    · cases e
  · rintro ⟨l, e, f⟩
    refine ⟨?_, f⟩
    rw [Array.getElem?_extract]
    have l2 := (Array.getElem?_eq_some_iff.mp e).1
    have l1 : (b : Nat) < n := l
    have l3 : (b : Nat) < h.objs.size := l2
    rw [if_pos (Nat.lt_of_lt_of_eq (Nat.lt_min.mpr ⟨l1, l3⟩) (Nat.sub_zero _).symm)]
    simpa using e
theorem trH_funs {n : Nat} {h h' base : Heap} : ∀ {l : List Env}, (trH n h).FunFrames base l → h'.FunFrames base l → (trH n h').FunFrames base l
  | [], _, _ => trivial
  | env :: rest, ⟨k, ⟨L, o, hf, hn, ho, _⟩, r⟩, ⟨_, ⟨L', o', hf', hn', ho', hd'⟩, r'⟩ => by
    have e : L = L' := Option.some.inj (hf.symm.trans hf')
    subst e
    exact ⟨k, ⟨L, o', hf, hn, trH_get.mpr ⟨(trH_get.mp ho).1, ho'⟩, hd'⟩, trH_funs r r'⟩
/-! ### a generator's place -/
/-- what never changes: A: where it is woken; n0: the heap's size at its call (its names' map stands there); pn: its own object -/
structure Gst where
  P : Program
  w : World
  K : Frag
  mg : Str → Option Value
  base : Heap
  A : Around
  N : List Str
  qual : Str
  scope : Scope
  f : Addr
  cd : Value
  outer : List Env
  n0 : Nat
  E : XK
  pn : List (Addr × Obj)
  a : Addr
  g : Nat
  oe : Option Er
abbrev Gst.env (G : Gst) : Env := envOfC G.qual G.scope G.n0 G.f G.cd
/-- its frame's context, woken at s -/
def Gx (G : Gst) (s : Shared) (Z : Hp) : Cx where
  prog := G.P
  w := G.w
  K := G.K
  mg := G.mg
  base := G.base
  A := G.A.deeper (envOfC G.qual G.scope G.n0 G.f G.cd)
  N := G.N
  s_0 := { s with heap := trH G.n0 s.heap }
  H_0 := Z
  env := envOfC G.qual G.scope G.n0 G.f G.cd
  outer := G.outer
  stack := envOfC G.qual G.scope G.n0 G.f G.cd :: G.outer
  ex := []
  fn := fun _ => true
  calm := true
  pn := G.pn
  xe := fun e s' => wpAny (model G.P G.w) (G.A.deeper (envOfC G.qual G.scope G.n0 G.f G.cd)) (leaving (envOfC G.qual G.scope G.n0 G.f G.cd) e)
    (fun _ s'' => L2.CX G.P G.w G.outer Z { s with heap := trH G.n0 s.heap } G.E e s'' ∧ ∀ p ∈ G.pn, s''.heap.get? p.1 = some p.2) (fun _ _ => False) s'
theorem takesG {G : Gst} {s : Shared} {Z : Hp} : Takes (Gx G s Z) (fun cls d _ H => G.E cls d H) := fun u s' x =>
  XE.leaveG (W := fun cls d _ H => G.E cls d H) (E := G.E) rfl rfl rfl (fun _ _ _ _ h => h) x
theorem ownsG {G : Gst} {s : Shared} {Z : Hp} : PassesOwn (model G.P G.w) (Gx G s Z).A (Gx G s Z).env (Gx G s Z).xe :=
  passes_of (X := Gx G s Z) (K := fun e s'' => L2.CX G.P G.w G.outer Z { s with heap := trH G.n0 s.heap } G.E e s'' ∧ ∀ p ∈ G.pn, s''.heap.get? p.1 = some p.2) (E₁ := fun _ _ => False) rfl
abbrev Ow := Addr → Prop
open Classical in
/-- what is known of the heap at a waking: the tuples of T; all else above n0 that is not its own is frozen -/
noncomputable def Zt (n0 : Nat) (T : Hp) (O : Ow) (h : Heap) : Hp := fun b => match T b with
  | some o => some o
  | none => if n0 ≤ b ∧ ¬ O b then (h.get? b).map (fun o => .frz o (.ext fun h' => h'.get? b = some o)) else none
theorem Zt_T {n0 : Nat} {T : Hp} {O : Ow} {h : Heap} {b : Addr} {o : HO} (e : T b = some o) : Zt n0 T O h b = some o := by
  unfold Zt
  rw [e]
theorem Zt_frz {n0 : Nat} {T : Hp} {O : Ow} {h : Heap} {b : Addr} {o : Obj} (e : T b = none) (l : n0 ≤ b) (no : ¬ O b) (eh : h.get? b = some o) : Zt n0 T O h b = some (.frz o (.ext fun h' => h'.get? b = some o)) := by
  unfold Zt
  rw [e, eh]
  dsimp only
  rw [if_pos ⟨l, no⟩]
  rfl
theorem Zt_none {n0 : Nat} {T : Hp} {O : Ow} {h : Heap} {b : Addr} (e : T b = none) (l : b < n0 ∨ O b ∨ h.get? b = none) : Zt n0 T O h b = none := by
  unfold Zt
  rw [e]
  dsimp only
  by_cases c : n0 ≤ b ∧ ¬ O b
  · rw [if_pos c]
    rcases l with l | l | l
    · exact absurd l (Nat.not_lt_of_le c.1)
    · exact absurd l c.2
    · rw [l]; rfl
  · rw [if_neg c]
theorem Zt_some {n0 : Nat} {T : Hp} {O : Ow} {h : Heap} {b : Addr} {u : HO} (e : Zt n0 T O h b = some u) : T b = some u ∨ (T b = none ∧ n0 ≤ b ∧ ¬ O b ∧ ∃ o, h.get? b = some o ∧ u = .frz o (.ext fun h' => h'.get? b = some o)) := by
  unfold Zt at e
  cases q : T b with
  | some o => rw [q] at e; exact .inl e
  | none =>
    rw [q] at e
    dsimp only at e
    by_cases c : n0 ≤ b ∧ ¬ O b
    · rw [if_pos c] at e
      cases z : h.get? b with
      | none => rw [z] at e; cases e
      | some o => rw [z] at e; exact .inr ⟨rfl, c.1, c.2, o, rfl, (Option.some.inj e).symm⟩
    · rw [if_neg c] at e
      cases e
/-- what its description leans on is its own object alone -/
def LTo (o : HO) : Prop := (∃ xs, o = .tup xs) ∨ ∃ xs, o = .lst xs
theorem objOk_lt {P : Program} {w : World} {H H' : Hp} {h : Heap} {a : Addr} {o : HO} (l : LTo o) (x : ObjOk P w H h a o) : ObjOk P w H' h a o := by
  rcases l with ⟨xs, rfl⟩ | ⟨xs, rfl⟩ <;> exact x
theorem objOk_lt_nc {P : Program} {w : World} {H : Hp} {h : Heap} {a : Addr} {o : HO} (l : LTo o) (x : ObjOk P w H h a o) : ∃ ob, h.get? a = some ob ∧ ∀ v, ob.data ≠ .cell v := by
  rcases l with ⟨xs, rfl⟩ | ⟨xs, rfl⟩
  · obtain ⟨_, its, _, ob, e, _, n, hd⟩ := x
    exact ⟨ob, e, fun v z => by rw [hd] at z; cases z⟩
  · obtain ⟨_, its, n, _, e⟩ := x
    exact ⟨_, e, fun v z => by cases z⟩
/-- an object that is there and no cell -/
def Ob (h : Heap) (b : Addr) : Prop := ∃ o, h.get? b = some o ∧ ∀ v, o.data ≠ .cell v
theorem Ob.lt {h : Heap} {b : Addr} (x : Ob h b) : b < h.objs.size := by
  obtain ⟨o, e, _⟩ := x
  exact Heap.lt_size e
/-- the object of the generator g stands at a, and nothing sleeps over it -/
def IsGn (h : Heap) (a : Addr) (g : Nat) : Prop := ∃ o nm qn, h.get? a = some o ∧ o.cls = .type "generator" ∧ o.data = .fields #[.int g 0, nm, qn] ∧ (o.slots = #[] ∨ o.slots = #[some (.int 0 0)])
theorem IsGn.typeIs {s : Shared} {a : Addr} {g : Nat} (x : IsGn s.heap a g) : s.TypeIs (.ref a) "generator" := let ⟨o, _, _, ho, hc, _⟩ := x; ⟨o, ho, hc⟩
theorem IsGn.of {h h' : Heap} {a : Addr} {g : Nat} (x : IsGn h a g) (k : ∀ o, h.get? a = some o → h'.get? a = some o) : IsGn h' a g := let ⟨o, nm, qn, ho, r⟩ := x; ⟨o, nm, qn, k o ho, r⟩
theorem IsGn.there {h : Heap} {a : Addr} {g : Nat} (x : IsGn h a g) : Ob h a := by
  obtain ⟨o, nm, qn, ho, hc, hd, _⟩ := x
  exact ⟨o, ho, fun v z => by rw [hd] at z; cases z⟩
/-- its own objects (but the generator's object): those it had, and what is new -/
def ownB (n0 : Nat) (O : Ow) (sw s : Shared) : Ow := fun b => n0 ≤ b ∧ Ob s.heap b ∧ (O b ∨ sw.heap.objs.size ≤ b)
/-- the i-th sleeps loudly over the generator at a -/
def LdAt (s : Shared) (i : Nat) (a : Addr) : Prop := ∃ (k : Resume → Sem PySem.Fin) (l : List Value) (c : Code) (p : Pos) (fs : List Frame) (cl : Bool), s.gens[i]? = some (.suspended k (.ellipsis :: l) c p fs cl) ∧ yfOf c = some a
def LD (s : Shared) (a : Addr) : Prop := ∃ i, LdAt s i a
theorem LdAt.of {s s' : Shared} {i : Nat} {a : Addr} (h : LdAt s i a) (e : s'.gens[i]? = s.gens[i]?) : LdAt s' i a := by
  obtain ⟨k, l, c, p, fs, cl, h1, h2⟩ := h
  exact ⟨k, l, c, p, fs, cl, by rw [e]; exact h1, h2⟩
theorem LdAt.set {s : Shared} {g i : Nat} {x : GenState} {a : Addr} (hx : ∀ k l c p fs cl, x ≠ .suspended k l c p fs cl) (h : LdAt (s.setGen g x) i a) : i ≠ g ∧ LdAt s i a := by
  obtain ⟨k, l, c, p, fs, cl, h1, h2⟩ := h
  have ne : i ≠ g := fun z => by
    subst z
    have e : (s.gens.setIfInBounds i x)[i]? = _ := h1
    rw [Array.getElem?_setIfInBounds] at e
    split at e
    · split at e
      · exact hx _ _ _ _ _ _ (Option.some.inj e)
      · cases e
    · contradiction
  refine ⟨ne, k, l, c, p, fs, cl, ?_, h2⟩
  have e : (s.gens.setIfInBounds g x)[i]? = _ := h1
  rw [Array.getElem?_setIfInBounds_ne (fun z => ne z.symm)] at e
  exact e
theorem LD.set {s : Shared} {g : Nat} {x : GenState} {a : Addr} (hx : ∀ k l c p fs cl, x ≠ .suspended k l c p fs cl) (h : LD (s.setGen g x) a) : LD s a := let ⟨i, h⟩ := h; ⟨i, (h.set hx).2⟩
theorem LD.run {s : Shared} {g : Nat} {a : Addr} (h : LD (s.setGen g .running) a) : LD s a := h.set fun _ _ _ _ _ _ z => by cases z
theorem LD.fin {s : Shared} {g : Nat} {a : Addr} (h : LD (s.setGen g .finished) a) : LD s a := h.set fun _ _ _ _ _ _ z => by cases z
theorem Slq.ldat {s s0 s' : Shared} (sl : Slq s s0 s') {i : Nat} {a : Addr} (h : LdAt s' i a) : s'.gens[i]? = s.gens[i]? := by
  obtain ⟨k, l, c, p, fs, cl, h1, h2⟩ := h
  exact sl.kept i (sl.j.loud sl.b0 h1 (by rw [h2]; rfl))
theorem Slq.ld {s s0 s' : Shared} (sl : Slq s s0 s') {a : Addr} (h : LD s' a) : LD s a := let ⟨i, h⟩ := h; ⟨i, h.of (sl.ldat h).symm⟩
/-- running: woken at sw, with T known and O its own -/
structure Run (G : Gst) (O : Ow) (T : Hp) (sw : Shared) (pins : List (Addr × Obj)) (B : Hp) (en : En) (σ : L2.St) (H : Hp) (s : Shared) : Prop where
  inv : Inv (Gx G sw (Zt G.n0 T O sw.heap)) pins σ H s
  rel : Rel G.K B [] en [] σ H
  fz : Fz sw s
  bt : ∀ b o, B b = some o → LTo o
  tb : ∀ b o, T b = some o → B b = some o
  pm : ∀ p ∈ G.pn ++ pins, G.n0 ≤ p.1
  ol : O G.n0
  ob : ∀ b, O b → G.n0 ≤ b ∧ Ob sw.heap b
  nc : ∀ x, G.env.cells.lookup x = none
  gw : G.g < sw.gens.size
  ga : IsGn sw.heap G.a G.g
  an : G.n0 ≤ G.a ∧ ¬ O G.a ∧ T G.a = none
  lw : ∀ a, LD sw a → a < sw.heap.objs.size
section
variable {G : Gst} {O : Ow} {T : Hp} {sw s : Shared} {pins : List (Addr × Obj)} {B H : Hp} {en : En} {σ : L2.St}
theorem Run.le (R : Run G O T sw pins B en σ H s) : Le B H := R.rel.mem.le
theorem Run.tt (R : Run G O T sw pins B en σ H s) {b : Addr} {o : HO} (e : T b = some o) : LTo o := R.bt b o (R.tb b o e)
/-- what is there and is tracked as nothing frozen and is none of T is its own -/
theorem Run.mine (R : Run G O T sw pins B en σ H s) {b : Addr} {o : Obj} (e : s.heap.get? b = some o) (hc : ∀ v, o.data ≠ .cell v) (n : T b = none) (nf : ∀ o u, H b ≠ some (.frz o u)) (l : G.n0 ≤ b) : ownB G.n0 O sw s b := by
  refine ⟨l, ⟨o, e, hc⟩, ?_⟩
  by_cases c : sw.heap.objs.size ≤ b
  · exact .inr c
  · refine .inl (Classical.byContradiction fun no => ?_)
    have lt : b < sw.heap.objs.size := Nat.lt_of_not_le c
    cases q : sw.heap.get? b with
    | none =>
      have z := R.fz.gone b lt q
      rw [e] at z
      cases z
    | some o' => exact nf _ _ (R.inv.base.frzs b _ _ (Zt_frz n l no q))
theorem Run.low (R : Run G O T sw pins B en σ H s) {b : Addr} {o : Obj} (l : b < G.n0) (e : sw.heap.get? b = some o) (n : T b = none) : H b = none :=
  R.inv.base.free b o (trH_get.mpr ⟨l, e⟩) (Zt_none n (.inl l)) (fun z => nomatch z)
theorem Run.n0w (R : Run G O T sw pins B en σ H s) : G.n0 < sw.heap.objs.size := (R.ob _ R.ol).2.lt
theorem Run.nofz (R : Run G O T sw pins B en σ H s) {b : Addr} {u : HO} (e : B b = some u) : ∀ o v, H b ≠ some (.frz o v) := fun o v z => by
  rw [R.le b u e] at z
  rcases R.bt b u e with ⟨xs, rfl⟩ | ⟨xs, rfl⟩ <;> cases z
theorem Run.base_ (R : Run G O T sw pins B en σ H s) : G.base.objs.size ≤ G.n0 := by
  have z : G.base.objs.size ≤ (trH G.n0 sw.heap).objs.size := R.inv.ok.bsz
  rw [trH_size] at z
  omega
theorem Run.frs_ (R : Run G O T sw pins B en σ H s) {b : Addr} (h : b ∈ frs G.outer) : b < G.n0 ∧ T b = none ∧ B b = none := by
  obtain ⟨_, o, ho, _⟩ := R.inv.ok.funs.mem h
  have z := trH_get.mp ho
  have n : Zt G.n0 T O sw.heap b = none := R.inv.ok.frf b h
  have nT : T b = none := by
    cases q : T b with
    | none => rfl
    | some o => rw [Zt_T q] at n; cases n
  refine ⟨z.1, nT, ?_⟩
  have hb := R.low z.1 z.2 nT
  cases q : B b with
  | none => rfl
  | some o => rw [R.le b o q] at hb; cases hb
/-- what is tracked as nothing is none of B -/
theorem Run.nB (R : Run G O T sw pins B en σ H s) {b : Addr} (e : H b = none) : B b = none := by
  cases q : B b with
  | none => rfl
  | some o => rw [R.le b o q] at e; cases e
/-! ### what the one that wakes it keeps, and what it keeps itself -/
structure Rely (G : Gst) (O : Ow) (T : Hp) (s s' : Shared) : Prop where
  os : s'.os = s.os
  bare : AllBare s'.gens
  sz : s.heap.objs.size ≤ s'.heap.objs.size
  bs : ∀ b o, G.base.get? b = some o → s'.heap.get? b = some o
  funs : s'.heap.FunFrames G.base G.outer
  own : ∀ b o, O b → T b = none → s.heap.get? b = some o → s'.heap.get? b = some o
  hok : HOk G.P G.w T s'.heap
  gen : IsGn s'.heap G.a G.g
  slp : ∀ (i : Nat) (x : GenState), G.g ≤ i → s.gens[i]? = some x → (i = G.g ∨ isSlp x) → s'.gens[i]? = some x
  ld : ∀ i a, LdAt s' i a → O a → T a = none → s'.gens[i]? = s.gens[i]?
  lw : ∀ a, LD s' a → a < s'.heap.objs.size
theorem Rely.trans {s1 s2 s3 : Shared} (a : Rely G O T s1 s2) (b : Rely G O T s2 s3) : Rely G O T s1 s3 where
  os := b.os.trans a.os
  bare := b.bare
  sz := Nat.le_trans a.sz b.sz
  bs := b.bs
  funs := b.funs
  own := fun x o h1 h2 h3 => b.own x o h1 h2 (a.own x o h1 h2 h3)
  hok := b.hok
  gen := b.gen
  slp := fun i x l e h => b.slp i x l (a.slp i x l e h) h
  ld := fun i x e h t => (b.ld i x e h t).trans (a.ld i x (e.of (b.ld i x e h t).symm) h t)
  lw := b.lw
/-- sleepers are kept, none sleeps loudly anew -/
structure Kp (s s' : Shared) : Prop where
  slp : ∀ (i : Nat) (x : GenState), s.gens[i]? = some x → isSlp x → s'.gens[i]? = some x
  ld : ∀ i a, LdAt s' i a → s'.gens[i]? = s.gens[i]?
theorem Kp.refl (s : Shared) : Kp s s := ⟨fun _ _ e _ => e, fun _ _ _ => rfl⟩
theorem Kp.trans {a b c : Shared} (h : Kp a b) (k : Kp b c) : Kp a c := ⟨fun i x e z => k.slp i x (h.slp i x e z) z, fun i x e => (k.ld i x e).trans (h.ld i x (e.of (k.ld i x e).symm))⟩
theorem Kp.LD {s s' : Shared} (k : Kp s s') {a : Addr} (h : LD s' a) : LD s a := let ⟨i, h⟩ := h; ⟨i, h.of (k.ld i a h).symm⟩
theorem Slq.ldat2 {s s0 s1 s2 s' : Shared} (sl : Slq s s0 s') (k : Slq s s1 s2) {i : Nat} {a : Addr} (h : LdAt s2 i a) : s2.gens[i]? = s'.gens[i]? := by
  have j := k.ldat h
  have j2 : slpOf s i := by
    obtain ⟨k', l, c, p, fs, cl, h1, h2⟩ := h
    exact ⟨_, j.symm.trans h1, trivial⟩
  rw [k.kept i j2, sl.kept i j2]
theorem Slq.ld2 {s s0 s1 s2 s' : Shared} (sl : Slq s s0 s') (k : Slq s s1 s2) {a : Addr} (h : LD s2 a) : LD s' a := let ⟨i, h⟩ := h; ⟨i, h.of (sl.ldat2 k h).symm⟩
theorem Slq.kp {s s0 s' : Shared} (sl : Slq s s0 s') : Kp s s' := ⟨fun _ _ e h => sl.slp e h, fun _ _ h => sl.ldat h⟩
theorem Kp.push {s s' : Shared} {c : Code} (e : s'.gens = s.gens.push (.fresh c)) : Kp s s' := by
  refine ⟨fun i x q _ => ?_, fun i a q => ?_⟩
  · rw [e, Array.getElem?_push_lt (Array.getElem?_eq_some_iff.mp q).1, ← Array.getElem?_eq_getElem (Array.getElem?_eq_some_iff.mp q).1]
    exact q
  · obtain ⟨k, l, c', p, fs, cl, h1, h2⟩ := q
    rw [e, Array.getElem?_push] at h1 ⊢
    split at h1
    · cases h1
    · rename_i ne
      rw [if_neg ne]
/-- what sleeps loudly did so at its waking, over a generator that is not its own -/
def Rl (O : Ow) (T : Hp) (sw s : Shared) : Prop := ∀ a, LD s a → LD sw a ∧ ¬ (O a ∧ T a = none)
structure Gu (G : Gst) (O : Ow) (T : Hp) (O' : Ow) (T' : Hp) (s s' : Shared) : Prop where
  os : s'.os = s.os
  bare : AllBare s'.gens
  keep : ∀ b o, s.heap.get? b = some o → ¬ O b → b ∉ frs G.outer → T b = none → s'.heap.get? b = some o
  slot : ∀ b o, s.heap.get? b = some o → b ∈ frs G.outer → ∃ sl, s'.heap.get? b = some { o with slots := sl }
  tup : ∀ b o, T b = some o → T' b = some o
  new : ∀ b o, s.heap.get? b = some o → ¬ O b → T b = none → T' b = none
  hok : HOk G.P G.w T' s'.heap
  ton : ∀ b o, T' b = some o → LTo o
  fresh : ∀ b, O' b → O b ∨ s.heap.objs.size ≤ b
  fz : Fz s s'
theorem Run.gu (R : Run G O T sw pins B en σ H s) : Gu G O T (ownB G.n0 O sw s) B sw s where
  os := R.inv.os
  bare := R.inv.bare
  keep := fun b o e no nf n => by
    by_cases l : b < G.n0
    · exact R.inv.base.keep b o (trH_get.mpr ⟨l, e⟩) (Zt_none n (.inl l)) nf (fun z => nomatch z)
    · exact (R.inv.hok b _ (R.inv.base.frzs b _ _ (Zt_frz n (Nat.le_of_not_lt l) no e))).1
  slot := fun b o e h => R.inv.base.slot b o (trH_get.mpr ⟨(R.frs_ h).1, e⟩) (R.inv.ok.frf b h) h (fun z => nomatch z)
  tup := R.tb
  new := fun b o e no n => by
    cases q : B b with
    | none => rfl
    | some u =>
      by_cases l : b < G.n0
      · have z := R.low l e n
        rw [R.le b u q] at z
        cases z
      · exact absurd (R.inv.base.frzs b _ _ (Zt_frz n (Nat.le_of_not_lt l) no e)) (R.nofz q _ _)
  hok := fun b o e => objOk_lt (R.bt b o e) (R.inv.hok b _ (R.le b _ e))
  ton := R.bt
  fresh := fun b h => h.2.2
  fz := R.fz
theorem Run.gH (R : Run G O T sw pins B en σ H s) : B G.a = none ∧ ∀ o, sw.heap.get? G.a = some o → s.heap.get? G.a = some o := by
  obtain ⟨o, nm, qn, ho, _⟩ := R.ga
  have z := R.inv.base.frzs G.a _ _ (Zt_frz R.an.2.2 R.an.1 R.an.2.1 ho)
  refine ⟨?_, fun o' e => ?_⟩
  · cases q : B G.a with
    | none => rfl
    | some u => exact absurd z (R.nofz q _ _)
  · rw [ho] at e
    cases e
    exact (R.inv.hok G.a _ z).1
theorem Run.gen (R : Run G O T sw pins B en σ H s) : IsGn s.heap G.a G.g := R.ga.of R.gH.2
/-- woken again -/
theorem Run.woken (R : Run G O T sw pins B en σ H s) {sY s1 s2 : Shared} (hY : sY.heap = s.heap) (h2 : s2.heap = s1.heap) (hlw : ∀ a, LD s2 a → a < s2.heap.objs.size) (hg : AllBare s2.gens) (gw : G.g < s2.gens.size) (r : Rely G (ownB G.n0 O sw s) B sY s1) :
    Run G (ownB G.n0 O sw s) B s2 pins B en σ (Zt G.n0 B (ownB G.n0 O sw s) s2.heap) s2 := by
  have n0s : G.n0 < s.heap.objs.size := Nat.lt_of_lt_of_le R.n0w R.fz.hp
  have sz : s.heap.objs.size ≤ s2.heap.objs.size := by
    have z := r.sz
    rw [hY] at z
    rw [h2]
    exact z
  have own : ∀ b o, ownB G.n0 O sw s b → B b = none → s.heap.get? b = some o → s2.heap.get? b = some o := fun b o h1 h3 h4 => by
    rw [h2]
    exact r.own b o h1 h3 (by rw [hY]; exact h4)
  have hok' : HOk G.P G.w B s2.heap := by rw [h2]; exact r.hok
  have I := R.inv
  have nl : H G.n0 = none := I.free
  obtain ⟨m, ⟨ol, es, ep, hol, hdl, hrl⟩, hl⟩ := I.loc
  have hol : s.heap.get? G.n0 = some ol := hol
  have hlc : ∀ v, ol.data ≠ .cell v := fun v z => by rw [hdl] at z; cases z
  have ol' : ownB G.n0 O sw s G.n0 := ⟨Nat.le_refl _, ⟨ol, hol, hlc⟩, .inl R.ol⟩
  have ob' : ∀ b, ownB G.n0 O sw s b → G.n0 ≤ b ∧ Ob s2.heap b := fun b h => by
    refine ⟨h.1, ?_⟩
    obtain ⟨o, e, hc⟩ := h.2.1
    cases q : B b with
    | none => exact ⟨o, own b o h q e, hc⟩
    | some u => exact objOk_lt_nc (R.bt b u q) (hok' b u q)
  have pin' : ∀ p ∈ G.pn ++ pins, ownB G.n0 O sw s p.1 ∧ B p.1 = none := fun p hp => by
    obtain ⟨h1, h3, h4, h5, h6⟩ := I.pin p hp
    have nb := R.nB h3
    refine ⟨R.mine h1 h6 ?_ (fun o u z => by rw [h3] at z; cases z) (R.pm p hp), nb⟩
    cases q : T p.1 with
    | none => rfl
    | some v => rw [R.tb _ _ q] at nb; cases nb
  have frs' : ∀ b ∈ frs G.outer, b < G.n0 ∧ B b = none := fun b h => ⟨(R.frs_ h).1, (R.frs_ h).2.2⟩
  have an' : ¬ ownB G.n0 O sw s G.a := fun h => by
    rcases h.2.2 with z | z
    · exact R.an.2.1 z
    · exact absurd (Nat.lt_of_lt_of_le R.ga.there.lt z) (Nat.lt_irrefl _)
  generalize hO' : ownB G.n0 O sw s = O' at r own ol' ob' pin' an'
  have ok : (Gx G s2 (Zt G.n0 B O' s2.heap)).Ok := {
    mod := I.ok.mod
    kind := I.ok.kind
    glob := rfl
    blt := rfl
    above := by show (trH G.n0 s2.heap).objs.size ≤ G.n0; rw [trH_size]; exact Nat.min_le_left _ _
    inj := I.ok.inj
    has := I.ok.has
    cab := fun x c _ e => by
      have z := R.nc x
      rw [show G.env.cells.lookup x = some c from e] at z
      cases z
    hd := I.ok.hd
    frames := I.ok.frames
    stk := I.ok.stk
    exf := fun b z => nomatch z
    bs := fun b o e => by
      have l : b < G.n0 := Nat.lt_of_lt_of_le (Heap.lt_size e) R.base_
      exact ⟨trH_get.mpr ⟨l, by rw [h2]; exact r.bs b o e⟩, Zt_none (R.nB (I.bs b o e).2) (.inl l)⟩
    bsz := by
      have z : G.base.objs.size ≤ (trH G.n0 sw.heap).objs.size := I.ok.bsz
      show G.base.objs.size ≤ (trH G.n0 s2.heap).objs.size
      rw [trH_size] at z ⊢
      have := R.fz.hp
      omega
    noex := fun b o _ z => nomatch z
    exfs := fun b z => nomatch z
    funs := trH_funs I.ok.funs (by rw [h2]; exact r.funs)
    frf := fun b h => Zt_none (frs' b h).2 (.inl (frs' b h).1) }
  have hB : ∀ b o, B b = some o → Zt G.n0 B O' s2.heap b = some o := fun b o e => Zt_T e
  refine ⟨⟨ok, rfl, hg, ?_, ?_, fun x c e => ?_, ?_, fun x c e => ?_, fun p hp => ?_, fun a o e => ?_, I.len⟩, ⟨⟨hB, rfl, fun a ⟨n, m, e, _⟩ => by simp at e, fun n a m e => by simp at e, fun n k a m m' e => by simp at e, R.rel.mem.ntb⟩, R.rel.len, R.rel.env⟩, .refl _, R.bt, fun _ _ e => e, R.pm, ol', ob', R.nc, gw, by rw [h2]; exact r.gen, ⟨R.an.1, an', R.gH.1⟩, hlw⟩
  · refine ⟨fun b o e _ _ _ => (trH_get.mp e).2, fun b o e _ _ _ => ⟨o.slots, (trH_get.mp e).2⟩, fun b o e n _ => n, fun b o e _ => ⟨o, (trH_get.mp e).2⟩, fun b xs e => e, fun b o u e => e, fun b ps e => ⟨#[], (show Zt G.n0 B O' s2.heap b = some (.tbl (ps ++ #[])) by rw [show Zt G.n0 B O' s2.heap b = some (.tbl ps) from e]; simp)⟩⟩
  · refine ⟨m, ⟨ol, es, ep, own _ ol ol' (R.nB nl) hol, hdl, hrl⟩, fun i x v e1 e2 e3 => ?_⟩
    obtain ⟨u, ru, lk⟩ := hl i x v e1 e2 e3
    refine ⟨u, ru, ?_⟩
    rcases lk with lk | ⟨_, c, e, _⟩
    · exact .inl lk
    · have z := R.nc x
      rw [show G.env.cells.lookup x = some c from e] at z
      cases z
  · have z := R.nc x
    rw [show G.env.cells.lookup x = some c from e] at z
    cases z
  · exact Zt_none (R.nB nl) (.inr (.inl ol'))
  · have z := R.nc x
    rw [show G.env.cells.lookup x = some c from e] at z
    cases z
  · obtain ⟨h1, h3, h4, h5, h6⟩ := I.pin p hp
    obtain ⟨mi, nb⟩ := pin' p hp
    exact ⟨own p.1 p.2 mi nb h1, Zt_none nb (.inr (.inl mi)), h4, h5, h6⟩
  · rcases Zt_some e with z | ⟨_, _, _, o', e', z⟩
    · exact objOk_lt (R.bt a o z) (hok' a o z)
    · subst z
      exact ⟨e', e', ⟨o', e'⟩, fun h1 h2 z k => k _ z⟩
end
end Fs
set_option Elab.async false
set_option linter.all false
set_option maxRecDepth 100000
set_option maxHeartbeats 8000000
namespace Fs
open PySem PySem.Spec PyProof.Rows L2
theorem objOk_get {P : Program} {w : World} {H : Hp} {h : Heap} {a : Addr} {o : HO} (x : ObjOk P w H h a o) : ∃ ob, h.get? a = some ob := by
  cases o with
  | lst xs => obtain ⟨_, _, _, _, e⟩ := x; exact ⟨_, e⟩
  | tup xs => obtain ⟨_, _, _, o, e, _⟩ := x; exact ⟨_, e⟩
  | dK kvs => obtain ⟨_, _, _, _, o, _, _, e, _⟩ := x; exact ⟨_, e⟩
  | dT kvs => obtain ⟨_, _, _, _, o, _, _, e, _⟩ := x; exact ⟨_, e⟩
  | set S n => obtain ⟨o, _, _, _, e, _⟩ := x; exact ⟨_, e⟩
  | ins C dx fs => obtain ⟨_, _, _, e, _⟩ := x; exact ⟨_, e⟩
  | own y => exact x
  | xd fs => obtain ⟨_, ⟨_, _, _, e, _⟩, _⟩ := x; exact ⟨_, e⟩
  | rng lo hi => obtain ⟨_, _, _, e⟩ := x; exact ⟨_, e⟩
  | frz ob u => obtain ⟨e, _⟩ := x; exact ⟨_, e⟩
  | tbl ps => exact ⟨_, (show h.get? a = some _ from x)⟩
  | met f y => exact ⟨_, (show h.get? a = some _ from x)⟩
  | ext φ => obtain ⟨_, e, _⟩ := x; exact e
theorem _root_.L2.Inv.grown {X : Cx} {pins : List (Addr × Obj)} {σ : L2.St} {H : Hp} {s s' : Shared} (I : Inv X pins σ H s) (ho : s'.os = s.os) (hk : ∀ b o, s.heap.get? b = some o → s'.heap.get? b = some o) (hg : AllBare s'.gens) : Inv X pins σ H s' :=
  I.call' (ch := []) ho (Un.kept hk) (I.hok.kept hk) hg fun b z => nomatch z
theorem _root_.L2.Inv.nofrS {X : Cx} {pins : List (Addr × Obj)} {σ : L2.St} {H : Hp} {s : Shared} (I : Inv X pins σ H s) {b : Addr} (h : b ∈ frs X.stack) : H b = none := by
  rcases List.mem_cons.mp (I.stkSub b h) with z | z
  · rw [z]; exact I.free
  · obtain ⟨_, o, ho, _⟩ := I.ok.funs.mem z
    exact I.base.free b o ho (I.ok.frf b z) (fun q => I.ok.exfs b q z)
theorem _root_.L2.Inv.asl {X : Cx} {pins : List (Addr × Obj)} {σ : L2.St} {H : Hp} {s : Shared} (I : Inv X pins σ H s) : Inv X pins σ H (asleep s) :=
  I.grown rfl (fun _ _ z => z) (asleep_bare I.bare)
theorem Slq.inv {X : Cx} {pins : List (Addr × Obj)} {σ : L2.St} {H : Hp} {s s0 s' : Shared} (sl : Slq s s0 s') (I : Inv X pins σ H s0) : Inv X pins σ H s' := by
  have e := sl.eq
  exact I.grown (by rw [e]) (fun b o z => by rw [e]; exact z) (sl.bare I.bare)
/-! ### data of tuples and lists -/
mutual
def LTD : D → Prop
  | .tup xs => LTDs xs
  | .lst xs => LTDs xs
  | .dic _ => False
  | .obj _ _ => False
  | .exc _ _ => False
  | _ => True
def LTDs : List D → Prop
  | [] => True
  | d :: ds => LTD d ∧ LTDs ds
end
def ltB (B : Hp) : Hp := fun b => match B b with
  | some (.tup xs) => some (.tup xs)
  | some (.lst xs) => some (.lst xs)
  | _ => none
theorem ltB_tup {B : Hp} {b : Addr} {xs : List V} (e : B b = some (.tup xs)) : ltB B b = some (.tup xs) := by
  unfold ltB
  rw [e]
theorem ltB_lst {B : Hp} {b : Addr} {xs : List V} (e : B b = some (.lst xs)) : ltB B b = some (.lst xs) := by
  unfold ltB
  rw [e]
theorem ltB_some {B : Hp} {b : Addr} {u : HO} (e : ltB B b = some u) : B b = some u ∧ LTo u := by
  unfold ltB at e
  split at e
  · rename_i xs q
    cases e
    exact ⟨q, .inl ⟨xs, rfl⟩⟩
  · rename_i xs q
    cases e
    exact ⟨q, .inr ⟨xs, rfl⟩⟩
  · cases e
mutual
theorem Rv.lt {K : Frag} {B : Hp} : ∀ {v : V} {d : D}, Rv K B v d → LTD d → Rv K (ltB B) v d
  | _, _, .non, _ => .non
  | _, _, .bl b, _ => .bl b
  | _, _, .int i, _ => .int i
  | _, _, .str h, _ => .str h
  | _, _, .ty n, _ => .ty n
  | _, _, .fn a, _ => .fn a
  | _, _, .tup h a, l => .tup (h.elim (fun z => .inl (ltB_tup z)) .inr) (RvL.lt a l)
  | _, _, .lst h a, l => .lst (ltB_lst h) (RvL.lt a l)
  | _, _, .dic _ _, l => l.elim
  | _, _, .obj _ _, l => l.elim
  | _, _, .exc _ _ _, l => l.elim
theorem RvL.lt {K : Frag} {B : Hp} : ∀ {v : List V} {d : List D}, RvL K B v d → LTDs d → RvL K (ltB B) v d
  | _, _, .nil, _ => .nil
  | _, _, .cons h t, l => .cons (Rv.lt h l.1) (RvL.lt t l.2)
end
/-- a def's names hold data of tuples and lists -/
def EnLT (en : En) : Prop := ∀ (i : Nat) (x : W), en[i]? = some (some x) → ∃ d, x = .v d ∧ LTD d
theorem Slq.rl {O : Ow} {T : Hp} {sw s s0 s' : Shared} (sl : Slq s s0 s') (r : Rl O T sw s) : Rl O T sw s' := fun a h => r a (sl.ld h)
/-! ### by what it hands out -/
structure GnAt (G : Gst) (gs : GenState) (O : Ow) (T : Hp) (s : Shared) : Prop where
  gen : IsGn s.heap G.a G.g
  at_ : s.gens[G.g]? = some gs
  na : ¬ O G.a
  nT : T G.a = none
  n0 : G.n0 ≤ G.a
  ob : ∀ b, O b → G.n0 ≤ b ∧ Ob s.heap b
  ton : ∀ b o, T b = some o → LTo o
def GoX (M : Model) (A : Around) (gs : GenState) (Φ : End → Shared → Prop) (s : Shared) : Prop := match gs with
  | .fresh c => SegX M A Φ c (M.den c) [] s
  | .suspended k _ c _ fs _ => SegX M A Φ c (k (.send .none)) fs s
  | _ => False
/-- its end: it is through, or it lets an exception out -/
def EndP (G : Gst) (O : Ow) (T : Hp) (sw : Shared) (e : End) (s' : Shared) : Prop :=
  (e = .ret (.ok (.ret .none)) ∧ G.oe = none ∧ ∃ O' T', Gu G O T O' T' sw s') ∨
  ∃ x, e = .ret (.error x) ∧ L2.CX G.P G.w G.outer (Zt G.n0 T O sw.heap) { sw with heap := trH G.n0 sw.heap } (fun c d H => Le T H ∧ G.E c d H) x s' ∧ IsGn s'.heap G.a G.g
/-- at a yield: what sleeps loudly -/
def Yl (G : Gst) (O : Ow) (T : Hp) (sw : Shared) (O' : Ow) (T' : Hp) (s'' : Shared) (e : End) : Prop := ∀ a, LD (s''.setGen G.g e.genState) a → (LD sw a ∧ ¬ (O a ∧ T a = none)) ∨ (O' a ∧ T' a = none ∧ isGenO (s''.heap.get? a) = true)
/-- a generator that has its still to hand out -/
def Gn (G : Gst) : List D → Ow → Hp → Shared → Prop
  | [], O, T, s => ∃ gs, GnAt G gs O T s ∧ ∀ s', Rely G O T s s' → GoX (M0 G.P G.w) G.A gs (fun e s'' => EndP G O T (s'.setGen G.g .running) e s'' ∧ Rl O T (s'.setGen G.g .running) s'') (s'.setGen G.g .running)
  | d :: ds, O, T, s => ∃ gs, GnAt G gs O T s ∧ ∀ s', Rely G O T s s' → GoX (M0 G.P G.w) G.A gs (fun e s'' => ∃ v x O' T', e.result = .yielded v ∧ e.quiet = true ∧ RelV x v ∧ Rv G.K T' x d ∧ Gu G O T O' T' (s'.setGen G.g .running) s'' ∧ Yl G O T (s'.setGen G.g .running) O' T' s'' e ∧
      Gn G ds O' T' (s''.setGen G.g e.genState)) (s'.setGen G.g .running)
def Phi (G : Gst) : List D → Ow → Hp → Shared → End → Shared → Prop
  | [], O, T, sw, e, s'' => EndP G O T sw e s'' ∧ Rl O T sw s''
  | d :: ds, O, T, sw, e, s'' => ∃ v x O' T', e.result = .yielded v ∧ e.quiet = true ∧ RelV x v ∧ Rv G.K T' x d ∧ Gu G O T O' T' sw s'' ∧ Yl G O T sw O' T' s'' e ∧ Gn G ds O' T' (s''.setGen G.g e.genState)
theorem Gn_iff {G : Gst} {its : List D} {O : Ow} {T : Hp} {s : Shared} : Gn G its O T s ↔ ∃ gs, GnAt G gs O T s ∧ ∀ s', Rely G O T s s' → GoX (M0 G.P G.w) G.A gs (Phi G its O T (s'.setGen G.g .running)) (s'.setGen G.g .running) := by
  cases its <;> exact Iff.rfl
/-- later, if what it needs was kept -/
theorem Gn.later {G : Gst} {its : List D} {O : Ow} {T : Hp} {s s' : Shared} (h : Gn G its O T s) (r : Rely G O T s s') : Gn G its O T s' := by
  obtain ⟨gs, k, n⟩ := Gn_iff.mp h
  refine Gn_iff.mpr ⟨gs, ⟨r.gen, r.slp G.g gs (Nat.le_refl _) k.at_ (.inl rfl), k.na, k.nT, k.n0, fun b z => ⟨(k.ob b z).1, ?_⟩, k.ton⟩, fun s2 r2 => n s2 (r.trans r2)⟩
  · obtain ⟨o, e, hc⟩ := (k.ob b z).2
    cases q : T b with
    | none => exact ⟨o, r.own b o z q e, hc⟩
    | some u => exact objOk_lt_nc (k.ton b u q) (r.hok b u q)
/-! ### the body's statements -/
structure NG where
  nx : En → List D → Prop
  rt : List D → Prop
  bk : En → List D → Prop
  ct : En → List D → Prop
  xc : Er → Prop
abbrev DGT := En → List D → NG → Prop
abbrev Gst.se (G : Gst) (E : XK) : Gst := { G with E := E }
/-- nothing may be raised while something is still to be handed out -/
abbrev Gst.wE (G : Gst) (its : List D) (T : Hp) : Gst := G.se fun c d H => its = [] ∧ Le T H ∧ G.E c d H
theorem Inv.se {G : Gst} {E E' : XK} {s s' : Shared} {Z H : Hp} {pins : List (Addr × Obj)} {σ : L2.St} (I : Inv (Gx (G.se E) s Z) pins σ H s') : Inv (Gx (G.se E') s Z) pins σ H s' :=
  ⟨⟨I.ok.mod, I.ok.kind, I.ok.glob, I.ok.blt, I.ok.above, I.ok.inj, I.ok.has, I.ok.cab, I.ok.hd, I.ok.frames, I.ok.stk, I.ok.exf, I.ok.bs, I.ok.bsz, I.ok.noex, I.ok.exfs, I.ok.funs, I.ok.frf⟩, I.os, I.bare, I.base, I.loc, I.cell, I.free, I.freeC, I.pin, I.hok, I.len⟩
structure GCx (G : Gst) (c : Code) (fs : List Frame) (gd : Bool → Bool) : Prop where
  over : G.A.over c fs = G.A.deeper G.env
  split : splitAtGen fs = none
  guard : fs.any Frame.guarded = false
  gd : gd false = false
  yf : yfOf c = none
/-- an exception that may be raised is one that E lets out -/
def ExG (G : Gst) (xc : Er → Prop) : Prop := ∀ (er : Er), xc er → ∀ (B' H' : Hp) (dd : Addr) fvs, Le B' H' → H' dd = some (.xd fvs) → RvF G.K B' fvs er.fs → G.E (.ref er.C) (some dd) H'
theorem ExG.of {G : Gst} {its : List D} {T : Hp} {xc : Er → Prop} (h : ExG G xc) {B : Hp} {μ : List Addr} {m : Me} {H : Hp} (tb : ∀ b o, T b = some o → B b = some o) : ExOf G.K (G.wE its T).E B μ m H (fun er _ => its = [] ∧ xc er) :=
  fun B' μ' m' H' er dd fvs st M hd r q => ⟨q.1, fun b o e => M.le b o (st.same b o (tb b o e)), h er q.2 B' H' dd fvs M.le hd r⟩
structure GKont (G : Gst) (pins : List (Addr × Obj)) (Bk : Hp) (c : Code) (fs : List Frame) (K : Flow → Sem PySem.Fin) (J : Value → Sem PySem.Fin) (N : NG) : Prop where
  nx : ∀ O T sw B en σ H s its, Run G O T sw pins B en σ H s → Rl O T sw s → Same Bk B → EnLT en → N.nx en its → SegX (M0 G.P G.w) G.A (Phi G its O T sw) c (K .next) fs s
  bk : ∀ O T sw B en σ H s its, Run G O T sw pins B en σ H s → Rl O T sw s → Same Bk B → EnLT en → N.bk en its → SegX (M0 G.P G.w) G.A (Phi G its O T sw) c (K .brk) fs s
  ct : ∀ O T sw B en σ H s its, Run G O T sw pins B en σ H s → Rl O T sw s → Same Bk B → EnLT en → N.ct en its → SegX (M0 G.P G.w) G.A (Phi G its O T sw) c (K .cont) fs s
  rt : ∀ O T sw B en σ H s its, Run G O T sw pins B en σ H s → Rl O T sw s → Same Bk B → N.rt its → SegX (M0 G.P G.w) G.A (Phi G its O T sw) c (K (.ret .none)) fs s
  xc : ∀ (O : Ow) (T : Hp) (sw : Shared) its e sx s0 s', IsGn sw.heap G.a G.g → (G.n0 ≤ G.a ∧ ¬ O G.a ∧ T G.a = none) → (Gx (G.wE its T) sw (Zt G.n0 T O sw.heap)).xe e s0 → Slq sx s0 s' → Rl O T sw s' → SegX (M0 G.P G.w) G.A (Phi G its O T sw) c (J e) fs s'
structure GS (G : Gst) (st : Stmt) (t : DGT) : Prop where
  run : ∀ (O : Ow) (T : Hp) (sw : Shared) (pins : List (Addr × Obj)) (Bk B : Hp) (en : En) (σ : L2.St) (H : Hp) (s : Shared) (its : List D) (c : Code) (fs : List Frame) (K : Flow → Sem PySem.Fin) (J : Value → Sem PySem.Fin) (gd : Bool → Bool) (lv : List Value → List Value) (N : NG),
    GCx G c fs gd → GKont G pins Bk c fs K J N → ExG G N.xc → Run G O T sw pins B en σ H s → Rl O T sw s → Same Bk B → EnLT en → t en its N → SegX (M0 G.P G.w) G.A (Phi G its O T sw) c ((exec st G.env).wrap K J gd lv) fs s
structure GSs (G : Gst) (st : List Stmt) (t : DGT) : Prop where
  run : ∀ (O : Ow) (T : Hp) (sw : Shared) (pins : List (Addr × Obj)) (Bk B : Hp) (en : En) (σ : L2.St) (H : Hp) (s : Shared) (its : List D) (c : Code) (fs : List Frame) (K : Flow → Sem PySem.Fin) (J : Value → Sem PySem.Fin) (gd : Bool → Bool) (lv : List Value → List Value) (N : NG),
    GCx G c fs gd → GKont G pins Bk c fs K J N → ExG G N.xc → Run G O T sw pins B en σ H s → Rl O T sw s → Same Bk B → EnLT en → t en its N → SegX (M0 G.P G.w) G.A (Phi G its O T sw) c ((execs st G.env).wrap K J gd lv) fs s
/-- behind a piece of plain code -/
theorem Run.step {G : Gst} {O : Ow} {T : Hp} {sw s s' : Shared} {pins : List (Addr × Obj)} {B B' H H' : Hp} {en en' : En} {σ σ' : L2.St} {μ' : List Addr} {E : XK} (R : Run G O T sw pins B en σ H s) (I : Inv (Gx (G.se E) sw (Zt G.n0 T O sw.heap)) pins σ' H' s') (fz : Fz sw s')
    (sm : Same B B') (r : Rel G.K B' μ' en' [] σ' H') (el : EnLT en') : Run G O T sw pins (ltB B') en' σ' H' s' := by
  have e : μ' = [] := List.eq_nil_of_length_eq_zero r.mem.len
  subst e
  refine ⟨Inv.se (G := G) (E := E) (E' := G.E) I, ⟨⟨fun b o q => r.mem.le b o (ltB_some q).1, rfl, fun a ⟨n, m, q, _⟩ => by simp at q, fun n a m q => by simp at q, fun n k a m m' q => by simp at q, fun b ps q => ?_⟩, r.len, fun i x q => ?_⟩, fz, fun b o q => (ltB_some q).2, fun b o q => ?_, R.pm, R.ol, R.ob, R.nc, R.gw, R.ga, R.an, R.lw⟩
  · rcases (ltB_some q).2 with ⟨xs, z⟩ | ⟨xs, z⟩ <;> cases z
  · obtain ⟨v, h1, h2⟩ := r.env i x q
    obtain ⟨d, rfl, l⟩ := el i x q
    exact ⟨v, h1, Rv.lt h2 l⟩
  · have z := sm b _ (R.tb b _ q)
    rcases R.tt q with ⟨xs, rfl⟩ | ⟨xs, rfl⟩
    · exact ltB_tup z
    · exact ltB_lst z
theorem Run.lt {G : Gst} {O : Ow} {T : Hp} {sw s : Shared} {pins : List (Addr × Obj)} {B B' Bk H : Hp} {en : En} {σ : L2.St} (R : Run G O T sw pins B en σ H s) (hB : Same Bk B) (sm : Same B B') : Same Bk (ltB B') := fun b o q => by
  have z := hB b o q
  have z2 := sm b o z
  rcases R.bt b o z with ⟨xs, rfl⟩ | ⟨xs, rfl⟩
  · exact ltB_tup z2
  · exact ltB_lst z2
section
variable {G : Gst}
/-- a statement that hands out nothing -/
def gDn (N : NG) (its : List D) : Dn := ⟨fun en' m => m = [] ∧ EnLT en' ∧ N.nx en' its, fun x m => m = [] ∧ x = .v .non ∧ N.rt its, fun en' m => m = [] ∧ EnLT en' ∧ N.bk en' its, fun en' m => m = [] ∧ EnLT en' ∧ N.ct en' its, fun er _ => its = [] ∧ N.xc er⟩
def tGP (T : DTS) : DGT := fun en its N => T en [] (gDn N its)
theorem gs_ds {st : Stmt} {T : DTS} (h : ∀ E s Z, DS (Gx (G.se E) s Z) E st T) : GS G st (tGP T) := by
  refine ⟨fun O Tt sw pins Bk B en σ H s its c fs K J gd lv N gc k hx R rl hB el ht => ?_⟩
  obtain ⟨t, p, q⟩ := (h (G.wE its Tt).E sw (Zt G.n0 Tt O sw.heap)).ex
  have I := Inv.se (G := G) (E := G.E) (E' := (G.wE its Tt).E) R.inv
  have nxof : ∀ (Q : En → List D → Prop), NxOf G.K B [] [] H (fun en' m => m = [] ∧ EnLT en' ∧ Q en' its) (fun σ' H' => ∃ B' μ' en', Same B B' ∧ Rel G.K B' μ' en' [] σ' H' ∧ EnLT en' ∧ Q en' its) :=
    fun Q B' μ' en' m' σ' H' s' r' ⟨z1, z2, z3⟩ => by subst z1; exact ⟨B', μ', en', s'.same, r', z2, z3⟩
  have w := q B [] en [] σ H (gDn N its) (⟨fun σ' H' => ∃ B' μ' en', Same B B' ∧ Rel G.K B' μ' en' [] σ' H' ∧ EnLT en' ∧ N.nx en' its, fun v H' => ∃ B' μ', Same B B' ∧ MemOk G.K B' μ' [] H' ∧ v = .non ∧ N.rt its, fun σ' H' => ∃ B' μ' en', Same B B' ∧ Rel G.K B' μ' en' [] σ' H' ∧ EnLT en' ∧ N.bk en' its, fun σ' H' => ∃ B' μ' en', Same B B' ∧ Rel G.K B' μ' en' [] σ' H' ∧ EnLT en' ∧ N.ct en' its⟩ : Ends) R.rel (hx.of R.tb) ht
    ⟨nxof N.nx, fun B' μ' m' H' x v s' mo rw ⟨z1, z2, z3⟩ => by subst z1; subst z2; cases rw; exact ⟨B', μ', s'.same, mo, rfl, z3⟩, nxof N.bk, nxof N.ct⟩
  refine segx_wrap ?_
  rw [gc.over]
  refine wpAny_fz R.fz (wpAny_mono (lift_slp R.inv.bare (p.run pins (asleep s) σ H _ I.asl w)) (fun f s' ⟨s0, hs, sl⟩ fz => ?_) fun x s' ⟨s0, hx', sl⟩ _ => k.xc O Tt sw its x s s0 s' R.ga R.an hx' sl (sl.rl rl))
  cases f with
  | next => obtain ⟨σ', H', I', B', μ', en', s1, r', el', n⟩ := hs; exact k.nx O Tt sw _ en' σ' H' s' its (R.step (sl.inv I') fz s1 r' el') (sl.rl rl) (R.lt hB s1) el' n
  | brk => obtain ⟨σ', H', I', B', μ', en', s1, r', el', n⟩ := hs; exact k.bk O Tt sw _ en' σ' H' s' its (R.step (sl.inv I') fz s1 r' el') (sl.rl rl) (R.lt hB s1) el' n
  | cont => obtain ⟨σ', H', I', B', μ', en', s1, r', el', n⟩ := hs; exact k.ct O Tt sw _ en' σ' H' s' its (R.step (sl.inv I') fz s1 r' el') (sl.rl rl) (R.lt hB s1) el' n
  | ret u =>
    obtain ⟨v, σ', H', I', ru, B', μ', s1, mo, rfl, n⟩ := hs
    have eu : u = Value.none := ru
    subst eu
    refine k.rt O Tt sw _ (List.replicate G.N.length none) σ' H' s' its (R.step (sl.inv I') fz s1 ⟨mo, ?_, fun i x e => ?_⟩ fun i x e => ?_) (sl.rl rl) (R.lt hB s1) n
    · rw [List.length_replicate]; exact I'.len
    · rw [List.getElem?_replicate] at e
      split at e <;> cases e
    · rw [List.getElem?_replicate] at e
      split at e <;> cases e
def tG0 : DGT := fun en its N => N.nx en its
theorem gss_nil : GSs G [] tG0 := ⟨fun O T sw pins Bk B en σ H s its c fs K J gd lv N gc k hx R rl hB el ht => segx_execs_nil (k.nx O T sw B en σ H s its R rl hB el ht)⟩
def tGThen (t u : DGT) : DGT := fun en its N => t en its { N with nx := fun en' its' => u en' its' N }
theorem gss_cons {st : Stmt} {rest : List Stmt} {t u : DGT} (h1 : GS G st t) (h2 : GSs G rest u) : GSs G (st :: rest) (tGThen t u) := by
  refine ⟨fun O T sw pins Bk B en σ H s its c fs K J gd lv N gc k hx R rl hB el ht => ?_⟩
  refine segx_execs_cons (h1.run O T sw pins Bk B en σ H s its c fs _ J gd lv { N with nx := fun en' its' => u en' its' N } gc ⟨fun O' T' sw' B' en' σ' H' s' its' R' rl' hB' el' n => ?_, k.bk, k.ct, k.rt, k.xc⟩ hx R rl hB el ht)
  exact h2.run O' T' sw' pins Bk B' en' σ' H' s' its' c fs K J gd lv N gc k hx R' rl' hB' el' n
def tGIf (c : DTT) (t u : DGT) : DGT := fun en its N => c en [] (fun b m => m = [] ∧ if b = true then t en its N else u en its N) (fun er _ => its = [] ∧ N.xc er)
theorem gs_if {c : Expr} {x y : List Stmt} {tc : DTT} {t u : DGT} {pos : Pos} (hc : ∀ E s Z, DT (Gx (G.se E) s Z) E c tc) (h1 : GSs G x t) (h2 : GSs G y u) : GS G (.If c x y pos) (tGIf tc t u) := by
  refine ⟨fun O Tt sw pins Bk B en σ H s its cd fs K J gd lv N gc k hx R rl hB el ht => ?_⟩
  obtain ⟨t0, p, q⟩ := (hc (G.wE its Tt).E sw (Zt G.n0 Tt O sw.heap)).ex
  have I := Inv.se (G := G) (E := G.E) (E' := (G.wE its Tt).E) R.inv
  have w := q B [] en [] σ H _ _ (fun b H' => ∃ B' μ', Same B B' ∧ Rel G.K B' μ' en [] σ H' ∧ if b = true then t en its N else u en its N) R.rel (hx.of R.tb) ht
    fun B' μ' m' H' b s' r' ⟨z1, z2⟩ => by subst z1; exact ⟨B', μ', s'.same, r', z2⟩
  refine segx_If ?_
  rw [gc.over]
  refine wpAny_fz R.fz (wpAny_mono (lift_slp R.inv.bare (p.run pins (asleep s) σ H _ I.asl w)) (fun b s' ⟨s0, hs, sl⟩ fz => ?_) fun x s' ⟨s0, hx', sl⟩ _ => k.xc O Tt sw its x s s0 s' R.ga R.an hx' sl (sl.rl rl))
  obtain ⟨H', I', B', μ', s1, r', n⟩ := hs
  have R' := R.step (sl.inv I') fz s1 r' el
  cases b with
  | true => exact h1.run O Tt sw pins Bk _ en σ H' s' its cd fs K J gd lv N gc k hx R' (sl.rl rl) (R.lt hB s1) el n
  | false => exact h2.run O Tt sw pins Bk _ en σ H' s' its cd fs K J gd lv N gc k hx R' (sl.rl rl) (R.lt hB s1) el n
/-- what stands at an object that is pinned -/
theorem Run.pinned {O : Ow} {T : Hp} {sw s : Shared} {pins : List (Addr × Obj)} {B : Hp} {en : En} {σ : L2.St} {H : Hp} (R : Run G O T sw pins B en σ H s) {p : Addr × Obj} (hp : p ∈ G.pn ++ pins) : ownB G.n0 O sw s p.1 ∧ B p.1 = none := by
  obtain ⟨h1, h2, _, _, h6⟩ := R.inv.pin p hp
  have nb := R.nB h2
  refine ⟨R.mine h1 h6 ?_ (fun o u z => by rw [h2] at z; cases z) (R.pm p hp), nb⟩
  cases q : T p.1 with
  | none => rfl
  | some o => rw [R.tb _ o q] at nb; cases nb
def tGY (te : DTE) : DGT := fun en its N => te en [] (fun x m => m = [] ∧ ∃ d ds, x = .v d ∧ LTD d ∧ its = d :: ds ∧ N.nx en ds) (fun er _ => its = [] ∧ N.xc er)
/-- asleep at a yield, and how it goes on -/
theorem Run.sleeps0 {O : Ow} {T : Hp} {sw s : Shared} {pins : List (Addr × Obj)} {B : Hp} {en : En} {σ : L2.St} {H : Hp} {ds : List D} {gs : GenState} (R : Run G O T sw pins B en σ H s)
    (on : ∀ s1 s2, Rely G (ownB G.n0 O sw s) B (s.setGen G.g gs) s1 → s2 = s1.setGen G.g .running → Run G (ownB G.n0 O sw s) B s2 pins B en σ (Zt G.n0 B (ownB G.n0 O sw s) s2.heap) s2 → GoX (M0 G.P G.w) G.A gs (Phi G ds (ownB G.n0 O sw s) B s2) s2) :
    Gn G ds (ownB G.n0 O sw s) B (s.setGen G.g gs) := by
  have lt : G.g < s.gens.size := Nat.lt_of_lt_of_le R.gw R.fz.gn
  have at_ : (s.setGen G.g gs).gens[G.g]? = some gs := setGen_at lt
  have na : ¬ ownB G.n0 O sw s G.a := fun h => by
    rcases h.2.2 with z | z
    · exact R.an.2.1 z
    · exact absurd (Nat.lt_of_lt_of_le R.ga.there.lt z) (Nat.lt_irrefl _)
  refine Gn_iff.mpr ⟨gs, ⟨R.gen, at_, na, R.gH.1, R.an.1, fun b h => ⟨h.1, h.2.1⟩, R.bt⟩, fun s1 r => ?_⟩
  have lt1 : G.g < s1.gens.size := (Array.getElem?_eq_some_iff.mp (r.slp G.g gs (Nat.le_refl _) at_ (.inl rfl))).1
  exact on s1 _ r rfl (R.woken (sY := s.setGen G.g gs) (s1 := s1) (s2 := s1.setGen G.g .running) rfl rfl (fun a h => r.lw a h.run) (allBare_setGen r.bare rfl) (by rw [GenW.setGen_size]; exact lt1) r)
theorem Run.sleeps {O : Ow} {T : Hp} {sw s : Shared} {pins : List (Addr × Obj)} {B : Hp} {en : En} {σ : L2.St} {H : Hp} {ds : List D} {gs : GenState} (R : Run G O T sw pins B en σ H s) (rl : Rl O T sw s)
    (on : ∀ s1 s2 H', Rely G (ownB G.n0 O sw s) B (s.setGen G.g gs) s1 → s2 = s1.setGen G.g .running → Run G (ownB G.n0 O sw s) B s2 pins B en σ H' s2 → Rl (ownB G.n0 O sw s) B s2 s2 → GoX (M0 G.P G.w) G.A gs (Phi G ds (ownB G.n0 O sw s) B s2) s2) :
    Gn G ds (ownB G.n0 O sw s) B (s.setGen G.g gs) := by
  refine R.sleeps0 fun s1 s2 r e R2 => on s1 s2 _ r e R2 fun a h => ⟨h, fun hO => ?_⟩
  subst e
  obtain ⟨i, h⟩ := h
  obtain ⟨ne, h⟩ := h.set fun _ _ _ _ _ _ z => by cases z
  have e1 := r.ld i a h hO.1 hO.2
  have e2 : (s.setGen G.g gs).gens[i]? = s.gens[i]? := Array.getElem?_setIfInBounds_ne fun z => ne z.symm
  obtain ⟨h3, h4⟩ := rl a ⟨i, h.of (e1.trans e2).symm⟩
  rcases hO.1.2.2 with z | z
  · refine h4 ⟨z, ?_⟩
    cases q : T a with
    | none => rfl
    | some u => rw [R.tb a u q] at hO; cases hO.2
  · exact absurd (Nat.lt_of_lt_of_le (R.lw a h3) z) (Nat.lt_irrefl _)
theorem gs_yield {e : Expr} {te : DTE} {yp pos : Pos} (he : ∀ E s Z, DE (Gx (G.se E) s Z) E e te) (hco : G.env.scope.isCoroutine = false := by rfl) (hi : interactive G.env = false := by rfl) : GS G (.Expr (.Yield (some e) yp) pos) (tGY te) := by
  refine ⟨fun O Tt sw pins Bk B en σ H s its c fs K J gd lv N gc k hx R rl hB el ht => ?_⟩
  obtain ⟨t, p, q⟩ := (he (G.wE its Tt).E sw (Zt G.n0 Tt O sw.heap)).ex
  have I := Inv.se (G := G) (E := G.E) (E' := (G.wE its Tt).E) R.inv
  have w := q B [] en [] σ H _ (fun er _ => its = [] ∧ N.xc er) (fun v H' => ∃ B' μ' d ds, Same B B' ∧ Rel G.K B' μ' en [] σ H' ∧ Rv G.K B' v d ∧ LTD d ∧ its = d :: ds ∧ N.nx en ds) R.rel (hx.of R.tb) ht
    fun B' μ' m' H' x v s' r' rw ⟨z1, d, ds, z2, z3, z4, z5⟩ => by subst z1; subst z2; exact ⟨B', μ', d, ds, s'.same, r', rw, z3, z4, z5⟩
  refine segx_Expr_Yield gc.split gc.gd gc.guard ?_ hco hi
  rw [gc.over]
  refine wpAny_fz R.fz (wpAny_mono (lift_slp R.inv.bare (p.run pins (asleep s) σ H _ I.asl w)) (fun u s' ⟨s0, hs, sl⟩ fz => ?_) fun x s' ⟨s0, hx', sl⟩ _ => k.xc O Tt sw its x s s0 s' R.ga R.an hx' sl (sl.rl rl))
  obtain ⟨x, H', I', rv, B', μ', d, ds, s1, r', rd, td, rfl, n⟩ := hs
  have R' := R.step (sl.inv I') fz s1 r' el
  rintro e1 ⟨g1, l1, k1, p1, rfl⟩ hq on
  refine ⟨u, x, ownB G.n0 O sw s', ltB B', rfl, hq, rv, Rv.lt rd td, R'.gu, fun a ⟨i, h⟩ => .inl ?_, R'.sleeps (sl.rl rl) fun s3 s2 H2 r e2 R2 rl2 => ?_⟩
  · by_cases ig : i = G.g
    · subst ig
      obtain ⟨k, l, c2, p, fs2, cl, h1, h2⟩ := h
      rw [setGen_at (Nat.lt_of_lt_of_le R'.gw R'.fz.gn)] at h1
      cases h1
      rw [gc.yf] at h2
      cases h2
    · exact (sl.rl rl) a ⟨i, h.of (Array.getElem?_setIfInBounds_ne fun z => ig z.symm).symm⟩
  · exact on _ _ (k.nx _ _ s2 _ en σ H2 s2 ds R2 rl2 (R.lt hB s1) el n)
end
end Fs
set_option Elab.async false
set_option linter.all false
set_option maxRecDepth 100000
set_option maxHeartbeats 8000000
namespace Fs
open PySem PySem.Spec PyProof.Rows L2
theorem wpAny_resumeX {M : Model} {A : Around} {Φ : End → Shared → Prop} {E : Value → Shared → Prop} {s : Shared} {g : Nat} {gs : GenState} {l : List Value} {α : Type} {k : GenResult → Sem α} {Q : α → Shared → Prop} (hg : s.gens[g]? = some gs)
    (hgo : GoX M A gs Φ (s.setGen g .running)) (h : ∀ e s1, Φ e s1 → Fz s s1 → e.quiet = true ∧ wpAny M A (k e.result) Q E (s1.setGen g e.genState)) : wpAny M A (.resume g (.send .none) l k) Q E s := by
  intro Γ p hΓ
  rw [Sem.wp_resume]
  have hB : ∀ c, (Γ.wake c p).Woken A := fun c => hΓ.wake c p
  cases gs with
  | fresh c =>
    obtain ⟨e₁, s₁, hr, he⟩ := hgo (Γ.wake c p) p rfl (hB c)
    obtain ⟨hq, w⟩ := h e₁ s₁ he (runs_fz hr).setR
    exact ⟨_, _, by unfold Wakes; rw [hg]; exact ⟨e₁, s₁, hr, hq, rfl, rfl⟩, w Γ p hΓ⟩
  | suspended k₀ l₀ c₀ p₀ fs₀ cl =>
    obtain ⟨e₁, s₁, hr, he⟩ := hgo (Γ.wake c₀ p) p₀ rfl (hB c₀)
    obtain ⟨hq, w⟩ := h e₁ s₁ he (runs_fz hr).setR
    exact ⟨_, _, by unfold Wakes; rw [hg]; exact ⟨e₁, s₁, hr, hq, rfl, rfl⟩, w Γ p hΓ⟩
  | running => exact hgo.elim
  | finished => exact hgo.elim
section
variable {P : Program} {w : World} {A : Around} {E : Value → Shared → Prop} {s : Shared}
/-- what a turn comes to: an item, the end, an exception -/
def Turned (A : Around) (a : Addr) (g : Nat) (Q : Value → Shared → Prop) (S : Shared → Prop) (E : Value → Shared → Prop) (e : End) (s1 : Shared) : Prop :=
  (∃ v, e.result = .yielded v ∧ e.quiet = true ∧ Q v (s1.setGen g e.genState)) ∨ (e = .ret (.ok (.ret .none)) ∧ S (s1.setGen g .finished)) ∨ ∃ x, e = .ret (.error x) ∧ IsGn s1.heap a g ∧ NotStop (M0 P w) x s1.heap ∧ E x (s1.setGen g .finished)
theorem wpAny_genNumberS {M : Model} {A : Around} {E : Value → Shared → Prop} {s : Shared} {a : Addr} {g : Nat} {Q : Nat → Shared → Prop} (hg : IsGn s.heap a g) (h : Q g s) : wpAny M A (Builtin.Generator.genNumber (.ref a)) Q E s := by
  obtain ⟨o, nm, qn, ho, _, hd, hsl⟩ := hg
  unfold Builtin.Generator.genNumber
  refine wpAny_bind (wpAny_load ho ?_)
  rcases hsl with hsl | hsl
  · rw [hsl, hd]
    show wpAny M A (pure ((g : Int).toNat)) Q E s
    rw [Int.toNat_natCast]; exact wpAny_pure h
  · rw [hsl, hd]
    show wpAny M A (pure ((g : Int).toNat)) Q E s
    rw [Int.toNat_natCast]; exact wpAny_pure h
theorem wpAny_pyIter_gn {a : Addr} {g : Nat} {Q : Value → Shared → Prop} (hg : IsGn s.heap a g) (h : Q (.ref a) s) :
    wpAny (M0 P w) A (pyIter (.ref a)) Q E s := by
  refine wpAny_pyIter_slot hg.typeIs slot_gen_iter (call_entry0 (by decide) slot_gen_iter hg.typeIs entry_gen_iter ?_ (args_gen_iter _))
  show wpAny _ _ (ret (.ref a)) _ _ s
  exact wpAny_pure ⟨_, rfl, "generator", _, hg.typeIs, slot_gen_next.lookup, h⟩
/-- __next__ of a generator -/
theorem special_genX {a : Addr} {g : Nat} {gs : GenState} {Φ : End → Shared → Prop} {Q : Option Value → Shared → Prop} (hh : A.handled = none) (hl : s.heap.NoLimit) (hroom : A.depth < recursionLimit) (hg : IsGn s.heap a g) (hgs : s.gens[g]? = some gs)
    (hgo : GoX (M0 P w) A.in1 gs Φ (s.setGen g .running))
    (h : ∀ e s1, Φ e s1 → Fz s s1 → Turned (P := P) (w := w) A a g (fun v s2 => Q (some v) s2) (fun s2 => ∀ e h', StopX e h' → (∀ b o, s2.heap.get? b = some o → h'.get? b = some o) → E e { s2 with heap := h' }) E e s1) :
    wpAny (M0 P w) A (callSpecial? (.ref a) "__next__") Q E s := by
  refine wpAny_callSpecial?_slot (name := Str.ofString "__next__") hg.typeIs slot_gen_next (call_entry0 (by decide) slot_gen_next hg.typeIs entry_gen_next ?_ (args_gen_next _))
  show wpAny _ A.in1 (Builtin.Generator.genWake (.ref a) (.send .none)) _ _ s
  unfold Builtin.Generator.genWake
  refine wpAny_bind (wpAny_holding (wpAny_genNumberS hg (wpAny_bind (wpAny_genState hgs ?_))))
  cases gs with
  | running => exact hgo.elim
  | finished => exact hgo.elim
  | _ =>
    refine wpAny_bind (wpAny_roomToWake hl hroom ?_)
    show wpAny _ A.in1 (.resume g (.send .none) [] _) _ _ s
    refine wpAny_resumeX hgs hgo fun e s1 he fz => ?_
    rcases h e s1 he fz with ⟨v, hv, hq, q⟩ | ⟨rfl, q⟩ | ⟨x, rfl, hg1, hns, q⟩
    · refine ⟨hq, ?_⟩
      rw [hv]
      exact wpAny_pure ⟨v, rfl, q⟩
    · refine ⟨rfl, ?_⟩
      show wpAny _ A.in1 (newExc (.type "StopIteration") [] >>= _) _ _ _
      refine wpAny_bind ?_
      simp only [newExc, newTuple]
      refine wpAny_bind (wpAny_newObj_type ?_ (by size_fits))
      refine wpAny_bind (m := firstArgMember _ _) (wpAny_of_eq (a := Value.none) (by first | rfl | (simp only [firstArgMember]; rfl)) ?_)
      refine wpAny_newObj_type ?_ (by size_fits)
      simp only [raiseNew]
      refine wpAny_bind (wpAny_bind (wpAny_handled ?_))
      first | rw [show A.in1.handled = none from hh] | rw [hh]
      refine wpAny_throw ?_
      refine q _ _ ⟨_, _, _, rfl, Heap.get?_push_size _ rfl, rfl, rfl, ?_⟩ fun b o hb => Heap.get?_push_of_some _ (Heap.get?_push_of_some _ hb)
      first
        | rfl
        | (rw [Array.getElem?_append_left (by decide)]; rfl)
        | kernel_rfl
    · refine ⟨rfl, ?_⟩
      obtain ⟨o, nm, qn, ho, hc, hd, hsl⟩ := hg1
      show wpAny _ A.in1 (Builtin.Generator.genLeft (.ref a) x) _ _ _
      unfold Builtin.Generator.genLeft Builtin.Generator.madeByALambda
      refine wpAny_bind (wpAny_bind (wpAny_load (o := o) ho (wpAny_pure ?_)))
      refine wpAny_bind (hns _ _ _ _ rfl ?_)
      rw [Bool.and_false, if_neg Bool.false_ne_true]
      unfold Builtin.Generator.genEscaped
      first
        | refine wpAny_bind (hns _ _ _ _ rfl ?_)
        | refine wpAny_bind (wpAny_pure (wpAny_bind (hns _ _ _ _ rfl ?_)))
      rw [if_pos (show (!false) = true from rfl)]
      first
        | refine wpAny_throw ?_
        | refine wpAny_bind (wpAny_throw ?_)
      exact q
/-- next, for a loop -/
theorem next_genX {a : Addr} {g : Nat} {gs : GenState} {Φ : End → Shared → Prop} {Q : Option Value → Shared → Prop} (hh : A.handled = none) (hl : s.heap.NoLimit) (hroom : A.depth < recursionLimit) (hg : IsGn s.heap a g) (hgs : s.gens[g]? = some gs)
    (hgo : GoX (M0 P w) A.in1 gs Φ (s.setGen g .running))
    (h : ∀ e s1, Φ e s1 → Fz s s1 → Turned (P := P) (w := w) A a g (fun v s2 => Q (some v) s2) (fun s2 => ∀ h', (∀ b o, s2.heap.get? b = some o → h'.get? b = some o) → Q none { s2 with heap := h' }) E e s1) :
    wpAny (M0 P w) A (pyNext (.ref a)) Q E s := by
  unfold pyNext
  refine wpAny_bind (wpAny_attempt (special_genX hh hl hroom hg hgs hgo fun e s1 he fz => ?_))
  rcases h e s1 he fz with ⟨v, hv, hq, q⟩ | ⟨rfl, q⟩ | ⟨x, rfl, hg1, hns, q⟩
  · exact .inl ⟨v, hv, hq, wpAny_pure q⟩
  · refine .inr (.inl ⟨rfl, fun e h' hS hk => ?_⟩)
    obtain ⟨b, o, vs, rfl, hb, hc, _⟩ := hS
    refine wpAny_bind (wpAny_isInstance (T := "StopIteration") (b := true) ⟨_, hb, hc⟩ isSubtype_stop ?_)
    exact wpAny_pure (q h' hk)
  · refine .inr (.inr ⟨x, rfl, hg1, hns, ?_⟩)
    refine wpAny_bind (hns _ _ _ _ rfl ?_)
    rw [if_neg Bool.false_ne_true]
    exact wpAny_throw q
end
end Fs
set_option Elab.async false
set_option linter.all false
set_option maxRecDepth 100000
set_option maxHeartbeats 8000000
namespace Fs
open PySem PySem.Spec PyProof.Rows L2
/-- an exception of a generator -/
def ErG (K : Frag) (oe : Option Er) : XK := fun c d H => ∃ er dd fvs, oe = some er ∧ c = .ref er.C ∧ d = some dd ∧ H dd = some (.xd fvs) ∧ RvF K (fun _ => none) fvs er.fs ∧ PySem.W.subIn K c (.type "StopIteration") = some false
/-- its own objects that are known as nothing, and its object -/
noncomputable def fpL (a : Addr) (O : Ow) (T : Hp) (n : Nat) : List Addr := (List.range n).filter fun b => @decide (b = a ∨ O b ∧ T b = none) (Classical.propDecidable _)
theorem mem_fpL {a : Addr} {O : Ow} {T : Hp} {n : Nat} {b : Addr} : b ∈ fpL a O T n ↔ b < n ∧ (b = a ∨ O b ∧ T b = none) := by
  unfold fpL
  rw [List.mem_filter, List.mem_range]
  exact and_congr_right fun _ => @decide_eq_true_iff _ (Classical.propDecidable _)
/-- one that holds a generator and wakes it -/
structure Cons (X : Cx) (G : Gst) (pins : List (Addr × Obj)) (its : List D) (O : Ow) (T B H : Hp) (σ : L2.St) (s : Shared) : Prop where
  inv : Inv X pins σ H s
  gn : Gn G its O T s
  eP : G.P = X.prog
  ew : G.w = X.w
  eK : G.K = X.K
  eb : G.base = X.base
  eo : G.outer = X.stack
  eE : G.E = ErG X.K G.oe
  lo : ∀ b ∈ frs G.outer, b < G.n0
  bh : Le B H
  tb : ∀ b o, T b = some o → B b = some o
  fp : ∀ b, (b = G.a ∨ O b ∧ T b = none) → FpOk X pins H b
/-- more tuples and lists are known -/
structure ExtB (B H B' H' : Hp) : Prop where
  bb : ∀ b o, B b = some o → B' b = some o
  hh : ∀ b o, H b = some o → H' b = some o
  nb : ∀ b o, H b = some o → B b = none → B' b = none
  le : Le B' H'
  tu : ∀ b o, B b = none → B' b = some o → LTo o
section
variable {X : Cx} {G : Gst} {pins : List (Addr × Obj)} {its : List D} {O O' : Ow} {T T' B H : Hp} {σ : L2.St} {s s1 : Shared}
theorem Cons.th (C : Cons X G pins its O T B H σ s) {b : Addr} {o : HO} (e : T b = some o) : H b = some o := C.bh b o (C.tb b o e)
theorem Cons.nt (C : Cons X G pins its O T B H σ s) {b : Addr} (e : H b = none) : T b = none := by
  cases q : T b with
  | none => rfl
  | some o => rw [C.th q] at e; cases e
theorem Cons.at_ (C : Cons X G pins its O T B H σ s) : ∃ gs, GnAt G gs O T s := by
  obtain ⟨gs, h, _⟩ := Gn_iff.mp C.gn
  exact ⟨gs, h⟩
theorem Cons.noO (C : Cons X G pins its O T B H σ s) {b : Addr} {o : HO} (e : H b = some o) (n : T b = none) : ¬ O b := fun z => by
  rw [(C.fp b (.inr ⟨z, n⟩)).1] at e
  cases e
theorem Cons.rely (C : Cons X G pins its O T B H σ s) (lw : ∀ a, LD s a → a < s.heap.objs.size) : Rely G O T s s where
  os := rfl
  bare := C.inv.bare
  sz := Nat.le_refl _
  bs := fun b o e => by
    rw [C.eb] at e
    exact C.inv.bk b o e
  funs := by
    rw [C.eb, C.eo]
    exact C.inv.stack
  own := fun _ _ _ _ e => e
  hok := fun b o e => by
    obtain ⟨gs, k⟩ := C.at_
    have z := C.inv.hok b _ (C.th e)
    rw [C.eP, C.ew]
    exact objOk_lt (k.ton b o e) z
  gen := by
    obtain ⟨gs, k⟩ := C.at_
    exact k.gen
  slp := fun _ _ _ e _ => e
  ld := fun _ _ _ _ _ => rfl
  lw := lw
/-- behind a turn -/
theorem Cons.gu (C : Cons X G pins its O T B H σ s) {sr : Shared} (hr : sr.heap = s.heap) (hro : sr.os = s.os) (gu : Gu G O T O' T' sr s1) : ∃ B' H', Inv X pins σ H' s1 ∧ ExtB B H B' H' ∧ (∀ b o, T' b = some o → B' b = some o) ∧ ∀ b, (b = G.a ∨ O' b ∧ T' b = none) → FpOk X pins H' b := by
  obtain ⟨gs, k⟩ := C.at_
  have I := C.inv
  let H' : Hp := fun b => match H b with
    | some o => some o
    | none => T' b
  let B' : Hp := fun b => match B b with
    | some o => some o
    | none => match H b with
      | some _ => none
      | none => T' b
  have hs : ∀ b o, H b = some o → H' b = some o := fun b o e => by
    show (match H b with | some o => some o | none => T' b) = _
    rw [e]
  have hn : ∀ b, H b = none → H' b = T' b := fun b e => by
    show (match H b with | some o => some o | none => T' b) = _
    rw [e]
  have bs : ∀ b o, B b = some o → B' b = some o := fun b o e => by
    show (match B b with | some o => some o | none => match H b with | some _ => none | none => T' b) = _
    rw [e]
  have bn : ∀ b, B b = none → H b = none → B' b = T' b := fun b e e2 => by
    show (match B b with | some o => some o | none => match H b with | some _ => none | none => T' b) = _
    rw [e, e2]
  have bx : ∀ b o, B b = none → H b = some o → B' b = none := fun b o e e2 => by
    show (match B b with | some o => some o | none => match H b with | some _ => none | none => T' b) = _
    rw [e, e2]
  have keep : ∀ b o, s.heap.get? b = some o → ¬ O b → b ∉ frs X.stack → T b = none → s1.heap.get? b = some o := fun b o e h1 h2 h3 => gu.keep b o (by rw [hr]; exact e) h1 (by rw [C.eo]; exact h2) h3
  have slot : ∀ b o, s.heap.get? b = some o → b ∈ frs X.stack → ∃ sl, s1.heap.get? b = some { o with slots := sl } := fun b o e h => gu.slot b o (by rw [hr]; exact e) (by rw [C.eo]; exact h)
  have new : ∀ b o, s.heap.get? b = some o → ¬ O b → T b = none → T' b = none := fun b o e h n => gu.new b o (by rw [hr]; exact e) h n
  have hokT : ∀ b o, T' b = some o → ∀ H2, ObjOk X.prog X.w H2 s1.heap b o := fun b o e H2 => by
    have z := gu.hok b _ e
    rw [C.eP, C.ew] at z
    exact objOk_lt (gu.ton b o e) z
  have nch : ∀ b o, s.heap.get? b = some o → T b = none → b ∉ fpL G.a O T s.heap.objs.size → ¬ O b := fun b o e n h z => h (mem_fpL.mpr ⟨Heap.lt_size e, .inr ⟨z, n⟩⟩)
  have un : Un (frs X.stack) (fpL G.a O T s.heap.objs.size) H H' s.heap s1.heap := by
    refine ⟨fun b o e n hb hc => keep b o e (nch b o e (C.nt n) hc) hb (C.nt n), fun b o e _ hb _ => slot b o e hb, fun b o e n hc => ?_, fun b o e hc => ?_, fun b xs e => hs b _ e, fun b o u e => hs b _ e, fun b ps e => ⟨#[], by rw [hs b _ e]; simp⟩⟩
    · rw [hn b n]
      exact new b o e (nch b o e (C.nt n) hc) (C.nt n)
    · by_cases hb : b ∈ frs X.stack
      · obtain ⟨sl, z⟩ := slot b o e hb
        exact ⟨_, z⟩
      · cases q : T b with
        | none => exact ⟨o, keep b o e (nch b o e q hc) hb q⟩
        | some t => exact objOk_get (hokT b t (gu.tup b t q) H)
  have hok : HOk X.prog X.w H' s1.heap := fun a o e => by
    cases q : H a with
    | none =>
      rw [hn a q] at e
      exact hokT a o e H'
    | some o' =>
      rw [hs a o' q] at e
      have e' : o' = o := Option.some.inj e
      subst e'
      cases t : T a with
      | some u =>
        have z := C.th t
        rw [q] at z
        cases z
        exact hokT a _ (gu.tup a _ t) H'
      | none =>
        refine (I.hok a o' q).stay (fun c v hc z => ?_) (fun c z => hs c _ z) fun c xs z => hs c _ z
        have tr : ∃ y, H c = some y ∧ T c = none := by
          rcases hc with rfl | hc
          · exact ⟨o', q, t⟩
          · refine ⟨_, hc, ?_⟩
            cases t2 : T c with
            | none => rfl
            | some u =>
              rw [C.th t2] at hc
              rcases k.ton c u t2 with ⟨xs, rfl⟩ | ⟨xs, rfl⟩ <;> cases hc
        obtain ⟨y, hy, ty⟩ := tr
        refine keep c v z (C.noO hy ty) (fun hb => ?_) ty
        rw [I.nofrS hb] at hy
        cases hy
  have I' : Inv X pins σ H' s1 := I.call' (ch := fpL G.a O T s.heap.objs.size) (gu.os.trans hro) un hok gu.bare fun b hb => by
    obtain ⟨_, h1, _, h3, h4, h5⟩ := C.fp b (mem_fpL.mp hb).2
    exact ⟨h3, h1, h4, h5⟩
  have tT : ∀ b o t, H b = some o → T' b = some t → T b = some o := fun b o t e e2 => by
    cases q : T b with
    | some u => rw [C.th q] at e; exact e
    | none =>
      obtain ⟨ob, eo⟩ := objOk_get (I.hok b o e)
      rw [new b ob eo (C.noO e q) q] at e2
      cases e2
  refine ⟨B', H', I', ⟨bs, hs, fun b o e n => bx b o n e, fun b o e => ?_, fun b o n e => ?_⟩, fun b o e => ?_, fun b h => ?_⟩
  · cases q : B b with
    | some u =>
      rw [bs b u q] at e
      cases e
      exact hs b _ (C.bh b _ q)
    | none =>
      cases q2 : H b with
      | some u => rw [bx b u q q2] at e; cases e
      | none =>
        rw [bn b q q2] at e
        rw [hn b q2]
        exact e
  · cases q2 : H b with
    | some u => rw [bx b u n q2] at e; cases e
    | none =>
      rw [bn b n q2] at e
      exact gu.ton b o e
  · cases q2 : H b with
    | none =>
      have nb : B b = none := by
        cases q : B b with
        | none => rfl
        | some u => rw [C.bh b u q] at q2; cases q2
      rw [bn b nb q2]
      exact e
    | some u =>
      have z := tT b u o q2 e
      have z2 := gu.tup b u z
      rw [e] at z2
      cases z2
      exact bs b _ (C.tb b _ z)
  · rcases h with rfl | ⟨h, n⟩
    · obtain ⟨h0, h1, h2, h3, h4, h5⟩ := C.fp _ (.inl rfl)
      obtain ⟨o, e, _⟩ := k.gen.there
      exact ⟨by rw [hn _ h0]; exact new _ o e k.na k.nT, h1, h2, h3, h4, h5⟩
    rcases gu.fresh b h with z | z
    · have nT : T b = none := by
        cases q : T b with
        | none => rfl
        | some t => rw [gu.tup b t q] at n; cases n
      obtain ⟨h0, h1, h2, h3, h4, h5⟩ := C.fp b (.inr ⟨z, nT⟩)
      exact ⟨by rw [hn b h0]; exact n, h1, h2, h3, h4, h5⟩
    · rw [hr] at z
      exact I.fpOk z (by rw [hn b (I.hok.fresh z)]; exact n)
/-- an item has come -/
theorem Cons.item (C : Cons X G pins its O T B H σ s) {d : D} {ds : List D} {e : End} (hp : Phi G (d :: ds) O T (s.setGen G.g .running) e s1) : ∃ v x O' T' B' H', e.result = .yielded v ∧ e.quiet = true ∧ RelV x v ∧ Rv X.K B' x d ∧ ExtB B H B' H' ∧ Cons X G pins ds O' T' B' H' σ (s1.setGen G.g e.genState) ∧ ∀ a, LD (s1.setGen G.g e.genState) a → (LD s a ∧ ¬ (O a ∧ T a = none)) ∨ (O' a ∧ T' a = none ∧ isGenO (s1.heap.get? a) = true) := by
  obtain ⟨v, x, O', T', h1, h2, h3, h4, gu, yl, gn⟩ := hp
  obtain ⟨B', H', I', ex, tb, fp⟩ := C.gu (sr := s.setGen G.g .running) rfl rfl gu
  refine ⟨v, x, O', T', B', H', h1, h2, h3, ?_, ex, ⟨I'.grown rfl (fun _ _ z => z) (allBare_setGen gu.bare (End.bare_of_quiet h2)), gn, C.eP, C.ew, C.eK, C.eb, C.eo, C.eE, C.lo, ex.le, tb, fp⟩, fun a h => ?_⟩
  · rw [← C.eK]
    exact h4.to fun b o z => tb b o z
  · exact (yl a h).imp (fun z => ⟨z.1.run, z.2⟩) id
/-- the pins of its own objects -/
noncomputable abbrev pinL (a : Addr) (O : Ow) (T : Hp) (s : Shared) : List (Addr × Obj) := pinsAt (fpL a O T s.heap.objs.size) s.heap
theorem Cons.pinned (C : Cons X G pins its O T B H σ s) : Inv X (pins ++ pinL G.a O T s) σ H s := by
  obtain ⟨gs, k⟩ := C.at_
  refine C.inv.pinned (fun b hb => C.fp b (mem_fpL.mp hb).2) fun b hb => ?_
  rcases (mem_fpL.mp hb).2 with rfl | h
  · exact k.gen.there
  · exact (k.ob b h.1).2
/-- the consumer's own code ran (it kept what is the generator's) -/
theorem Cons.kept (C : Cons X G pins its O T B H σ s) {B2 H2 : Hp} {σ2 : L2.St} {s2 : Shared} (I2 : Inv X (pins ++ pinL G.a O T s) σ2 H2 s2) (fz : Fz s s2) (bh : Le B2 H2) (bb : ∀ b o, B b = some o → B2 b = some o)
    (slp : ∀ (i : Nat) (x : GenState), G.g ≤ i → s.gens[i]? = some x → (i = G.g ∨ isSlp x) → s2.gens[i]? = some x) (ld : ∀ i a, LdAt s2 i a → O a → T a = none → s2.gens[i]? = s.gens[i]?) (lw : ∀ a, LD s2 a → a < s2.heap.objs.size) : Cons X G pins its O T B2 H2 σ2 s2 := by
  obtain ⟨gs, k⟩ := C.at_
  have tb2 : ∀ b o, T b = some o → B2 b = some o := fun b o e => bb b o (C.tb b o e)
  have pin2 : ∀ b o, (b = G.a ∨ O b ∧ T b = none) → s.heap.get? b = some o → s2.heap.get? b = some o ∧ H2 b = none := fun b o h1 e => by
    have z := I2.pin (b, o) (List.mem_append_right _ (List.mem_append_right _ (mem_pinsAt (mem_fpL.mpr ⟨Heap.lt_size e, h1⟩) e)))
    exact ⟨z.1, z.2.1⟩
  have r : Rely G O T s s2 := {
    os := I2.os.trans C.inv.os.symm
    bare := I2.bare
    sz := fz.hp
    bs := fun b o e => by
      rw [C.eb] at e
      exact I2.bk b o e
    funs := by
      rw [C.eb, C.eo]
      exact I2.stack
    own := fun b o h1 h2 e => (pin2 b o (.inr ⟨h1, h2⟩) e).1
    gen := k.gen.of fun o e => (pin2 _ o (.inl rfl) e).1
    hok := fun b o e => by
      have z := I2.hok b _ (bh b _ (tb2 b _ e))
      rw [C.eP, C.ew]
      exact objOk_lt (k.ton b o e) z
    slp := slp
    ld := ld
    lw := lw }
  refine ⟨I2.unpinned, C.gn.later r, C.eP, C.ew, C.eK, C.eb, C.eo, C.eE, C.lo, bh, tb2, fun b h1 => ?_⟩
  obtain ⟨_, f1, f2, f3, f4, f5⟩ := C.fp b h1
  have ex : Ob s.heap b := by
    rcases h1 with rfl | h
    · exact k.gen.there
    · exact (k.ob b h.1).2
  obtain ⟨o, e, _⟩ := ex
  exact ⟨(pin2 b o h1 e).2, f1, f2, f3, f4, f5⟩
end
end Fs
set_option Elab.async false
set_option linter.all false
set_option maxRecDepth 100000
set_option maxHeartbeats 8000000
namespace Fs
open PySem PySem.Spec PyProof.Rows L2
theorem objOk_lt_keep {P : Program} {w : World} {H H' : Hp} {h h' : Heap} {a : Addr} {o : HO} (l : LTo o) (x : ObjOk P w H h a o) (k : ∀ b ob, h.get? b = some ob → h'.get? b = some ob) : ObjOk P w H' h' a o := by
  rcases l with ⟨xs, rfl⟩ | ⟨xs, rfl⟩
  · obtain ⟨z, its, r, ob, e, c⟩ := x
    exact ⟨z, its, r, ob, k _ _ e, c⟩
  · obtain ⟨z, its, n, r, e⟩ := x
    exact ⟨z, its, n, r, k _ _ e⟩
theorem noStop_erG {K : Frag} {oe : Option Er} {T : Hp} : NoStop K (fun c d H => Le T H ∧ ErG K oe c d H) := fun c d H h => by
  obtain ⟨_, er, dd, fvs, _, _, _, _, _, ns⟩ := h
  exact ns
/-- what left a def is no StopIteration (asked over the quiet machine) -/
theorem notStop0 {P : Program} {w : World} {K : Frag} {outer : List Env} {H : Hp} {s s' : Shared} {E : XK} {x : Value} (hE : NoStop K E) (kin : K.In s'.heap) (c : L2.CX P w outer H s E x s') : NotStop (M0 P w) x s'.heap := by
  obtain ⟨a, _, H', cls, d, rfl, fl, _, _, _, _, _, hW⟩ := c
  obtain ⟨o, _, ho, hz, _⟩ := fl.there
  intro A Q E' t ht hq
  unfold isInstance
  refine wpAny_bind (wpAny_typeOf_ref (o := o) (by rw [ht]; exact ho) ?_)
  rw [hz.1]
  exact PySem.W.looks_subIn (M := M0 P w) kin (hE cls d H' hW) A Q E' t (fun b o z => by rw [ht]; exact z) hq
section
variable {X : Cx} {G : Gst} {pins : List (Addr × Obj)} {its : List D} {O : Ow} {T B H : Hp} {σ : L2.St} {s s1 : Shared}
/-- an item has come -/
def Cons.Item (X : Cx) (G : Gst) (pins : List (Addr × Obj)) (d : D) (ds : List D) (O : Ow) (T B H : Hp) (σ : L2.St) (s : Shared) (v : Value) (s1 : Shared) : Prop :=
  ∃ x O' T' B' H', RelV x v ∧ Rv X.K B' x d ∧ ExtB B H B' H' ∧ Cons X G pins ds O' T' B' H' σ s1 ∧ (∃ gs, s1.gens[G.g]? = some gs ∧ isSlp gs) ∧ Fz s s1 ∧ ∀ a, LD s1 a → (LD s a ∧ ¬ (O a ∧ T a = none)) ∨ (O' a ∧ T' a = none ∧ isGenO (s1.heap.get? a) = true)
theorem Cons.next_item {d : D} {ds : List D} {E : Value → Shared → Prop} (C : Cons X G pins (d :: ds) O T B H σ s) {A : Around} (hA : G.A = A.in1) (hh : A.handled = none) (hd : A.depth < recursionLimit) (lw : ∀ a, LD s a → a < s.heap.objs.size) :
    wpAny (M0 X.prog X.w) A (pyNext (.ref G.a)) (fun r s1 => ∃ v, r = some v ∧ Cons.Item X G pins d ds O T B H σ s v s1) E s := by
  obtain ⟨gs, k, n⟩ := Gn_iff.mp C.gn
  have go := n s (C.rely lw)
  rw [C.eP, C.ew, hA] at go
  refine next_genX hh C.inv.nolimit hd k.gen k.at_ go fun e s1 he fz => ?_
  obtain ⟨v, x, O', T', B', H', h1, h2, h3, h4, h5, h6, h7⟩ := C.item he
  refine .inl ⟨v, h1, h2, v, rfl, x, O', T', B', H', h3, h4, h5, h6, ⟨e.genState, ?_, ?_⟩, fz.trans (.set (End.bare_of_quiet h2)), h7⟩
  · obtain ⟨gs2, k2⟩ := h6.at_
    have lt := (Array.getElem?_eq_some_iff.mp k2.at_).1
    rw [GenW.setGen_size] at lt
    exact setGen_at lt
  · cases e with
    | ret r => cases r <;> (first | cases h1 | (rename_i f; cases f <;> cases h1))
    | susp v g l k c p fs => trivial
/-- an exception of the generator is in the consumer's air -/
theorem Cons.raised (C : Cons X G pins its O T B H σ s) {E : XK} {x : Value}
    (cx : L2.CX G.P G.w G.outer (Zt G.n0 T O (s.setGen G.g .running).heap) { (s.setGen G.g .running) with heap := trH G.n0 (s.setGen G.g .running).heap } (fun c d H => Le T H ∧ G.E c d H) x s1)
    (hE : ∀ er dd fvs, G.oe = some er → H dd = none → RvF X.K (fun _ => none) fvs er.fs → E (.ref er.C) (some dd) (upd H dd (.xd fvs))) : XE X (fun cls d _ H => E cls d H) x (s1.setGen G.g .finished) := by
  obtain ⟨gs, k⟩ := C.at_
  have I := C.inv
  obtain ⟨a, Bg, H'', cls, d, rfl, fl, hok, ub, na, os, ag, hT, hE'⟩ := cx
  rw [C.eE] at hE'
  obtain ⟨er, dd, fvs, ho, rfl, rfl, hdd, rf, ns⟩ := hE'
  have ub : UB (frs X.stack) (Zt G.n0 T O s.heap) H'' (trH G.n0 s.heap) Bg s1.heap := by
    rw [← C.eo]
    exact ub
  have lo : ∀ b ∈ frs X.stack, b < G.n0 := by
    rw [← C.eo]
    exact C.lo
  have fl : HandSPX.FlyingZ Bg X.stack a (Zc (.ref er.C) (some dd)) s1.heap := by
    rw [← C.eo]
    exact fl
  -- what is known as nothing stays so
  have free : ∀ b o, s.heap.get? b = some o → ¬ O b → T b = none → H'' b = none ∨ ∃ u, H'' b = some (.frz o u) ∧ Bg.get? b = some o := fun b o e no n => by
    by_cases l : b < G.n0
    · exact .inl (ub.free b o (trH_get.mpr ⟨l, e⟩) (Zt_none n (.inl l)))
    · have z := ub.frzs b o _ (Zt_frz n (Nat.le_of_not_lt l) no e)
      exact .inr ⟨_, z, (hok b _ z).1⟩
  have keep : ∀ b o, s.heap.get? b = some o → ¬ O b → T b = none → b ∉ frs X.stack → Bg.get? b = some o := fun b o e no n nf => by
    by_cases l : b < G.n0
    · exact ub.keep b o (trH_get.mpr ⟨l, e⟩) (Zt_none n (.inl l)) nf
    · exact (hok b _ (ub.frzs b o _ (Zt_frz n (Nat.le_of_not_lt l) no e))).1
  have ndd : ∀ o, s.heap.get? dd = some o → T dd = none → O dd := fun o e n => Classical.byContradiction fun no => by
    rcases free dd o e no n with z | ⟨u, z, _⟩
    · rw [hdd] at z; cases z
    · rw [hdd] at z; cases z
  have nT : T dd = none := by
    cases t : T dd with
    | none => rfl
    | some u =>
      have z := hT dd u t
      rw [hdd] at z
      rcases k.ton dd u t with ⟨xs, rfl⟩ | ⟨xs, rfl⟩ <;> cases z
  have nd : H dd = none := by
    cases q : H dd with
    | none => rfl
    | some o =>
      obtain ⟨ob, eo⟩ := objOk_get (I.hok dd o q)
      exact absurd (ndd ob eo nT) (C.noO q nT)
  have nA : H a = none := by
    cases q : H a with
    | none => rfl
    | some o =>
      cases t : T a with
      | some u =>
        rw [hT a u t] at na
        cases na
      | none =>
        obtain ⟨ob, eo⟩ := objOk_get (I.hok a o q)
        have z := keep a ob eo (C.noO q t) t fun hb => by
          rw [I.nofrS hb] at q
          cases q
        rw [fl.2.1] at z
        cases z
  obtain ⟨Gh, g1, g2⟩ := restrict s1.heap fun b => (Bg.get? b).isSome || decide (b ∈ frs X.stack)
  have st : Bg.StaysIn s1.heap := fl.1
  have gB : ∀ b o, Bg.get? b = some o → Gh.get? b = some o := fun b o e => by
    rw [g1 b (by simp [e])]
    exact st b o e
  have gF : ∀ b, b ∈ frs X.stack → Gh.get? b = s1.heap.get? b := fun b hb => g1 b (by simp [hb])
  have og : ∀ b o, Gh.get? b = some o → s1.heap.get? b = some o ∧ ((Bg.get? b).isSome = true ∨ b ∈ frs X.stack) := fun b o e => by
    cases q : ((Bg.get? b).isSome || decide (b ∈ frs X.stack)) with
    | false => rw [g2 b q] at e; cases e
    | true =>
      rw [g1 b q] at e
      exact ⟨e, by simpa [Bool.or_eq_true] using q⟩
  have nch : ∀ b o, s.heap.get? b = some o → T b = none → b ∉ fpL G.a O T s.heap.objs.size → ¬ O b := fun b o e n h z => h (mem_fpL.mpr ⟨Heap.lt_size e, .inr ⟨z, n⟩⟩)
  have slot : ∀ b o, s.heap.get? b = some o → b ∈ frs X.stack → ∃ sl, Gh.get? b = some { o with slots := sl } := fun b o e hb => by
    obtain ⟨sl, q⟩ := ub.slot b o (trH_get.mpr ⟨lo b hb, e⟩) hb
    exact ⟨sl, by rw [gF b hb]; exact q⟩
  have neD : ∀ b o, H b = some o → b ≠ dd := fun b o e z => by rw [z, nd] at e; cases e
  have un : Un (frs X.stack) (fpL G.a O T s.heap.objs.size) H (upd H dd (.xd fvs)) s.heap Gh := by
    refine ⟨fun b o e n hb hc => gB b o (keep b o e (nch b o e (C.nt n) hc) (C.nt n) hb), fun b o e _ hb _ => slot b o e hb, fun b o e n hc => ?_, fun b o e hc => ?_, fun b xs e => by rw [upd_ne (neD b _ e)]; exact e, fun b o u e => by rw [upd_ne (neD b _ e)]; exact e, fun b ps e => ⟨#[], by rw [upd_ne (neD b _ e), e]; simp⟩⟩
    · rw [upd_ne fun z => by subst z; exact nch _ o e nT hc (ndd o e nT)]
      exact n
    · by_cases hb : b ∈ frs X.stack
      · obtain ⟨sl, z⟩ := slot b o e hb
        exact ⟨_, z⟩
      · cases q : T b with
        | none => exact ⟨o, gB b o (keep b o e (nch b o e q hc) q hb)⟩
        | some t =>
          obtain ⟨ob, z⟩ := objOk_get (hok b t (hT b t q))
          exact ⟨ob, gB b ob z⟩
  have hok2 : HOk X.prog X.w (upd H dd (.xd fvs)) Gh := fun b o e => by
    by_cases c : b = dd
    · subst c
      rw [upd_same] at e
      cases e
      obtain ⟨mA, ⟨od, es, ep, e, c⟩, r⟩ := hok b _ hdd
      exact ⟨mA, ⟨od, es, ep, gB _ _ e, c⟩, r⟩
    · rw [upd_ne c] at e
      cases t : T b with
      | some u =>
        have z := C.th t
        rw [e] at z
        cases z
        have z := hok b _ (hT b _ t)
        rw [C.eP, C.ew] at z
        exact objOk_lt_keep (k.ton b _ t) z gB
      | none =>
        refine (I.hok b o e).stay (fun c v hc z => gB c v ?_) (fun c z => by rw [upd_ne (neD c _ z)]; exact z) fun c xs z => by rw [upd_ne (neD c _ z)]; exact z
        have tr : ∃ y, H c = some y ∧ T c = none := by
          rcases hc with rfl | hc
          · exact ⟨o, e, t⟩
          · refine ⟨_, hc, ?_⟩
            cases t2 : T c with
            | none => rfl
            | some u =>
              rw [C.th t2] at hc
              rcases k.ton c u t2 with ⟨xs, rfl⟩ | ⟨xs, rfl⟩ <;> cases hc
        obtain ⟨y, hy, ty⟩ := tr
        exact keep c v z (C.noO hy ty) ty fun hb => by
          rw [I.nofrS hb] at hy
          cases hy
  refine ⟨a, Bg, { s with heap := Gh, gens := (s1.setGen G.g .finished).gens, drawn := s1.drawn, toks := s1.toks }, pins, σ, upd H dd (.xd fvs), .ref er.C, some dd, rfl, ?_, fun b o e hb => ?_, Heap.UpToSlots.of_keeps fun b o e => (og b o e).1, .inr (.inl fl), ?_, os, allBare_setGen ag rfl, hE er dd fvs ho nd rf⟩
  · exact I.call' (ch := fpL G.a O T s.heap.objs.size) rfl un hok2 (allBare_setGen ag rfl) fun b hb => by
      obtain ⟨_, h1, _, h3, h4, h5⟩ := C.fp b (mem_fpL.mp hb).2
      exact ⟨h3, h1, h4, h5⟩
  · obtain ⟨e', h⟩ := og b o e
    rcases h with h | h
    · obtain ⟨o', q⟩ := Option.isSome_iff_exists.mp h
      have z := st b o' q
      rw [e'] at z; cases z
      exact q
    · exact absurd h hb
  · rw [upd_ne fun z => by rw [z, hdd] at na; cases na]
    exact nA
theorem XE_gens {X : Cx} {W : WX} {u : Value} {s : Shared} (h : XE X W u s) {g : Array GenState} (hg : AllBare g) : XE X W u { s with gens := g } := by
  obtain ⟨a, B, s1, p, σ, H, c, d, h1, h2, h3, h4, h5, h6, h7, h8, h9⟩ := h
  exact ⟨a, B, s1, p, σ, H, c, d, h1, h2, h3, h4, h5, h6, h7, hg, h9⟩
theorem Cons.next_end {E : XK} (C : Cons X G pins [] O T B H σ s) {A : Around} (hA : G.A = A.in1) (hh : A.handled = none) (hd : A.depth < recursionLimit) (tk : Takes X (fun cls d _ H => E cls d H))
    (hE : ∀ er dd fvs, G.oe = some er → H dd = none → RvF X.K (fun _ => none) fvs er.fs → E (.ref er.C) (some dd) (upd H dd (.xd fvs))) (lw : ∀ a, LD s a → a < s.heap.objs.size) :
    wpAny (M0 X.prog X.w) A (pyNext (.ref G.a)) (fun r s1 => r = none ∧ G.oe = none ∧ Fz s s1 ∧ (∀ a, LD s1 a → LD s a ∧ ¬ (O a ∧ T a = none)) ∧ ∃ B' H', ExtB B H B' H' ∧ Inv X pins σ H' s1)
      (fun e s1 => ∃ s0, X.xe e s0 ∧ Slq s1 s0 s1 ∧ Fz s s1 ∧ ∀ a, LD s1 a → LD s a ∧ ¬ (O a ∧ T a = none)) s := by
  obtain ⟨gs, k, n⟩ := Gn_iff.mp C.gn
  have go := n s (C.rely lw)
  rw [C.eP, C.ew, hA] at go
  refine wpAny_fz (Fz.refl s) (next_genX hh C.inv.nolimit hd k.gen k.at_ go fun e s1 he fz => ?_)
  obtain ⟨he, rl⟩ := he
  have rl2 : ∀ a, LD (s1.setGen G.g .finished) a → LD s a ∧ ¬ (O a ∧ T a = none) := fun a h => ⟨(rl a h.fin).1.run, (rl a h.fin).2⟩
  rcases he with ⟨rfl, ho, O', T', gu⟩ | ⟨x, rfl, cx, ig⟩
  · obtain ⟨B', H', I', ex, _, _⟩ := C.gu (sr := s.setGen G.g .running) rfl rfl gu
    exact .inr (.inl ⟨rfl, fun h' hk fz' => ⟨rfl, ho, fz', rl2, B', H', ex, I'.grown rfl hk (allBare_setGen gu.bare rfl)⟩⟩)
  · have bx : AllBare (s1.setGen G.g .finished).gens := (fz.trans .set).bare C.inv.bare
    refine .inr (.inr ⟨x, rfl, ig, ?_, fun fz' => ⟨asleep (s1.setGen G.g .finished), tk _ _ (XE_gens (C.raised cx hE) (asleep_bare bx)), ⟨Sj.of bx, fun _ _ => rfl, asleep_bare bx⟩, fz', rl2⟩⟩)
    have kin : X.K.In s1.heap := by
      refine C.inv.ok.mod.kin.keeps fun b o e => ?_
      obtain ⟨a, Bg, H'', cls, d, rfl, fl, hok, ub, na, os, ag, hT, hE'⟩ := cx
      obtain ⟨e1, e2⟩ := C.inv.bs b o e
      have nT := C.nt e2
      have nfr : b ∉ frs X.stack := fun hb => by
        rcases List.mem_cons.mp (C.inv.stkSub b hb) with z | z
        · have z4 := Heap.lt_size e
          rw [z] at z4
          exact absurd (Nat.lt_of_lt_of_le z4 (Nat.le_trans C.inv.ok.bsz C.inv.ok.above)) (Nat.lt_irrefl _)
        · exact C.inv.ok.nofr e z
      by_cases l : b < G.n0
      · exact fl.1 b o (ub.keep b o (trH_get.mpr ⟨l, e1⟩) (Zt_none nT (.inl l)) (by rw [C.eo]; exact nfr))
      · refine fl.1 b o (hok b _ (ub.frzs b o _ (Zt_frz nT (Nat.le_of_not_lt l) (fun z => ?_) e1))).1
        obtain ⟨_, f1, f2, f3, f4, f5⟩ := C.fp b (.inr ⟨z, nT⟩)
        rcases f3 with f3 | f3
        · exact C.inv.ok.noex b o e f3
        · have z3 := C.inv.ok.bsz
          have z4 := Heap.lt_size e
          have z5 : X.s_0.heap.objs.size ≤ b := f3
          have z6 : (b : Nat) < X.base.objs.size := z4
          exact absurd (Nat.lt_of_lt_of_le z6 (Nat.le_trans z3 z5)) (Nat.lt_irrefl _)
    rw [C.eP, C.ew, C.eE] at cx
    exact notStop0 noStop_erG kin cx
end
/-! ### code that leaves the sleepers -/
theorem CX_gens {P : Program} {w : World} {outer : List Env} {H : Hp} {s : Shared} {E : XK} {u : Value} {s' : Shared} (h : L2.CX P w outer H s E u s') {g : Array GenState} (hg : AllBare s'.gens → AllBare g) : L2.CX P w outer H s E u { s' with gens := g } := by
  obtain ⟨a, B, H', cls, d, h1, h2, h3, h4, h5, h6, h7, h8⟩ := h
  exact ⟨a, B, H', cls, d, h1, h2, h3, h4, h5, h6, hg h7, h8⟩
section
variable {X : Cx} {G : Gst} {pins : List (Addr × Obj)} {its : List D} {O : Ow} {T B H : Hp} {σ : L2.St} {s s1 : Shared}
theorem Cons.asleep (C : Cons X G pins its O T B H σ s) : Inv X (pins ++ pinL G.a O T s) σ H (Fs.asleep s) := C.pinned.grown rfl (fun _ _ z => z) (asleep_bare C.inv.bare)
/-- code of the consumer's own, over the quiet machine -/
theorem run_slp0 {α : Type} {t : Sem α} {Q : α → Shared → Prop} (hb : AllBare s.gens) (h : wpAny (model X.prog X.w) X.A t Q X.xe (asleep s)) :
    wpAny (M0 X.prog X.w) X.A t (fun a s2 => ∃ s1, Q a s1 ∧ Slq s s1 s2 ∧ Fz s s2) (fun e s2 => ∃ s1, X.xe e s1 ∧ Slq s s1 s2 ∧ Fz s s2) s :=
  wpAny_fz (Fz.refl s) (wpAny_mono (lift_slp hb h) (fun _ _ ⟨s1, q, sl⟩ fz => ⟨s1, q, sl, fz⟩) fun _ _ ⟨s1, q, sl⟩ fz => ⟨s1, q, sl, fz⟩)
theorem Cons.after0 (C : Cons X G pins its O T B H σ s) (hs : ∃ gs, s.gens[G.g]? = some gs ∧ isSlp gs) {B2 H2 : Hp} {σ2 : L2.St} {s1 s2 : Shared} (I2 : Inv X (pins ++ pinL G.a O T s) σ2 H2 s1) (sl : Slq s s1 s2) (fz : Fz s s2) (bh : Le B2 H2) (bb : ∀ b o, B b = some o → B2 b = some o) (lw : ∀ a, LD s a → a < s.heap.objs.size) :
    Cons X G pins its O T B2 H2 σ2 s2 ∧ ∃ gs, s2.gens[G.g]? = some gs ∧ isSlp gs := by
  obtain ⟨gs, e, h⟩ := hs
  have z := sl.slp e h
  refine ⟨C.kept (sl.inv I2) fz bh bb (fun i x _ q r => ?_) (fun i a q _ _ => sl.ldat q) fun a q => Nat.lt_of_lt_of_le (lw a (sl.ld q)) fz.hp, gs, z, h⟩
  rcases r with r | r
  · subst r
    rw [e] at q
    cases q
    exact z
  · exact sl.slp q r
end
/-! ### data behind a turn -/
theorem ExtB.mem {K : Frag} {B H B' H' : Hp} {μ : List Addr} {m : Me} (ex : ExtB B H B' H') (M : MemOk K B μ m H) : MemOk K B' μ m H' := by
  refine ⟨ex.le, M.len, fun a l => ?_, fun n a x e1 e2 e3 => OO.to (fun b o z => ex.bb b o z) (List.prefix_refl _) (fun o z => ex.hh a o z) (M.at_ n a x e1 e2 e3), M.inj, fun a ps e => ?_⟩
  · have z := M.there l
    cases q : H a with
    | none => exact absurd q z
    | some o => exact ex.nb a o q (M.off a l)
  · cases q : B a with
    | some u =>
      have z := ex.bb a u q
      rw [e] at z
      cases z
      exact M.ntb a ps q
    | none => rcases ex.tu a _ q e with ⟨xs, z⟩ | ⟨xs, z⟩ <;> cases z
theorem ExtB.stp {B H B' H' : Hp} {μ : List Addr} {m : Me} (ex : ExtB B H B' H') : Stp B μ m H B' μ m H' :=
  ⟨fun b o z => ex.bb b o z, List.prefix_refl _, fun a o _ e _ => ex.hh a o e, fun a o n e _ b => ⟨ex.nb a o e b, n⟩⟩
theorem xd_stp {K : Frag} {B : Hp} {μ : List Addr} {m : Me} {H : Hp} (M : MemOk K B μ m H) {dd : Addr} (n : H dd = none) (fvs : List (Str × V)) : Stp B μ m H B μ m (upd H dd (.xd fvs)) ∧ MemOk K B μ m (upd H dd (.xd fvs)) := by
  obtain ⟨nb, nl⟩ := M.none n
  have kp : ∀ b o, b ≠ dd → H b = some o → upd H dd (.xd fvs) b = some o := fun b o c e => by rw [upd_ne c]; exact e
  exact ⟨Stp.refl.touch n kp, M.touch nb nl kp⟩
end Fs
set_option Elab.async false
set_option linter.all false
set_option maxRecDepth 100000
set_option maxHeartbeats 8000000
namespace Fs
open PySem PySem.Spec PyProof.Rows L2
/-- what a generator def promises: its arguments, what it hands out, how it ends -/
abbrev SpG := List W → List D → Option Er → Prop
def ErOk (K : Frag) (oe : Option Er) : Prop := ∀ er, oe = some er → (∀ B fvs, RvF K B fvs er.fs → RvF K (fun _ => none) fvs er.fs) ∧ PySem.W.subIn K (.ref er.C) (.type "StopIteration") = some false
theorem ErOk.none {K : Frag} : ErOk K none := fun _ h => nomatch h
abbrev mkG (P : Program) (w : World) (K : Frag) (mg : Str → Option Value) (base : Heap) (A : Around) (N : List Str) (qual : Str) (scope : Scope) (f : Addr) (cd : Value) (outer : List Env) (n0 : Nat) (pn : List (Addr × Obj)) (a : Addr) (g : Nat) (oe : Option Er) : Gst :=
  { P := P, w := w, K := K, mg := mg, base := base, A := A, N := N, qual := qual, scope := scope, f := f, cd := cd, outer := outer, n0 := n0, E := ErG K oe, pn := pn, a := a, g := g, oe := oe }
/-- what a call of a generator def gives -/
def GMk (n : Nat) (X : Cx) (k : Nat) (pins : List (Addr × Obj)) (its : List D) (oe : Option Er) (B H : Hp) (σ : L2.St) (a : Addr) (s' : Shared) : Prop := ∀ A' : Around, Room k A' → A'.frames = X.A.frames → ∃ (G : Gst) (O : Ow) (T : Hp), G.a = a ∧ G.A = A' ∧ Cons X G pins its O T B H σ s' ∧ G.oe = oe ∧ n ≤ G.g
structure GnOk (P : Program) (w : World) (K : Frag) (mg : Str → Option Value) (base : Heap) (k : Nat) (f : Addr) (fd : FuncData) (ps : List Str) (sp : SpG) : Prop where
  len : ∀ ws its oe, sp ws its oe → ws.length = ps.length
  run : ∀ (X : Cx), X.prog = P → X.w = w → X.K = K → X.mg = mg → X.base = base → ∀ (pins : List (Addr × Obj)) (σ : L2.St) (H : Hp) (s : Shared) (B : Hp) (μ : List Addr) (m : Me) (args : Args) (us : List Value) (vs : List V) (ws : List W) (its : List D) (oe : Option Er),
    Room k X.A → Inv X pins σ H s → MemOk X.K B μ m H → BindsTo s fd args (ps.zip us) → Vals vs us → RWs X.K B μ vs ws → sp ws its oe → (∀ a, LD s a → a < s.heap.objs.size) → codeAny (M0 P w) X.A (.call (.ref f) args) (fun r s' => ∃ a, r = .ok (.ret (.ref a)) ∧ GMk s.gens.size X k pins its oe B H σ a s' ∧ Kp s s') s
theorem GnOk.mono {P : Program} {w : World} {K : Frag} {mg : Str → Option Value} {base : Heap} {j k : Nat} {f : Addr} {fd : FuncData} {ps : List Str} {sp : SpG} (F : GnOk P w K mg base j f fd ps sp) (h : j ≤ k) : GnOk P w K mg base k f fd ps sp :=
  ⟨F.len, fun X e1 e2 e3 e4 e5 pins σ H s B μ m args us vs ws its oe hr I M hb hv hw hs lw => codeAny_mono (F.run X e1 e2 e3 e4 e5 pins σ H s B μ m args us vs ws its oe (hr.mono h) I M hb hv hw hs lw) fun r s' ⟨a, e, q, kp⟩ => ⟨a, e, fun A' hA => q A' (hA.mono h), kp⟩⟩
/-- the end of a generator's body -/
def endN (oe : Option Er) : NG := ⟨fun _ its => its = [] ∧ oe = none, fun its => its = [] ∧ oe = none, fun _ _ => False, fun _ _ => False, fun er => oe = some er⟩
theorem RWs.lt {K : Frag} {B : Hp} {μ : List Addr} : ∀ {vs : List V} {ws : List W}, RWs K B μ vs ws → (∀ w ∈ ws, ∃ d, w = .v d ∧ LTD d) → RWs K (ltB B) [] vs ws
  | _, _, .nil, _ => .nil
  | _, _, .cons (w := x) h t, l => by
    obtain ⟨d, rfl, ld⟩ := l x List.mem_cons_self
    exact .cons (RW.d (Rv.lt h ld)) (t.lt fun w hw => l w (List.mem_cons_of_mem _ hw))
theorem startE_lt {N : List Str} {ws : List W} (l : ∀ w ∈ ws, ∃ d, w = .v d ∧ LTD d) : EnLT (startE N ws) := fun i x e => by
  unfold startE at e
  by_cases c : i < ws.length
  · rw [List.getElem?_append_left (by simpa using c), List.getElem?_map] at e
    cases q : ws[i]? with
    | none => rw [q] at e; cases e
    | some w =>
      rw [q] at e
      cases e
      exact l x (List.mem_of_getElem? q)
  · rw [List.getElem?_append_right (by simpa using Nat.le_of_not_lt c), List.getElem?_replicate] at e
    split at e <;> cases e
/-- it begins -/
theorem gen_body {G : Gst} {T : Hp} {O : Ow} {sw : Shared} {B : Hp} {en : En} {σ : L2.St} {H : Hp} {its : List D} {body : List Stmt} {t : DGT} (R : Run G O T sw [] B en σ H sw) (rl : Rl O T sw sw) (el : EnLT en) (eE : G.E = ErG G.K G.oe) (ok : ErOk G.K G.oe) (hb : GSs G body t) (ht : t en its (endN G.oe)) :
    SegX (M0 G.P G.w) G.A (Phi G its O T sw) (.func body G.env) ((M0 G.P G.w).den (.func body G.env)) [] sw := by
  have ov : G.A.over (.func body G.env) [] = G.A.deeper G.env := GenW.over_func
  refine segx_func (hb.run O T sw [] (fun _ => none) B en σ H sw its _ [] _ _ id id (endN G.oe) ⟨ov, rfl, rfl, rfl, rfl⟩ ⟨?_, ?_, ?_, ?_, ?_⟩ ?_ R rl (fun _ _ z => by cases z) el ht)
  · intro O T sw B en σ H s its R rl _ _ ⟨e1, e2⟩
    subst e1
    exact segx_end (.ok (.ret .none)) ⟨.inl ⟨rfl, e2, _, _, R.gu⟩, rl⟩
  · exact fun _ _ _ _ _ _ _ _ _ _ _ _ _ h => h.elim
  · exact fun _ _ _ _ _ _ _ _ _ _ _ _ _ h => h.elim
  · intro O T sw B en σ H s its R rl _ ⟨e1, e2⟩
    subst e1
    exact segx_end (.ok (.ret .none)) ⟨.inl ⟨rfl, e2, _, _, R.gu⟩, rl⟩
  · intro O T sw its e sx s0 s' ga an hx sl rl
    refine segx_wrap ?_
    rw [ov]
    have hx : wpAny (model G.P G.w) (G.A.deeper G.env) (leaving G.env e) (fun _ s'' => L2.CX G.P G.w G.outer (Zt G.n0 T O sw.heap) { sw with heap := trH G.n0 sw.heap } (fun c d H => its = [] ∧ Le T H ∧ G.E c d H) e s'' ∧ ∀ p ∈ G.pn, s''.heap.get? p.1 = some p.2) (fun _ _ => False) s0 := hx
    refine wpAny_mono (lift_slq sl hx) (fun _ s'' ⟨s1, q0, sl2⟩ => ?_) fun _ s'' ⟨s1, q, _⟩ => q.elim
    have rl2 : Rl O T sw s'' := fun a h => rl a (sl.ld2 sl2 h)
    have q1 := CX_gens q0.1 (g := s''.gens) sl2.bare
    rw [← sl2.eq] at q1
    obtain ⟨a, B, H', cls, d, h1, h2, h3, h4, h5, h6, h7, e1, h8⟩ := q1
    subst e1
    refine segx_end (.error e) ⟨.inr ⟨e, rfl, ⟨a, B, H', cls, d, h1, h2, h3, h4, h5, h6, h7, h8⟩, ?_⟩, rl2⟩
    obtain ⟨o, nm, qn, ho, r⟩ := ga
    have z := h4.frzs G.a _ _ (Zt_frz an.2.2 an.1 an.2.1 ho)
    exact ⟨o, nm, qn, h2.1 _ _ (h3 _ _ z).1, r⟩
  · intro er he B' H' dd fvs le hd rf
    rw [eE]
    exact ⟨er, dd, fvs, he, rfl, rfl, hd, (ok er he).1 B' fvs rf, (ok er he).2⟩
/-- THE RULE: a generator def, by its body -/
theorem gn_of {P : Program} {w : World} {K : Frag} {mg : Str → Option Value} {base : Heap} {k : Nat} {x qual : Str} {params : Arguments} {body : List Stmt} {scope : Scope} {dvs : List V} {kws : List (Str × V)} {f : Addr} {fd : FuncData} {N ps : List Str} {sp : SpG}
    (F : FunD K x qual params body scope dvs kws f fd) (S : GScope N ps scope) (len : ∀ ws its oe, sp ws its oe → ws.length = ps.length) (lt : ∀ ws its oe, sp ws its oe → ∀ w ∈ ws, ∃ d, w = .v d ∧ LTD d) (ok : ∀ ws its oe, sp ws its oe → ErOk K oe)
    (hbody : ∀ (cdv : Value) (A : Around) (outer : List Env) (n0 : Nat) (pn : List (Addr × Obj)) (a : Addr) (g : Nat) (ws : List W) (its : List D) (oe : Option Er), Room k (A.deeper (envOfC qual scope n0 f cdv)) → sp ws its oe →
      ∃ t, GSs (mkG P w K mg base A N qual scope f cdv outer n0 pn a g oe) body t ∧ t (startE N ws) its (endN oe)) (hnc : ∀ n, cellsFrom n scope.names [] = []) : GnOk P w K mg base (k + 1) f fd ps sp := by
  obtain ⟨oc, od, dV, kV, doc, pm, an, cdv, ct, osl, rfl, lk, hcd, _, _⟩ := F.ex
  refine ⟨len, fun X e1 e2 e3 e4 e5 pins σ H s B μ m args us vs ws its oe hr I M hb r rw hsp lw => ?_⟩
  subst e1 e2 e3 e4 e5
  have hl : vs.length = ps.length := by rw [rw.len]; exact len _ _ _ hsp
  have e0 := I.env0
  have KX : X.K.In s.heap := I.kIn
  have lim : s.heap.NoLimit := I.nolimit
  have hkind : ∀ y ∈ ps.zip us, scope.names.lookup y.1 = some .local ∨ (scope.names.lookup y.1 = some .cell ∧ ((cellsFrom (s.heap.objs.size + 1) scope.names []).lookup y.1).isSome = true) := fun ⟨n, v⟩ hy => by
    rcases S.par n (List.of_mem_zip hy).1 with q | q
    · exact .inl q
    · exact .inr ⟨q, PySem.W.cellsFrom_some _ _ _ (.inl q)⟩
  refine code_callgen0 hr.depth (KX _ _ lk) rfl S.co S.gen rfl (PySem.W.codeRec_of KX hcd) (hb _ _ _ _ ?_)
  refine wpAny_newFunctionEnv_cells S.kind hkind fun env he s1 x => ?_
  subst he
  have lim1 : s1.heap.NoLimit := lim.keeps x.toInCall.keep
  refine ⟨lim1, ?_⟩
  obtain ⟨h1, tk, es1, hk1⟩ := x.done
  have os1 : s1.os = s.os := by rw [es1]
  have gen1 : s1.gens = s.gens := by rw [es1]
  have lt1 : s.heap.objs.size < s1.heap.objs.size := x.toInCall.ns.lt
  have kp1 : ∀ b o, s.heap.get? b = some o → s1.heap.get? b = some o := x.toInCall.keep
  have main : ∀ (go : Obj) (nm qn : Value) (tk2 : Nat), go.cls = .type "generator" → go.data = .fields #[.int s1.gens.size 0, nm, qn] → go.slots = #[] → (∀ h : Heap, (h.push go).get? h.objs.size = some go) →
      GMk s.gens.size X (k + 1) pins its oe B H σ s1.heap.objs.size { s1 with gens := s1.gens.push (.fresh (.func body (envOfC qual scope s.heap.objs.size f cdv))), toks := tk2, heap := s1.heap.push go } ∧ Kp s { s1 with gens := s1.gens.push (.fresh (.func body (envOfC qual scope s.heap.objs.size f cdv))), toks := tk2, heap := s1.heap.push go } := by
    intro go nm qn tk2 hgc hgd0 hgs hgp
    refine ⟨fun A' hrA hfA => ?_, Kp.push (c := .func body (envOfC qual scope s.heap.objs.size f cdv)) (by rw [← gen1])⟩
    have e0A : Env0 X.prog X.w X.K X.mg X.base A' X.stack s H := ⟨hfA.trans e0.frames, e0.mod, e0.bs, e0.bsz, e0.funs, e0.frf, e0.hok, e0.bare⟩
    generalize hs' : ({ s1 with gens := s1.gens.push (.fresh (.func body (envOfC qual scope s.heap.objs.size f cdv))), toks := tk2, heap := s1.heap.push go } : Shared) = s'
    have hp' : s'.heap = s1.heap.push go := by rw [← hs']
    have gn' : s'.gens = s1.gens.push (.fresh (.func body (envOfC qual scope s.heap.objs.size f cdv))) := by rw [← hs']
    have os' : s'.os = s1.os := by rw [← hs']
    have kp' : Kp s s' := Kp.push (c := .func body (envOfC qual scope s.heap.objs.size f cdv)) (by rw [gn', gen1])
    have lw0 : ∀ a, LD s' a → a < s.heap.objs.size := fun a h => lw a (kp'.LD h)
    have bare' : AllBare s'.gens := by rw [gn', gen1]; exact AllBare.push e0.bare rfl
    have ga : s'.heap.get? s1.heap.objs.size = some go := by rw [hp']; exact hgp _
    have gac : ∀ v, go.data ≠ .cell v := fun v z => by rw [hgd0] at z; cases z
    have kp2 : ∀ b o, s1.heap.get? b = some o → s'.heap.get? b = some o := fun b o e => by rw [hp']; exact Heap.get?_push_of_some _ e
    have kp : ∀ b o, s.heap.get? b = some o → s'.heap.get? b = some o := fun b o e => kp2 b o (kp1 b o e)
    have sz' : s.heap.objs.size < s'.heap.objs.size := by rw [hp', Heap.size_push]; exact Nat.lt_succ_of_lt lt1
    have I1 : Inv (gcxOf X.prog X.w X.K X.mg X.base N qual scope f cdv A' X.stack s H (ErG X.K oe) []) [] (start N vs) H s' := (inv_startG S hrA.hd e0A hl r x).grown os' kp2 bare'
    let G : Gst := mkG X.prog X.w X.K X.mg X.base A' N qual scope f cdv X.stack s.heap.objs.size [] s1.heap.objs.size s1.gens.size oe
    let O : Ow := fun b => s.heap.objs.size ≤ b ∧ Ob s'.heap b ∧ b ≠ s1.heap.objs.size
    have Tn : ∀ b, s.heap.objs.size ≤ b → ltB B b = none := fun b hb => by
      cases q : ltB B b with
      | none => rfl
      | some u =>
        have z := M.le b u (ltB_some q).1
        rw [I.hok.fresh hb] at z
        cases z
    have Tl : ∀ b, H b = none → ltB B b = none := fun b hb => by
      cases q : ltB B b with
      | none => rfl
      | some u =>
        have z := M.le b u (ltB_some q).1
        rw [hb] at z
        cases z
    have On : O s.heap.objs.size := by
      obtain ⟨m, ⟨ol, es, ep, hol, hdl, hrl⟩, hl⟩ := I1.loc
      exact ⟨Nat.le_refl _, ⟨ol, hol, fun v z => by rw [hdl] at z; cases z⟩, Nat.ne_of_lt lt1⟩
    have Oa : ¬ O s1.heap.objs.size := fun h => h.2.2 rfl
    have gg : IsGn s'.heap s1.heap.objs.size s1.gens.size := ⟨go, nm, qn, ga, hgc, hgd0, .inl hgs⟩
    have cn : ∀ y, (envOfC qual scope s.heap.objs.size f cdv).cells.lookup y = none := fun y => by
      show (cellsFrom (s.heap.objs.size + 1) scope.names []).lookup y = none
      rw [hnc]
      rfl
    have hokT : HOk X.prog X.w (ltB B) s'.heap := fun b o e => objOk_lt_keep (ltB_some e).2 (I.hok b o (M.le b o (ltB_some e).1)) kp
    have bsz := e0.bsz
    have frs' : ∀ b ∈ frs X.stack, b < s.heap.objs.size ∧ H b = none := fun b hb => by
      obtain ⟨_, o, ho, _⟩ := e0.funs.mem hb
      exact ⟨Heap.lt_size ho, e0.frf b hb⟩
    have okG : (Gx G s' (Zt s.heap.objs.size (ltB B) O s'.heap)).Ok := {
      mod := I1.ok.mod
      kind := I1.ok.kind
      glob := rfl
      blt := rfl
      above := by show (trH s.heap.objs.size s'.heap).objs.size ≤ s.heap.objs.size; rw [trH_size]; exact Nat.min_le_left _ _
      inj := I1.ok.inj
      has := I1.ok.has
      cab := fun x c _ e => by
        have z := cn x
        rw [show (envOfC qual scope s.heap.objs.size f cdv).cells.lookup x = some c from e] at z
        cases z
      hd := I1.ok.hd
      frames := I1.ok.frames
      stk := I1.ok.stk
      exf := fun b z => nomatch z
      bs := fun b o e => ⟨trH_get.mpr ⟨Nat.lt_of_lt_of_le (Heap.lt_size e) bsz, kp b o (e0.bs b o e).1⟩, Zt_none (Tl b (e0.bs b o e).2) (.inl (Nat.lt_of_lt_of_le (Heap.lt_size e) bsz))⟩
      bsz := by
        show X.base.objs.size ≤ (trH s.heap.objs.size s'.heap).objs.size
        rw [trH_size]
        omega
      noex := fun b o _ z => nomatch z
      exfs := fun b z => nomatch z
      funs := Heap.FunFrames.of_keeps (fun b o e _ => ⟨o, trH_get.mpr ⟨Heap.lt_size e, kp b o e⟩, rfl⟩) e0.funs
      frf := fun b h => Zt_none (Tl b (frs' b h).2) (.inl (frs' b h).1) }
    have IG : Inv (Gx G s' (Zt s.heap.objs.size (ltB B) O s'.heap)) [] (start N vs) (Zt s.heap.objs.size (ltB B) O s'.heap) s' := by
      refine ⟨okG, rfl, bare', ⟨fun b o e _ _ _ => (trH_get.mp e).2, fun b o e _ _ _ => ⟨o.slots, (trH_get.mp e).2⟩, fun b o e n _ => n, fun b o e _ => ⟨o, (trH_get.mp e).2⟩, fun b xs e => e, fun b o u e => e, fun b ps e => ⟨#[], (show Zt s.heap.objs.size (ltB B) O s'.heap b = some (.tbl (ps ++ #[])) by rw [show Zt s.heap.objs.size (ltB B) O s'.heap b = some (.tbl ps) from e]; simp)⟩⟩,
        I1.loc, fun y c e => ?_, Zt_none (Tn _ (Nat.le_refl _)) (.inr (.inl On)), fun y c e => ?_, fun p hp => ?_, fun b o e => ?_, I1.len⟩
      · have z := cn y
        rw [show (envOfC qual scope s.heap.objs.size f cdv).cells.lookup y = some c from e] at z
        cases z
      · have z := cn y
        rw [show (envOfC qual scope s.heap.objs.size f cdv).cells.lookup y = some c from e] at z
        cases z
      · exact absurd (show p ∈ ([] : List (Addr × Obj)) ++ [] from hp) (by simp)
      · rcases Zt_some e with z | ⟨_, _, _, o', e', z⟩
        · exact objOk_lt (ltB_some z).2 (hokT b o z)
        · subst z
          exact ⟨e', e', ⟨o', e'⟩, fun h1 h2 z k => k _ z⟩
    have hR : Run G O (ltB B) s' [] (ltB B) (startE N ws) (start N vs) (Zt s.heap.objs.size (ltB B) O s'.heap) s' := by
      refine ⟨IG, startE_rel ⟨fun b o e => Zt_T e, rfl, fun a ⟨n, m, e, _⟩ => by simp at e, fun n a m e => by simp at e, fun n k a m m' e => by simp at e, fun b ps e => by rcases (ltB_some e).2 with ⟨xs, z⟩ | ⟨xs, z⟩ <;> cases z⟩ (rw.lt (lt _ _ _ hsp)), .refl _, fun b o e => (ltB_some e).2, fun _ _ e => e, fun p hp => absurd (show p ∈ ([] : List (Addr × Obj)) ++ [] from hp) (by simp), On, fun b h => ⟨h.1, h.2.1⟩, cn, ?_, gg, ⟨Nat.le_of_lt lt1, Oa, Tn _ (Nat.le_of_lt lt1)⟩, fun a h => Nat.lt_trans (lw0 a h) sz'⟩
      · show s1.gens.size < s'.gens.size
        rw [gn', Array.size_push]
        exact Nat.lt_succ_self _
    have eO : ownB s.heap.objs.size O s' s' = O := funext fun b => propext ⟨fun h => ⟨h.1, h.2.1, fun z => by
      rcases h.2.2 with q | q
      · exact q.2.2 z
      · exact absurd (Nat.lt_of_lt_of_le h.2.1.lt q) (Nat.lt_irrefl _)⟩, fun h => ⟨h.1, h.2.1, .inl h⟩⟩
    obtain ⟨t, hbt, ht⟩ := hbody cdv A' X.stack s.heap.objs.size [] s1.heap.objs.size s1.gens.size ws its oe (hrA.deeper _) hsp
    have at_ : s'.gens[s1.gens.size]? = some (.fresh (.func body (envOfC qual scope s.heap.objs.size f cdv))) := by rw [gn']; exact Array.getElem?_push_size ..
    have gn : Gn G its O (ltB B) s' := by
      refine Gn_iff.mpr ⟨.fresh (.func body (envOfC qual scope s.heap.objs.size f cdv)), ⟨gg, at_, Oa, Tn _ (Nat.le_of_lt lt1), Nat.le_of_lt lt1, fun b h => ⟨h.1, h.2.1⟩, fun b o e => (ltB_some e).2⟩, fun s2 rl => ?_⟩
      have lt2 : s1.gens.size < s2.gens.size := (Array.getElem?_eq_some_iff.mp (rl.slp s1.gens.size _ (Nat.le_refl _) at_ (.inl rfl))).1
      have R2 := hR.woken (sY := s') (s1 := s2) (s2 := s2.setGen s1.gens.size .running) rfl rfl (fun a h => rl.lw a h.run) (allBare_setGen rl.bare rfl) (by rw [GenW.setGen_size]; exact lt2) (by
        show Rely G (ownB s.heap.objs.size O s' s') (ltB B) s' s2
        rw [eO]
        exact rl)
      have R2 : Run G (ownB s.heap.objs.size O s' s') (ltB B) (s2.setGen s1.gens.size .running) [] (ltB B) (startE N ws) (start N vs) _ (s2.setGen s1.gens.size .running) := R2
      rw [eO] at R2
      refine gen_body R2 (fun a h => ⟨h, fun hO => ?_⟩) (startE_lt (lt _ _ _ hsp)) rfl (ok _ _ _ hsp) hbt ht
      obtain ⟨i, h⟩ := h
      obtain ⟨ne, h⟩ := h.set fun _ _ _ _ _ _ z => by cases z
      exact absurd (lw0 a ⟨i, h.of (rl.ld i a h hO.1 hO.2).symm⟩) (Nat.not_lt_of_le hO.1.1)
    exact ⟨G, O, ltB B, rfl, rfl, ⟨I.grown (os'.trans os1) kp bare', gn, rfl, rfl, rfl, rfl, rfl, rfl, fun b hb => (frs' b hb).1, M.le, fun b o e => (ltB_some e).1, fun b h => by
      have hb : s.heap.objs.size ≤ b := by
        rcases h with rfl | h
        · exact Nat.le_of_lt lt1
        · exact h.1.1
      exact I.fpOk hb (I.hok.fresh hb)⟩, rfl, by show s.gens.size ≤ s1.gens.size; rw [gen1]; exact Nat.le_refl _⟩
  exact ⟨_, rfl, main _ _ _ _ rfl rfl rfl fun h => Heap.get?_push_size _ rfl⟩
end Fs
set_option Elab.async false
set_option linter.all false
set_option maxRecDepth 100000
set_option maxHeartbeats 8000000
namespace Fs
open PySem PySem.Spec PyProof.Rows L2
def sGL (g : DTG) (tb : DGT) : List D → DGT
  | [] => fun en its N => N.nx en its
  | d :: ds => fun en its N => g (.v d) en [] fun en1 m1 => m1 = [] ∧ EnLT en1 ∧ tb en1 its { N with nx := fun en2 its2 => sGL g tb ds en2 its2 N, ct := fun en2 its2 => sGL g tb ds en2 its2 N, bk := N.nx }
def tGFor (te : DTE) (g : DTG) (tb : DGT) : DGT := fun en its N => te en [] (fun x m => m = [] ∧ ∃ ds, x = .v (.lst ds) ∧ LTDs ds ∧ sGL g tb ds en its N) (fun er _ => its = [] ∧ N.xc er)
/-- the frame of a loop's call -/
abbrev lpF (env : Env) (K : Flow → Sem PySem.Fin) (J : Value → Sem PySem.Fin) (gd : Bool → Bool) (lv : List Value → List Value) (l : List Value) (c : Code) (p : Pos) : Frame :=
  .ret (fun r => ((match r with | .ok f => (.pure f : Sem Flow) | .error e => .raise e).onRaise (cameBack env)).wrap K J gd lv) none (gd false) l c p []
section
variable {G : Gst} {O : Ow} {T : Hp} {sw s : Shared} {pins ps : List (Addr × Obj)} {B Bk H : Hp} {en : En} {σ : L2.St}
/-- nothing but the state has moved -/
theorem Run.same (R : Run G O T sw pins B en σ H s) {E : XK} {s' : Shared} (I : Inv (Gx (G.se E) sw (Zt G.n0 T O sw.heap)) pins σ H s') (fz : Fz sw s') : Run G O T sw pins B en σ H s' :=
  ⟨Inv.se (G := G) (E := E) (E' := G.E) I, R.rel, fz, R.bt, R.tb, R.pm, R.ol, R.ob, R.nc, R.gw, R.ga, R.an, R.lw⟩
theorem Run.unpin (R : Run G O T sw (pins ++ ps) B en σ H s) : Run G O T sw pins B en σ H s :=
  ⟨R.inv.unpinned, R.rel, R.fz, R.bt, R.tb, fun p hp => R.pm p (by rcases List.mem_append.mp hp with h | h; exact List.mem_append_left _ h; exact List.mem_append_right _ (List.mem_append_left _ h)), R.ol, R.ob, R.nc, R.gw, R.ga, R.an, R.lw⟩
theorem Run.pin (R : Run G O T sw pins B en σ H s) {fp : List Addr} (h : ∀ b ∈ fp, FpOk (Gx G sw (Zt G.n0 T O sw.heap)) pins H b) (ho : ∀ b ∈ fp, Ob s.heap b) : Run G O T sw (pins ++ pinsAt fp s.heap) B en σ H s := by
  refine ⟨R.inv.pinned h ho, R.rel, R.fz, R.bt, R.tb, fun p hp => ?_, R.ol, R.ob, R.nc, R.gw, R.ga, R.an, R.lw⟩
  rw [← List.append_assoc] at hp
  rcases List.mem_append.mp hp with z | z
  · exact R.pm p z
  · have q := (of_pinsAt z).1
    obtain ⟨_, _, _, f3, _⟩ := h p.1 q
    rcases f3 with f3 | f3
    · cases f3
    · have e : (trH G.n0 sw.heap).objs.size ≤ p.1 := f3
      rw [trH_size] at e
      have := R.n0w
      omega
/-- what is pinned may turn again -/
theorem Run.fp (R : Run G O T sw (pins ++ ps) B en σ H s) {p : Addr × Obj} (hp : p ∈ ps) (ne : ∀ q ∈ G.pn ++ pins, q.1 ≠ p.1) : FpOk (Gx G sw (Zt G.n0 T O sw.heap)) pins H p.1 ∧ s.heap.get? p.1 = some p.2 := by
  have hm : p ∈ G.pn ++ (pins ++ ps) := List.mem_append_right _ (List.mem_append_right _ hp)
  obtain ⟨h1, h2, h3, h4, h5⟩ := R.inv.pin p hm
  refine ⟨⟨h2, h3, h4, .inr ?_, fun x c e => ?_, ne⟩, h1⟩
  · show (trH G.n0 sw.heap).objs.size ≤ p.1
    rw [trH_size]
    exact Nat.le_trans (Nat.min_le_left _ _) (R.pm p hm)
  · have z := R.nc x
    rw [show G.env.cells.lookup x = some c from e] at z
    cases z
variable {c cF : Code} {fs : List Frame} {K : Flow → Sem PySem.Fin} {J : Value → Sem PySem.Fin} {gd : Bool → Bool} {lv : List Value → List Value} {l : List Value} {p : Pos} {N : NG}
/-- an exception leaves a loop -/
theorem GKont.noted (k : GKont G pins Bk c fs K J N) (gc : GCx G c fs gd) (hov : G.A.over cF (lpF G.env K J gd lv l c p :: fs) = G.A.deeper G.env) {its : List D} {e : Value} {sx s0 s' : Shared} (ga : IsGn sw.heap G.a G.g) (an : G.n0 ≤ G.a ∧ ¬ O G.a ∧ T G.a = none)
    (hx : (Gx (G.wE its T) sw (Zt G.n0 T O sw.heap)).xe e s0) (sl : Slq sx s0 s') (rl : Rl O T sw s') : SegX (M0 G.P G.w) G.A (Phi G its O T sw) cF (notedX G.env e) (lpF G.env K J gd lv l c p :: fs) s' := by
  have h1 := ownsG (G := G.wE its T) e s0 hx
  have out : ∀ (x : Value) (s1 s2 : Shared), cameBackBy (model G.P G.w) (G.A.deeper G.env) G.env (Gx (G.wE its T) sw (Zt G.n0 T O sw.heap)).xe x s2 → Slq sx s2 s1 → SegX (M0 G.P G.w) G.A (Phi G its O T sw) cF (.raise x) (lpF G.env K J gd lv l c p :: fs) s1 := fun x s1 s2 h2 sl2 => by
    refine segx_leaf (.error x) ?_
    show SegX _ _ _ c (((.raise x : Sem Flow).onRaise (cameBack G.env)).wrap K J gd lv) fs s1
    rw [Sem.onRaise_eq_wrap]
    show SegX _ _ _ c (((cameBack G.env x).bind fun _ => (.raise x : Sem Flow)).wrap K J gd lv) fs s1
    refine segx_bind_wrap ?_
    rw [gc.over]
    refine wpAny_mono (lift_slq sl2 (show wpAny (model G.P G.w) (G.A.deeper G.env) (cameBack G.env x) _ _ s2 from h2)) (fun _ s3 ⟨s4, h4, sl4⟩ => ?_) fun y s3 ⟨s4, h4, sl4⟩ => ?_
    · exact k.xc O T sw its x _ s4 s3 ga an h4 sl4 fun a h => rl a (sl.ld2 sl4 h)
    · exact k.xc O T sw its y _ s4 s3 ga an h4 sl4 fun a h => rl a (sl.ld2 sl4 h)
  unfold notedX
  refine segx_wrap ?_
  rw [hov]
  refine wpAny_bind (wpAny_mono (lift_slq sl (show wpAny (model G.P G.w) (G.A.deeper G.env) (noteFrame e G.env) (fun _ s'' => cameBackBy _ _ _ _ e s'') _ s0 from h1)) (fun _ s1 ⟨s2, h2, sl2⟩ => ?_) fun x s1 ⟨s2, h2, sl2⟩ => out x s1 s2 h2 sl2)
  exact wpAny_theTreesLotGoes (out e s1 s2 h2 sl2)
end
section
variable {G : Gst} {tg iter : Expr} {body : List Stmt} {te : DTE} {g : DTG} {is : List Nat} {tb : DGT} {pos : Pos}
theorem gs_loop (hg : ∀ E s Z, DG (Gx (G.se E) s Z) tg is g) (hb : GSs G body tb) {pins : List (Addr × Obj)} {c : Code} {fs : List Frame} {K : Flow → Sem PySem.Fin} {J : Value → Sem PySem.Fin} {gd : Bool → Bool} {lv : List Value → List Value} {l : List Value} {p : Pos} {N : NG} {Bk : Hp}
    (gc : GCx G c fs gd) (k : GKont G pins Bk c fs K J N) (hx : ExG G N.xc) {a it : Addr} {vs : List V} {xs : List D} (lt : LTDs xs) (hne : ∀ q ∈ G.pn ++ pins, q.1 ≠ it) :
    ∀ (rest : List D) (i : Nat) (O : Ow) (T : Hp) (sw : Shared) (B : Hp) (en : En) (σ : L2.St) (H : Hp) (s : Shared) (its : List D), xs.drop i = rest → i ≤ xs.length → Run G O T sw pins B en σ H s → Rl O T sw s → Same Bk B → B a = some (.lst vs) → RvL G.K B vs xs → EnLT en →
      FpOk (Gx G sw (Zt G.n0 T O sw.heap)) pins H it → s.heap.IsListIter it a i → sGL g tb rest en its N →
      SegX (M0 G.P G.w) G.A (Phi G its O T sw) (.forLoop tg (.ref it) body [] G.env) ((M0 G.P G.w).den (.forLoop tg (.ref it) body [] G.env)) (lpF G.env K J gd lv l c p :: fs) s := by
  have hov : G.A.over (.forLoop tg (.ref it) body [] G.env) (lpF G.env K J gd lv l c p :: fs) = G.A.deeper G.env := by
    rw [← gc.over]
    exact GenW.over_loop rfl rfl
  have tu : ∀ {E : XK} {sw : Shared} {Z : Hp}, Turn (Gx (G.se E) sw Z).prog (Gx (G.se E) sw Z).w (Gx (G.se E) sw Z).K tg (Itl G.K a) [it] it (fun i h => h.IsListIter it a i) := turn_list a it
  intro rest
  induction rest with
  | nil =>
    intro i O T sw B en σ H s its hd hi R rl hB ha rv el fp li ht
    have I := Inv.se (G := G) (E := G.E) (E' := (G.wE its T).E) R.inv
    have hl : i = xs.length := by
      have z := congrArg List.length hd
      rw [List.length_drop] at z
      simp at z
      omega
    refine segx_forLoop ?_
    rw [hov]
    have w := tu.done (Gx (G.wE its T) sw (Zt G.n0 T O sw.heap)) rfl rfl rfl rfl i pins (asleep s) σ H (fun _ _ => False) I.asl (fun b hb => by rw [List.mem_singleton.mp hb]; exact fp) li ⟨vs, .inl (.inl (R.le a _ ha)), by rw [rv.len]; omega⟩
    refine wpAny_fz R.fz (wpAny_mono (lift_slp R.inv.bare w) (fun r s1 ⟨s0, ⟨er, I1⟩, sl⟩ fz => ?_) fun x s' ⟨s0, hx', sl⟩ _ => hx'.elim)
    subst er
    refine segx_leaf (.ok .next) ?_
    exact k.nx O T sw B en σ H s1 its (R.same (sl.inv I1) fz) (sl.rl rl) hB el ht
  | cons d ds ih =>
    intro i O T sw B en σ H s its hd hi R rl hB ha rv el fp li ht
    have I := Inv.se (G := G) (E := G.E) (E' := (G.wE its T).E) R.inv
    have hl : i < xs.length := by
      have z := congrArg List.length hd
      rw [List.length_drop] at z
      simp at z
      omega
    have ed : xs[i]? = some d := by
      have z : (xs.drop i)[0]? = some d := by rw [hd]; rfl
      rw [List.getElem?_drop] at z
      simpa using z
    have eds : xs.drop (i + 1) = ds := by
      have z := congrArg List.tail hd
      rw [List.tail_drop] at z
      simpa using z
    obtain ⟨x, ex, rx⟩ := rv.at ed
    refine segx_forLoop ?_
    rw [hov]
    have sq : SqL G.K H a vs := .inl (.inl (R.le a _ ha))
    have w := tu.item (Gx (G.wE its T) sw (Zt G.n0 T O sw.heap)) rfl rfl rfl rfl i pins (asleep s) σ H (fun _ _ => False) I.asl (fun b hb => by rw [List.mem_singleton.mp hb]; exact fp) li ⟨vs, x, sq, ex⟩
    refine wpAny_fz R.fz (wpAny_mono (lift_slp R.inv.bare w) (fun r s1 ⟨s0, ⟨u, er, w1⟩, sl⟩ fz => ?_) fun x s' ⟨s0, hx', sl⟩ _ => hx'.elim)
    subst er
    refine wpAny_fz fz (wpAny_mono (lift_slq sl w1) (fun _ s2 ⟨s3, ⟨y, H1, I3, ry, ⟨e1, hy⟩, li3, _⟩, sl2⟩ fz2 => ?_) fun x s' ⟨s0, hx', sl⟩ _ => hx'.elim)
    subst e1
    have exy : x = y := by
      have z := hy vs sq
      rw [ex] at z
      exact Option.some.inj z
    subst exy
    obtain ⟨t0, p0, q0⟩ := (hg (G.wE its T).E sw (Zt G.n0 T O sw.heap)).ex
    have wa := q0 B [] en [] σ H1 (.v d) x _ (fun σ' H' => ∃ B' μ' en', Same B B' ∧ Rel G.K B' μ' en' [] σ' H' ∧ Stp B [] [] H1 B' μ' [] H' ∧ EnLT en' ∧ tb en' its { N with nx := fun en2 its2 => sGL g tb ds en2 its2 N, ct := fun en2 its2 => sGL g tb ds en2 its2 N, bk := N.nx }) R.rel (RW.d rx) ht
      fun B' μ' en' m' σ' H' s' r' _ ⟨z1, z2, z3⟩ => by subst z1; exact ⟨B', μ', en', s'.same, r', s', z2, z3⟩
    have hh : s2.heap = s3.heap := by rw [sl2.eq]
    have obi : ∀ b ∈ [it], Ob s3.heap b := fun b hb => by
      rw [List.mem_singleton.mp hb]
      obtain ⟨o, e, c, d⟩ := li3
      exact ⟨o, e, fun v z => by rw [d] at z; cases z⟩
    have fp1 : ∀ b ∈ [it], FpOk (Gx G sw (Zt G.n0 T O sw.heap)) pins H1 b := fun b hb => by rw [List.mem_singleton.mp hb]; exact fp
    have I3p : Inv (Gx (G.wE its T) sw (Zt G.n0 T O sw.heap)) (pins ++ pinsAt [it] s3.heap) σ H1 s3 := I3.pinned (fun b hb => fp1 b hb) obi
    have R3 : Run G O T sw (pins ++ pinsAt [it] s2.heap) B en σ H1 s2 := (R.same (sl2.inv I3) fz2).pin fp1 (by rw [hh]; exact obi)
    rw [hh] at R3
    obtain ⟨oi, hoi, _⟩ := id li3
    have hp : (it, oi) ∈ pinsAt [it] s3.heap := mem_pinsAt (by simp) hoi
    refine wpAny_fz fz2 (wpAny_mono (lift_slq sl2 (p0.run _ s3 σ H1 x u _ I3p ry wa)) (fun _ s4 ⟨s5, ⟨σ', H', I5, B', μ', en', sm, r', st, el', n⟩, sl4⟩ fz4 => ?_) fun y s4 ⟨s5, hx5, sl4⟩ fz4 => ?_)
    · have R' := R3.step (sl4.inv I5) fz4 sm r' el'
      refine hb.run O T sw (pins ++ pinsAt [it] s3.heap) B (ltB B') en' σ' H' s4 its _ (lpF G.env K J gd lv l c p :: fs) (forK _) (notedX G.env) id id { N with nx := fun en2 its2 => sGL g tb ds en2 its2 N, ct := fun en2 its2 => sGL g tb ds en2 its2 N, bk := N.nx } ⟨hov, split_cons_ret.mpr gc.split, ?_, rfl, rfl⟩ ⟨?_, ?_, ?_, ?_, ?_⟩ hx R' (sl4.rl rl) (R.lt (fun _ _ z => z) sm) el' n
      · show (gd false || fs.any Frame.guarded) = false
        rw [gc.gd, gc.guard]
        rfl
      · intro O2 T2 sw2 B2 en2 σ2 H2 s6 its2 R2 rl2 hB2 el2 n2
        obtain ⟨f1, f2⟩ := R2.fp hp hne
        exact segx_again rfl (ih (i + 1) O2 T2 sw2 B2 en2 σ2 H2 s6 its2 eds (by omega) R2.unpin rl2 (hB.trans hB2) (hB2 a _ ha) (rv.to hB2) el2 f1 (li3.at fun o e => by rw [hoi] at e; cases e; exact f2) n2)
      · intro O2 T2 sw2 B2 en2 σ2 H2 s6 its2 R2 rl2 hB2 el2 n2
        exact segx_leaf (.ok .next) (k.nx O2 T2 sw2 B2 en2 σ2 H2 s6 its2 R2.unpin rl2 (hB.trans hB2) el2 n2)
      · intro O2 T2 sw2 B2 en2 σ2 H2 s6 its2 R2 rl2 hB2 el2 n2
        obtain ⟨f1, f2⟩ := R2.fp hp hne
        exact segx_again rfl (ih (i + 1) O2 T2 sw2 B2 en2 σ2 H2 s6 its2 eds (by omega) R2.unpin rl2 (hB.trans hB2) (hB2 a _ ha) (rv.to hB2) el2 f1 (li3.at fun o e => by rw [hoi] at e; cases e; exact f2) n2)
      · intro O2 T2 sw2 B2 en2 σ2 H2 s6 its2 R2 rl2 hB2 n2
        exact segx_leaf (.ok (.ret .none)) (k.rt O2 T2 sw2 B2 en2 σ2 H2 s6 its2 R2.unpin rl2 (hB.trans hB2) n2)
      · intro O2 T2 sw2 its2 e sx s0 s' ga an hx2 sl2 rl2
        exact k.noted gc hov ga an hx2 sl2 rl2
    · exact k.noted gc hov R.ga R.an hx5 sl4 (sl4.rl rl)
/-- for target in a list (a datum) -/
theorem gs_for (hi : ∀ E s Z, DE (Gx (G.se E) s Z) E iter te) (hg : ∀ E s Z, DG (Gx (G.se E) s Z) tg is g) (hb : GSs G body tb) (hs : ∀ x, foldedSetIterable iter G.env x = pure x := by intro _; rfl) : GS G (.For tg iter body [] pos) (tGFor te g tb) := by
  refine ⟨fun O Tt sw pins Bk B en σ H s its c fs K J gd lv N gc k hx R rl hB el ht => ?_⟩
  obtain ⟨t, p, q⟩ := (hi (G.wE its Tt).E sw (Zt G.n0 Tt O sw.heap)).ex
  have I := Inv.se (G := G) (E := G.E) (E' := (G.wE its Tt).E) R.inv
  have w := q B [] en [] σ H _ (fun er _ => its = [] ∧ N.xc er) (fun v H' => ∃ B' μ' a vs ds, v = .ref a ∧ B' a = some (.lst vs) ∧ RvL G.K B' vs ds ∧ LTDs ds ∧ Same B B' ∧ Rel G.K B' μ' en [] σ H' ∧ sGL g tb ds en its N) R.rel (hx.of R.tb) ht
    fun B' μ' m' H' x v s' r' rw ⟨z1, ds, z2, z3, z4⟩ => by
      subst z1; subst z2
      cases rw with
      | lst h1 h2 => exact ⟨B', μ', _, _, ds, rfl, h1, h2, z3, s'.same, r', z4⟩
  refine segx_For ?_ hs
  rw [gc.over]
  refine wpAny_fz R.fz (wpAny_mono (lift_slp R.inv.bare (p.run pins (asleep s) σ H _ I.asl w)) (fun v s1 ⟨s0, ⟨x, H1, I1, rx, B', μ', a, vs, ds, ex, ha, hv, lt, sm, r', ht'⟩, sl⟩ fz1 => ?_) fun x s' ⟨s0, hx', sl⟩ _ => k.xc O Tt sw its x s s0 s' R.ga R.an hx' sl (sl.rl rl))
  subst ex
  obtain rfl : v = Value.ref a := rx
  obtain ⟨il, rv, pl, hz⟩ := I1.list (xs := vs) (.inl (.inl (r'.mem.le a _ ha)))
  have wp : wpAny (model G.P G.w) (G.A.deeper G.env) (pyIter (.ref a)) (fun u s3 => u = .ref s0.heap.objs.size ∧ Inv (Gx (G.wE its Tt) sw (Zt G.n0 Tt O sw.heap)) pins σ H1 s3 ∧ s3.heap.IsListIter s0.heap.objs.size a 0 ∧ FpOk (Gx G sw (Zt G.n0 Tt O sw.heap)) pins H1 s0.heap.objs.size) (fun _ _ => False) s0 := by
    refine wpAny_pyIter_list pl.isList ?_
    exact ⟨rfl, I1.kept (t' := s0.toks) fun b o e => Heap.get?_push_of_some _ e, ⟨_, Heap.get?_push_size _ rfl, rfl, rfl⟩, I1.fpOk (Nat.le_refl _) (I1.hok.fresh (Nat.le_refl _))⟩
  refine wpAny_fz fz1 (wpAny_mono (lift_slq sl wp) (fun u s2 ⟨s3, ⟨eu, I3, li, fp⟩, sl2⟩ fz2 => ?_) fun x s' ⟨_, hx', _⟩ _ => hx'.elim)
  subst eu
  have R' := R.step (sl2.inv I3) fz2 sm r' el
  intro p'
  refine ⟨lv [], ?_, rfl⟩
  have hh : s2.heap = s3.heap := by rw [sl2.eq]
  refine gs_loop hg hb gc k hx lt (fun q hq z => ?_) ds 0 O Tt sw (ltB B') en σ H1 s2 its rfl (Nat.zero_le _) R' (sl2.rl rl) (R.lt hB sm) (ltB_lst ha) (hv.lt lt) el fp (by rw [hh]; exact li) ht'
  exact fp.2.2.2.2.2 q hq z
end
end Fs
set_option Elab.async false
set_option linter.all false
set_option maxRecDepth 100000
set_option maxHeartbeats 8000000
namespace Fs
open PySem PySem.Spec PyProof.Rows L2
theorem runs_er_wrap {M : Model} {α : Type} {Γ : PySem.Ctx} {fs : List Frame} {Φ : End → Shared → Prop} {c : Code} (K : α → Sem PySem.Fin) (H : Value → Sem PySem.Fin) (gd : Bool → Bool) (lv : List Value → List Value) (m : Sem α) :
    ∀ {Q : α → Pos → Shared → Prop} {E : Value → Pos → Shared → Prop} {p : Pos} {s : Shared}, Sem.wp M (Γ.over fs) m Q E p s →
      (∀ a p' s', Q a p' s' → ∃ e s'', Runs M Γ p' (er c (K a)) fs s' e s'' ∧ Φ e s'') →
      (∀ x p' s', E x p' s' → ∃ e s'', Runs M Γ p' (er c (H x)) fs s' e s'' ∧ Φ e s'') →
      ∃ e s'', Runs M Γ p (er c (m.wrap K H gd lv)) fs s e s'' ∧ Φ e s'' := by
  induction m with
  | pure a => intro Q E p s h hQ _; exact hQ a p s h
  | raise x => intro Q E p s h _ hE; exact hE x p s h
  | unsupported what => intro Q E p s h; exact h.elim
  | finish x => intro Q E p s h; exact h.elim
  | register a k => intro Q E p s h; exact h.elim
  | yield v g l k => intro Q E p s h; exact h.elim
  | fork c k => intro Q E p s h; exact h.elim
  | await a f d l k => intro Q E p s h; exact h.elim
  | rule tag k ih => intro Q E p s h hQ hE; obtain ⟨e, s'', hr, hΦ⟩ := ih () h hQ hE; exact ⟨e, s'', Runs.head' (fun _ _ x => .rule x) hr, hΦ⟩
  | «at» p' k ih => intro Q E p s h hQ hE; obtain ⟨e, s'', hr, hΦ⟩ := ih () h hQ hE; exact ⟨e, s'', Runs.head' (fun _ _ x => .at x) hr, hΦ⟩
  | load a part k ih =>
    intro Q E p s h hQ hE; obtain ⟨o, ho, h⟩ := h
    obtain ⟨e, s'', hr, hΦ⟩ := ih o h hQ hE; exact ⟨e, s'', Runs.head' (fun _ _ x => .load ho x) hr, hΦ⟩
  | update a part f k ih =>
    intro Q E p s h hQ hE; obtain ⟨ha, h⟩ := h
    obtain ⟨e, s'', hr, hΦ⟩ := ih () h hQ hE; exact ⟨e, s'', Runs.head' (fun _ _ x => .update ha x) hr, hΦ⟩
  | alloc o k ih => intro Q E p s h hQ hE; obtain ⟨e, s'', hr, hΦ⟩ := ih _ h hQ hE; exact ⟨e, s'', Runs.head' (fun _ _ x => .alloc x) hr, hΦ⟩
  | loadIfAlive a k ih => intro Q E p s h hQ hE; obtain ⟨e, s'', hr, hΦ⟩ := ih _ h hQ hE; exact ⟨e, s'', Runs.head' (fun _ _ x => .loadIfAlive x) hr, hΦ⟩
  | point l k ih => intro Q E p s h hQ hE; obtain ⟨e, s'', hr, hΦ⟩ := ih () h hQ hE; exact ⟨e, s'', Runs.head' (fun _ _ x => .point x) hr, hΦ⟩
  | fresh k ih => intro Q E p s h hQ hE; obtain ⟨e, s'', hr, hΦ⟩ := ih _ h hQ hE; exact ⟨e, s'', Runs.head' (fun _ _ x => .fresh x) hr, hΦ⟩
  | ask k ih => intro Q E p s h hQ hE; obtain ⟨e, s'', hr, hΦ⟩ := ih _ h hQ hE; exact ⟨e, s'', Runs.head' (fun _ _ x => .ask x) hr, hΦ⟩
  | choose src n k ih =>
    intro Q E p s h hQ hE; obtain ⟨hn, h⟩ := h
    obtain ⟨e, s'', hr, hΦ⟩ := ih _ h hQ hE; exact ⟨e, s'', Runs.head' (fun _ _ x => .choose hn x) hr, hΦ⟩
  | os q l k ih => intro Q E p s h hQ hE; obtain ⟨e, s'', hr, hΦ⟩ := ih _ h hQ hE; exact ⟨e, s'', Runs.head' (fun _ _ x => .os x) hr, hΦ⟩
  | call d h g l k ih =>
    intro Q E p s hw hQ hE; obtain ⟨r, s₁, hret, hw⟩ := hw
    obtain ⟨e, s'', hr, hΦ⟩ := ih r hw hQ hE; exact ⟨e, s'', Runs.head' (fun _ _ x => .call hret x) hr, hΦ⟩
  | handled own k ih => intro Q E p s h hQ hE; obtain ⟨e, s'', hr, hΦ⟩ := ih _ h hQ hE; exact ⟨e, s'', Runs.head' (fun _ _ x => .handled x) hr, hΦ⟩
  | newGen d k ih => intro Q E p s h hQ hE; obtain ⟨e, s'', hr, hΦ⟩ := ih _ h hQ hE; exact ⟨e, s'', Runs.head' (fun _ _ x => .newGen x) hr, hΦ⟩
  | genState g k ih =>
    intro Q E p s h hQ hE; obtain ⟨st, hg, h⟩ := h
    obtain ⟨e, s'', hr, hΦ⟩ := ih _ h hQ hE; exact ⟨e, s'', Runs.head' (fun _ _ x => .genState hg x) hr, hΦ⟩
  | resume g r l k ih =>
    intro Q E p s h hQ hE; obtain ⟨res, s₁, hwk, h⟩ := h
    obtain ⟨e, s'', hr, hΦ⟩ := ih res h hQ hE
    exact ⟨e, s'', Runs.head' (fun _ _ x => (Sem.runs_resume_iff M _).mpr ⟨res, s₁, hwk, x⟩) hr, hΦ⟩
  | stack k ih => intro Q E p s h hQ hE; obtain ⟨e, s'', hr, hΦ⟩ := ih _ h hQ hE; exact ⟨e, s'', Runs.head' (fun _ _ x => .stack x) hr, hΦ⟩
  | thread k ih => intro Q E p s h hQ hE; obtain ⟨e, s'', hr, hΦ⟩ := ih _ h hQ hE; exact ⟨e, s'', Runs.head' (fun _ _ x => .thread x) hr, hΦ⟩
section
variable {M : Model} {A : Around} {Φ : End → Shared → Prop} {c : Code} {fs : List Frame} {s : Shared}
theorem segx_er_bind {α : Type} {m : Sem α} {K : α → Sem PySem.Fin} (h : wpAny M (A.over c fs) m (fun a s' => SegX M A Φ c (er c (K a)) fs s') (fun x s' => SegX M A Φ c (.raise x) fs s') s) : SegX M A Φ c (er c (m >>= K)) fs s := by
  rintro Γ p rfl hΓ
  rw [Sem.bind_eq_wrap']
  exact runs_er_wrap K .raise id id m (h (Γ.over fs) p (hΓ.over fs)) (fun a p' s' h' => h' Γ p' rfl hΓ) fun x p' s' h' => h' Γ p' rfl hΓ
theorem segx_er_yield {v : Value} {a : Addr} {k : Resume → Sem PySem.Fin} (hfs : splitAtGen fs = none) (hfg : fs.any Frame.guarded = false) (hy : yfOf c = some a) (ho : isGenO (s.heap.get? a) = true)
    (h : ∀ p, (End.susp v false [.ellipsis] (fun x => er c (k x)) c p fs).quiet = true → Φ (.susp v false [.ellipsis] (fun x => er c (k x)) c p fs) s) : SegX M A Φ c (er c (.yield v true [] k)) fs s := by
  rintro Γ p rfl _
  rw [er.eq_def]
  simp only [hy]
  refine ⟨_, s, Runs.head' (fun _ _ x => .loadIfAlive x) ?_, h p (by simp [End.quiet, hfg])⟩
  rw [if_pos ho]
  exact Runs.yield' fs hfs
theorem segx_bind2 {α β γ : Type} {m : Sem α} {f : α → Sem β} {f2 : β → Sem γ} {K : γ → Sem PySem.Fin} {J : Value → Sem PySem.Fin} {gd : Bool → Bool} {lv : List Value → List Value}
    (h : wpAny M (A.over c fs) m (fun a s' => SegX M A Φ c ((f a).wrap (fun b => (f2 b).wrap K J gd lv) J gd lv) fs s') (fun x s' => SegX M A Φ c (J x) fs s') s) :
    SegX M A Φ c (((m >>= f) >>= f2).wrap K J gd lv) fs s := by
  rw [Sem.bind_eq_wrap' (m >>= f) f2, Sem.wrap_wrap]
  exact segx_bind_wrap h
end
theorem over_built {A : Around} {c c' : Code} {fs : List Frame} {k : Result → Sem PySem.Fin} {g : Bool} {l kp : List Value} {p : Pos} (hw : c'.weight = 0) (hu : c'.cUnits = 1) :
    A.over c' (.ret k none g l c p kp :: fs) = (A.over c fs).in1 := by
  have e2 : A.depth + frameCount ((Frame.ret k none g l c p kp :: fs).map Frame.where_) + c'.weight = A.depth + frameCount (fs.map Frame.where_) + c.weight := by
    show A.depth + frameCount ((c, p) :: fs.map Frame.where_) + c'.weight = _
    rw [frameCount_cons, hw]; omega
  have e3 : pushEnvs c'.envs (pushEnvs (envsOf ((Frame.ret k none g l c p kp :: fs).map Frame.where_)) A.frames) = pushEnvs c.envs (pushEnvs (envsOf (fs.map Frame.where_)) A.frames) := by
    show pushEnvs c'.envs (pushEnvs (envsOf ((c, p) :: fs.map Frame.where_)) A.frames) = _
    rw [Code.envs_of_weight hw, envsOf_cons]
    simp only [pushEnvs_eq]
    cases A.frames <;> simp [List.append_assoc]
  have e4 : pushGuards c'.guards (pushGuards (guardsOf ((Frame.ret k none g l c p kp :: fs).map Frame.where_)) A.guards) = pushGuards c.guards (pushGuards (guardsOf (fs.map Frame.where_)) A.guards) := by
    show pushGuards c'.guards (pushGuards (guardsOf ((c, p) :: fs.map Frame.where_)) A.guards) = _
    rw [Code.guards_of_weight hw, guardsOf_cons]
    simp only [pushGuards_eq]
    cases A.guards <;> simp [List.append_assoc]
  have e5 : A.units + unitsOf ((Frame.ret k none g l c p kp :: fs).map Frame.where_) + c'.cUnits = A.units + unitsOf (fs.map Frame.where_) + c.cUnits + 1 := by
    show A.units + unitsOf ((c, p) :: fs.map Frame.where_) + c'.cUnits = _
    rw [unitsOf_cons, hu]; omega
  show (⟨_, _, _, _, _⟩ : Around) = _
  rw [e2, e3, e4, e5]
  rfl
/-! ### the mark of one who sleeps over it -/
/-- the object with the mark n -/
def mkO (n : Int) (o : Obj) : Obj := { o with slots := (o.slots ++ Array.replicate (0 + 1 - o.slots.size) none).setIfInBounds 0 (some (rawInt n)) }
/-- the generator's object with one who sleeps over it -/
def IsGs (h : Heap) (a : Addr) (g : Nat) : Prop := ∃ o nm qn, h.get? a = some o ∧ o.cls = .type "generator" ∧ o.data = .fields #[.int g 0, nm, qn] ∧ o.slots = #[some (.int 1 0)]
section
variable {M : Model} {A : Around} {E : Value → Shared → Prop} {s : Shared} {a : Addr} {g : Nat} {Q : Unit → Shared → Prop}
theorem mkO_at {o : Obj} {n : Int} {nm qn : Value} (ho : s.heap.get? a = some o) (hd : o.data = .fields #[.int g 0, nm, qn]) : (s.heap.update a (mkO n)).get? a = some (mkO n o) :=
  Heap.get?_update_self _ ho (Obj.isFreed_of_fields (o := mkO n o) hd)
theorem wpAny_sleptOn (hg : IsGn s.heap a g) (h : ∀ h', h' = s.heap.update a (mkO 1) → IsGs h' a g → Q () { s with heap := h' }) : wpAny M A (Builtin.Generator.sleptOver (.ref a) true) Q E s := by
  obtain ⟨o, nm, qn, ho, hc, hd, hsl⟩ := hg
  have h1 := h _ rfl ⟨mkO 1 o, nm, qn, mkO_at ho hd, hc, hd, by rcases hsl with e | e <;> (unfold mkO; dsimp only; rw [e]; rfl)⟩
  unfold Builtin.Generator.sleptOver
  refine wpAny_bind (wpAny_load ho ?_)
  rw [hc, if_neg (by decide)]
  rcases hsl with e | e
  · rw [e]
    exact wpAny_updatePart ho h1
  · rw [e]
    exact wpAny_updatePart ho h1
theorem wpAny_sleptOff (hg : IsGs s.heap a g) (h : ∀ h', h' = s.heap.update a (mkO 0) → IsGn h' a g → Q () { s with heap := h' }) : wpAny M A (Builtin.Generator.sleptOver (.ref a) false) Q E s := by
  obtain ⟨o, nm, qn, ho, hc, hd, e⟩ := hg
  have h1 := h _ rfl ⟨mkO 0 o, nm, qn, mkO_at ho hd, hc, hd, .inr (by unfold mkO; dsimp only; rw [e]; rfl)⟩
  unfold Builtin.Generator.sleptOver
  refine wpAny_bind (wpAny_load ho ?_)
  rw [hc, if_neg (by decide), e]
  exact wpAny_updatePart ho h1
end
theorem isGenO_of {h : Heap} {a : Addr} {g : Nat} {o : Obj} {nm qn : Value} (ho : h.get? a = some o) (hc : o.cls = .type "generator") (hd : o.data = .fields #[.int g 0, nm, qn]) : isGenO (h.get? a) = true := by
  rw [ho]
  unfold isGenO Obj.genNumber?
  simp only [hc, hd]
  rfl
theorem close_gen : typeLookup (.type "generator") "close" = pure (some (.builtin "generator.close")) := by rw [typeLookup_type, builtinLookup_eq_fast]; kernel_rfl
end Fs
set_option Elab.async false
set_option linter.all false
set_option maxRecDepth 100000
set_option maxHeartbeats 8000000
namespace Fs
open PySem PySem.Spec PyProof.Rows L2
/-- what has left does not end a turn as a value -/
def NotEnds (P : Program) (w : World) (e : Value) (h : Heap) : Prop := ∀ (A : Around) (Q : Bool → Shared → Prop) (E : Value → Shared → Prop) (t : Shared), t.heap = h → Q false t → wpAny (M0 P w) A (Builtin.Generator.endsTheTurnAsAValue false e) Q E t
theorem notEnds0 {P : Program} {w : World} {K : Frag} {outer : List Env} {H : Hp} {s s' : Shared} {E : XK} {x : Value} (hE : ∀ c d H, E c d H → ∃ C, c = .ref C ∧ PySem.W.subIn K c (.type "StopIteration") = some false) (kin : K.In s'.heap) (c : L2.CX P w outer H s E x s') : NotEnds P w x s'.heap := by
  obtain ⟨a, _, H', cls, d, rfl, fl, _, _, _, _, _, hW⟩ := c
  obtain ⟨o, _, ho, hz, _⟩ := fl.there
  obtain ⟨C, rfl, hs⟩ := hE cls d H' hW
  obtain ⟨cd, h1, h2⟩ := Option.bind_eq_some_iff.mp (show (PySem.W.clsIn K C).bind (fun cd => if cd.mro.isEmpty then none else some (cd.mro.contains (.type "StopIteration"))) = some false from hs)
  intro A Q E' t ht hq
  unfold Builtin.Generator.endsTheTurnAsAValue Builtin.Generator.isStopAndMetaclass
  refine wpAny_bind (wpAny_bind (wpAny_typeOf_ref (o := o) (by rw [ht]; exact ho) ?_))
  rw [hz.1]
  unfold PySem.W.clsIn at h1
  split at h1
  · rename_i oc hl
    cases h1
    have hC := kin _ _ hl
    refine wpAny_bind (wpAny_load (by rw [ht]; exact hC) ?_)
    dsimp only
    split at h2
    · cases h2
    · rename_i q
      rw [if_neg q]
      have q2 := Option.some.inj h2
      refine wpAny_pure ?_
      first
        | (rw [if_neg Bool.false_ne_true]; exact wpAny_pure (by rw [q2]; exact hq))
        | (dsimp only; rw [if_neg Bool.false_ne_true]; exact wpAny_pure (by rw [q2]; exact hq))
        | (dsimp only; rw [q2]; exact wpAny_bind (wpAny_pure (wpAny_pure hq)))
  · cases h1
section
variable {X : Cx} {G : Gst} {pins : List (Addr × Obj)} {its : List D} {O : Ow} {T B H : Hp} {σ : L2.St} {s s1 : Shared} {A : Around}
theorem Cons.special_item {d : D} {ds : List D} {E : Value → Shared → Prop} (C : Cons X G pins (d :: ds) O T B H σ s) (hA : G.A = A.in1) (hh : A.handled = none) (hd : A.depth < recursionLimit) (lw : ∀ a, LD s a → a < s.heap.objs.size) :
    wpAny (M0 X.prog X.w) A (callSpecial? (.ref G.a) "__next__") (fun r s1 => ∃ v, r = some v ∧ Cons.Item X G pins d ds O T B H σ s v s1) E s := by
  obtain ⟨gs, k, n⟩ := Gn_iff.mp C.gn
  have go := n s (C.rely lw)
  rw [C.eP, C.ew, hA] at go
  refine special_genX hh C.inv.nolimit hd k.gen k.at_ go fun e s1 he fz => ?_
  obtain ⟨v, x, O', T', B', H', h1, h2, h3, h4, h5, h6, h7⟩ := C.item he
  refine .inl ⟨v, h1, h2, v, rfl, x, O', T', B', H', h3, h4, h5, h6, ⟨e.genState, ?_, ?_⟩, fz.trans (.set (End.bare_of_quiet h2)), h7⟩
  · obtain ⟨gs2, k2⟩ := h6.at_
    have lt := (Array.getElem?_eq_some_iff.mp k2.at_).1
    rw [GenW.setGen_size] at lt
    exact setGen_at lt
  · cases e with
    | ret r => cases r <;> (first | cases h1 | (rename_i f; cases f <;> cases h1))
    | susp v g l k c p fs => trivial
theorem Cons.kin (C : Cons X G pins its O T B H σ s) {x : Value}
    (cx : L2.CX G.P G.w G.outer (Zt G.n0 T O (s.setGen G.g .running).heap) { (s.setGen G.g .running) with heap := trH G.n0 (s.setGen G.g .running).heap } (fun c d H => Le T H ∧ G.E c d H) x s1) : X.K.In s1.heap := by
  refine C.inv.ok.mod.kin.keeps fun b o e => ?_
  obtain ⟨a, Bg, H'', cls, d, rfl, fl, hok, ub, na, os, ag, hT, hE'⟩ := cx
  obtain ⟨e1, e2⟩ := C.inv.bs b o e
  have nT := C.nt e2
  have nfr : b ∉ frs X.stack := fun hb => by
    rcases List.mem_cons.mp (C.inv.stkSub b hb) with z | z
    · have z4 := Heap.lt_size e
      rw [z] at z4
      exact absurd (Nat.lt_of_lt_of_le z4 (Nat.le_trans C.inv.ok.bsz C.inv.ok.above)) (Nat.lt_irrefl _)
    · exact C.inv.ok.nofr e z
  by_cases l : b < G.n0
  · exact fl.1 b o (ub.keep b o (trH_get.mpr ⟨l, e1⟩) (Zt_none nT (.inl l)) (by rw [C.eo]; exact nfr))
  · refine fl.1 b o (hok b _ (ub.frzs b o _ (Zt_frz nT (Nat.le_of_not_lt l) (fun z => ?_) e1))).1
    obtain ⟨_, f1, f2, f3, f4, f5⟩ := C.fp b (.inr ⟨z, nT⟩)
    rcases f3 with f3 | f3
    · exact C.inv.ok.noex b o e f3
    · have z3 := C.inv.ok.bsz
      have z4 := Heap.lt_size e
      have z5 : X.s_0.heap.objs.size ≤ b := f3
      have z6 : (b : Nat) < X.base.objs.size := z4
      exact absurd (Nat.lt_of_lt_of_le z6 (Nat.le_trans z3 z5)) (Nat.lt_irrefl _)
theorem Cons.special_end {E : XK} (C : Cons X G pins [] O T B H σ s) (hA : G.A = A.in1) (hh : A.handled = none) (hd : A.depth < recursionLimit) (tk : Takes X (fun cls d _ H => E cls d H))
    (hE : ∀ er dd fvs, G.oe = some er → H dd = none → RvF X.K (fun _ => none) fvs er.fs → E (.ref er.C) (some dd) (upd H dd (.xd fvs))) (lw : ∀ a, LD s a → a < s.heap.objs.size) :
    wpAny (M0 X.prog X.w) A (callSpecial? (.ref G.a) "__next__") (fun _ _ => False)
      (fun e s1 => Fz s s1 ∧ (∀ a, LD s1 a → LD s a ∧ ¬ (O a ∧ T a = none)) ∧ ((StopX e s1.heap ∧ G.oe = none ∧ ∃ B' H', ExtB B H B' H' ∧ Inv X pins σ H' s1) ∨ (NotEnds X.prog X.w e s1.heap ∧ ∃ s0, X.xe e s0 ∧ Slq s1 s0 s1))) s := by
  obtain ⟨gs, k, n⟩ := Gn_iff.mp C.gn
  have go := n s (C.rely lw)
  rw [C.eP, C.ew, hA] at go
  refine wpAny_fz (Fz.refl s) (special_genX hh C.inv.nolimit hd k.gen k.at_ go fun e s1 he fz => ?_)
  obtain ⟨he, rl⟩ := he
  have rl2 : ∀ a, LD (s1.setGen G.g .finished) a → LD s a ∧ ¬ (O a ∧ T a = none) := fun a h => ⟨(rl a h.fin).1.run, (rl a h.fin).2⟩
  rcases he with ⟨rfl, ho, O', T', gu⟩ | ⟨x, rfl, cx, ig⟩
  · obtain ⟨B', H', I', ex, _, _⟩ := C.gu (sr := s.setGen G.g .running) rfl rfl gu
    exact .inr (.inl ⟨rfl, fun e h' hS hk fz' => ⟨fz', rl2, .inl ⟨hS, ho, B', H', ex, I'.grown rfl hk (allBare_setGen gu.bare rfl)⟩⟩⟩)
  · have bx : AllBare (s1.setGen G.g .finished).gens := (fz.trans .set).bare C.inv.bare
    have kin := C.kin cx
    have xx := XE_gens (C.raised cx hE) (asleep_bare bx)
    refine .inr (.inr ⟨x, rfl, ig, ?_, fun fz' => ⟨fz', rl2, .inr ⟨?_, Fs.asleep (s1.setGen G.g .finished), tk _ _ xx, ⟨Sj.of bx, fun _ _ => rfl, asleep_bare bx⟩⟩⟩⟩)
    · rw [C.eP, C.ew, C.eE] at cx
      exact notStop0 noStop_erG kin cx
    · rw [C.eP, C.ew, C.eE] at cx
      show NotEnds X.prog X.w x s1.heap
      refine notEnds0 (K := X.K) (fun c d H h => ?_) kin cx
      obtain ⟨_, er, dd, fvs, _, e1, _, _, _, ns⟩ := h
      exact ⟨er.C, e1, ns⟩
end
end Fs
set_option Elab.async false
set_option linter.all false
set_option maxRecDepth 100000
set_option maxHeartbeats 8000000
namespace Fs
open PySem PySem.Spec PyProof.Rows L2
section
variable {G Gi : Gst} {O Oi : Ow} {T Ti : Hp} {sw s s1 : Shared} {pins : List (Addr × Obj)} {B B' H H' : Hp} {en : En} {σ : L2.St} {its : List D}
theorem Run.turn (R : Run G O T sw pins B en σ H s) (ex : ExtB B H B' H') {E : XK} (I : Inv (Gx (G.se E) sw (Zt G.n0 T O sw.heap)) pins σ H' s1) (fz : Fz sw s1) : Run G O T sw pins B' en σ H' s1 := by
  refine ⟨Inv.se (G := G) (E := E) (E' := G.E) I, ⟨ex.mem R.rel.mem, R.rel.len, fun i x e => ?_⟩, fz, fun b o e => ?_, fun b o e => ex.bb b o (R.tb b o e), R.pm, R.ol, R.ob, R.nc, R.gw, R.ga, R.an, R.lw⟩
  · obtain ⟨v, h1, h2⟩ := R.rel.env i x e
    exact ⟨v, h1, h2.to (fun b o z => ex.bb b o z) (List.prefix_refl _)⟩
  · cases q : B b with
    | some u =>
      have z := ex.bb b u q
      rw [e] at z
      cases z
      exact R.bt b o q
    | none => exact ex.tu b o q e
theorem Run.own_of (R : Run G O T sw pins B en σ H s) {b : Addr} (f : FpOk (Gx G sw (Zt G.n0 T O sw.heap)) pins H b) (o : Ob s.heap b) : G.n0 ≤ b ∧ ownB G.n0 O sw s b ∧ B b = none := by
  obtain ⟨h1, h2, h3, h4, h5, h6⟩ := f
  have nb := R.nB h1
  have l : G.n0 ≤ b := by
    rcases h4 with h4 | h4
    · cases h4
    · have e : (trH G.n0 sw.heap).objs.size ≤ b := h4
      rw [trH_size] at e
      have := R.n0w
      omega
  obtain ⟨ob, e, hc⟩ := o
  refine ⟨l, R.mine e hc ?_ (fun o u z => by rw [h1] at z; cases z) l, nb⟩
  cases q : T b with
  | none => rfl
  | some v => rw [R.tb _ _ q] at nb; cases nb
/-- the same footprint at another waking -/
theorem Run.fp_of (R : Run G O T sw pins B en σ H s) {b : Addr} {sw2 : Shared} {Z2 H2 : Hp} (f : FpOk (Gx G sw (Zt G.n0 T O sw.heap)) pins H b) (l : G.n0 ≤ b) (n : H2 b = none) : FpOk (Gx G sw2 Z2) pins H2 b := by
  obtain ⟨h1, h2, h3, h4, h5, h6⟩ := f
  refine ⟨n, h2, h3, .inr ?_, h5, h6⟩
  show (trH G.n0 sw2.heap).objs.size ≤ b
  rw [trH_size]
  exact Nat.le_trans (Nat.min_le_left _ _) l
theorem Cons.se {Z : Hp} {E : XK} (C : Cons (Gx G sw Z) Gi pins its Oi Ti B H σ s) : Cons (Gx (G.se E) sw Z) Gi pins its Oi Ti B H σ s :=
  ⟨Inv.se (G := G) (E := G.E) (E' := E) C.inv, C.gn, C.eP, C.ew, C.eK, C.eb, C.eo, C.eE, C.lo, C.bh, C.tb, C.fp⟩
/-- its own sleepers wait for what the inner one owns -/
def LdI (O : Ow) (T : Hp) (sw : Shared) (Oi : Ow) (Ti : Hp) (s : Shared) : Prop := ∀ a, LD s a → (LD sw a ∧ ¬ (O a ∧ T a = none)) ∨ (Oi a ∧ Ti a = none ∧ isGenO (s.heap.get? a) = true)
abbrev cYf (a : Addr) : Code := .builtin "proto.yield_from" ⟨[.ref a, .bool false, .none], []⟩
theorem den_b0 {P : Program} {w : World} {id : String} {args : Args} : (M0 P w).den (.builtin id args) = er (.builtin id args) (match entryFor table id with | some b => b args | none => unsupported ((withoutEnding? id "#data").getD id)) := rfl
theorem den_yf0 {P : Program} {w : World} {a : Addr} : (M0 P w).den (cYf a) = er (cYf a) (Builtin.«proto.yield_from» ⟨[.ref a, .bool false, .none], []⟩) := by
  unfold cYf
  rw [den_b0, entry_yf]
theorem seg_from {c : Code} {fs : List Frame} {K : Flow → Sem PySem.Fin} {J : Value → Sem PySem.Fin} {gd : Bool → Bool} {lv : List Value → List Value} {l : List Value} {p : Pos} {N : NG} {Bk : Hp} {kf : Result → Sem PySem.Fin} {g0 : Bool}
    (gc : GCx G c fs gd) (hg0 : g0 = false) (k : GKont G pins Bk c fs K J N) (hx : ExG G N.xc) (hA : Gi.A = (G.A.deeper G.env).in1.in1) (hh : G.A.handled = none) (hd : (G.A.deeper G.env).depth < recursionLimit) (hgg : G.g < Gi.g)
    (hok : ∀ (Φ : End → Shared → Prop) s, SegX (M0 G.P G.w) G.A Φ c (K .next) fs s → SegX (M0 G.P G.w) G.A Φ c (kf (.ok (.ret .none))) fs s)
    (her : ∀ (Φ : End → Shared → Prop) e s, SegX (M0 G.P G.w) G.A Φ c (J e) fs s → SegX (M0 G.P G.w) G.A Φ c (kf (.error e)) fs s)
    {rest : List D} (hoe : ∀ er, Gi.oe = some er → rest = [] ∧ N.xc er) :
    ∀ (xs : List D) (O : Ow) (T : Hp) (sw : Shared) (B : Hp) (σ : L2.St) (H : Hp) (s : Shared) (Oi : Ow) (Ti : Hp), Run G O T sw pins B en σ H s → Same Bk B → EnLT en → (Gi.oe = none → N.nx en rest) → Cons (Gx G sw (Zt G.n0 T O sw.heap)) Gi pins xs Oi Ti B H σ s → LdI O T sw Oi Ti s →
      SegX (M0 G.P G.w) G.A (Phi G (xs ++ rest) O T sw) (cYf Gi.a) ((M0 G.P G.w).den (cYf Gi.a)) (.ret kf none g0 l c p [] :: fs) s := by
  have hov : G.A.over (cYf Gi.a) (.ret kf none g0 l c p [] :: fs) = (G.A.deeper G.env).in1 := by
    rw [← gc.over]
    exact over_built (plainId_weight plain_yf _) (plainId_units plain_yf _)
  have lwOf : ∀ {O : Ow} {T : Hp} {sw : Shared} {B : Hp} {σ : L2.St} {H : Hp} {s : Shared} {Oi : Ow} {Ti : Hp} {xs : List D}, Run G O T sw pins B en σ H s → Cons (Gx G sw (Zt G.n0 T O sw.heap)) Gi pins xs Oi Ti B H σ s → LdI O T sw Oi Ti s → ∀ a, LD s a → a < s.heap.objs.size := fun R C ld a h => by
    rcases ld a h with ⟨z, _⟩ | ⟨z, _⟩
    · exact Nat.lt_of_lt_of_le (R.lw a z) R.fz.hp
    · obtain ⟨gs, k⟩ := C.at_
      exact (k.ob a z).2.lt
  intro xs
  induction xs with
  | nil =>
    intro O T sw B σ H s Oi Ti R hB el hn C ld
    rw [den_yf0]
    unfold Builtin.«proto.yield_from»
    try dsimp only
    refine segx_er_bind (wpAny_pure ?_)
    try dsimp only
    refine segx_er_bind (wpAny_attempt (wpAny_holding ?_))
    rw [if_neg Bool.false_ne_true, if_pos (show (Value.none == Value.none) = true from rfl), hov]
    refine wpAny_bind (wpAny_rule (wpAny_bind ?_))
    have CE : Cons (Gx (G.wE rest T) sw (Zt G.n0 T O sw.heap)) Gi pins [] Oi Ti B H σ s := C.se
    refine wpAny_mono (CE.special_end (E := (G.wE rest T).E) hA hh hd (takesG (G := G.wE rest T)) (fun er dd fvs h1 h2 h3 => ?_) (lwOf R C ld)) (fun _ _ h => h.elim) fun e s1 ⟨fz, l1, h⟩ => ?_
    · obtain ⟨z1, z2⟩ := hoe er h1
      refine ⟨z1, fun b o e => ?_, hx er z2 (fun _ => none) _ dd fvs (fun _ _ e => nomatch e) upd_same h3⟩
      have q := R.le b o (R.tb b o e)
      rw [upd_ne (fun z => by rw [z] at q; rw [show H dd = none from h2] at q; cases q)]
      exact q
    · have rl1 : Rl O T sw s1 := fun a h => by
        obtain ⟨z1, z2⟩ := l1 a h
        rcases ld a z1 with z | ⟨y1, y2, _⟩
        · exact z
        · exact absurd ⟨y1, y2⟩ z2
      rcases h with ⟨⟨b, o, vs, rfl, hoa, hcls, hdat, h5⟩, ho, B', H', ex, I'⟩ | ⟨ne, s0, hx0, sl⟩
      · try dsimp only
        refine segx_er_bind (wpAny_endsTurn hoa hcls ?_)
        try dsimp only
        rw [if_pos rfl]
        first
          | refine segx_er_bind (wpAny_rule ?_)
          | (rw [if_neg Bool.false_ne_true]; refine segx_er_bind (wpAny_rule ?_))
          | (rw [if_neg Bool.false_ne_true]; refine segx_er_bind (wpAny_pure ?_); refine segx_er_bind (wpAny_rule ?_))
        refine segx_er_bind (wpAny_field hoa hdat h5 ?_)
        refine segx_leaf (.ok (.ret .none)) (hok _ _ ?_)
        have R' : Run G O T sw pins B' en σ H' s1 := R.turn ex (E := (G.wE rest T).E) I' (R.fz.trans fz)
        exact k.nx O T sw B' en σ H' s1 rest R' rl1 (hB.trans fun b o z => ex.bb b o z) el (hn ho)
      · try dsimp only
        refine segx_er_bind (ne _ _ _ s1 rfl ?_)
        try dsimp only
        rw [if_neg Bool.false_ne_true]
        show SegX _ _ _ _ (.raise e) _ s1
        refine segx_leaf (.error e) (her _ _ _ ?_)
        exact k.xc O T sw rest e s1 s0 s1 R.ga R.an hx0 sl rl1
  | cons d ds ih =>
    intro O T sw B σ H s Oi Ti R hB el hn C ld
    rw [den_yf0]
    unfold Builtin.«proto.yield_from»
    try dsimp only
    refine segx_er_bind (wpAny_pure ?_)
    try dsimp only
    refine segx_er_bind (wpAny_attempt (wpAny_holding ?_))
    rw [if_neg Bool.false_ne_true, if_pos (show (Value.none == Value.none) = true from rfl), hov]
    refine wpAny_bind (wpAny_rule (wpAny_bind ?_))
    refine wpAny_mono (C.special_item (E := fun _ _ => False) hA hh hd (lwOf R C ld)) (fun r s1 ⟨v, er, x, Oi', Ti', B', H', rv, rd, ex, C1, hs1, fz, l1⟩ => ?_) fun _ _ h => h.elim
    subst er
    refine wpAny_pure ?_
    try dsimp only
    obtain ⟨gsi, ki⟩ := C1.at_
    refine segx_er_bind (wpAny_typeOf (T := "generator") ki.gen.typeIs ?_)
    try dsimp only
    first
      | (refine segx_er_bind (wpAny_of_eq close_gen ?_); refine segx_er_bind (wpAny_pure ?_))
      | refine segx_er_bind (wpAny_bind (wpAny_of_eq close_gen (wpAny_pure ?_)))
      | refine segx_er_bind (wpAny_of_eq close_gen ?_)
    try dsimp only
    refine segx_er_bind (wpAny_sleptOn ki.gen fun h' eh hgs => ?_)
    -- the outer one, asleep
    have ld1 : LdI O T sw Oi' Ti' s1 := fun a h => by
      rcases l1 a h with ⟨z1, z2⟩ | z
      · rcases ld a z1 with z | ⟨y1, y2, _⟩
        · exact .inl z
        · exact absurd ⟨y1, y2⟩ z2
      · exact .inr z
    have R1 : Run G O T sw pins B' en σ H' s1 := R.turn ex (E := G.E) C1.inv (R.fz.trans fz)
    have fa := C1.fp Gi.a (.inl rfl)
    have keep1 : ∀ b o, b ≠ Gi.a → s1.heap.get? b = some o → h'.get? b = some o := fun b o ne e => by
      rw [eh, Heap.get?_update_other _ _ (Ne.symm ne)]
      exact e
    have keep2 : ∀ b o, b ≠ Gi.a → h'.get? b = some o → s1.heap.get? b = some o := fun b o ne e => by
      rw [eh, Heap.get?_update_other _ _ (Ne.symm ne)] at e
      exact e
    obtain ⟨oa, nma, qna, hoa, hca, hda, hsa⟩ := id hgs
    have oba2 : Ob h' Gi.a := ⟨oa, hoa, fun u z => by rw [hda] at z; cases z⟩
    have I2 : Inv (Gx G sw (Zt G.n0 T O sw.heap)) pins σ H' { s1 with heap := h' } := C1.inv.turned (t' := s1.toks) keep1 fa.1 fa.2.1 fa.2.2.2.1 fa.2.2.2.2.1 fa.2.2.2.2.2
    have fz2 : Fz s1 { s1 with heap := h' } := by
      rw [eh]
      obtain ⟨o, e, _⟩ := ki.gen.there
      exact Fz.upd (by rw [e]; rfl)
    have R2 : Run G O T sw pins B' en σ H' { s1 with heap := h' } := R1.same (E := G.E) I2 (R1.fz.trans fz2)
    obtain ⟨n0a, owa, nba⟩ := R2.own_of (b := Gi.a) fa oba2
    have own2 : ∀ b, (Oi' b ∧ Ti' b = none) → b ≠ Gi.a ∧ G.n0 ≤ b ∧ ownB G.n0 O sw { s1 with heap := h' } b ∧ B' b = none := fun b hb => by
      have ne : b ≠ Gi.a := fun z => by rw [z] at hb; exact ki.na hb.1
      obtain ⟨o, e, hc⟩ := (ki.ob b hb.1).2
      exact ⟨ne, R2.own_of (C1.fp b (.inr hb)) ⟨o, keep1 b o ne e, hc⟩⟩
    show SegX _ _ _ (cYf Gi.a) (er (cYf Gi.a) (.yield v true [] _)) _ _
    refine segx_er_yield (split_cons_ret.mpr gc.split) ?_ rfl (isGenO_of hoa hca hda) fun p' hq => ?_
    · show (g0 || fs.any Frame.guarded) = false
      rw [hg0, gc.guard]
      rfl
    refine ⟨v, x, ownB G.n0 O sw { s1 with heap := h' }, B', rfl, hq, rv, rd, R2.gu, fun b ⟨i, h⟩ => ?_, R2.sleeps0 fun s3 s4 r e4 R4 => ?_⟩
    · by_cases ig : i = G.g
      · subst ig
        obtain ⟨k, l, c2, p, fs2, cl, h1, h2⟩ := h
        rw [setGen_at (Nat.lt_of_lt_of_le R2.gw R2.fz.gn)] at h1
        cases h1
        have e2 : some Gi.a = some b := h2
        cases e2
        exact .inr ⟨owa, nba, isGenO_of hoa hca hda⟩
      · have h1 : LdAt { s1 with heap := h' } i b := h.of (Array.getElem?_setIfInBounds_ne fun z => ig z.symm).symm
        rcases ld1 b ⟨i, h1.of rfl⟩ with z | ⟨z1, z2, z3⟩
        · exact .inl z
        · obtain ⟨ne, _, y1, y2⟩ := own2 b ⟨z1, z2⟩
          refine .inr ⟨y1, y2, ?_⟩
          have e3 : h'.get? b = s1.heap.get? b := by rw [eh, Heap.get?_update_other _ _ (Ne.symm ne)]
          show isGenO (h'.get? b) = true
          rw [e3]
          exact z3
    generalize hO2 : ownB G.n0 O sw { s1 with heap := h' } = O2 at r R4 owa own2
    have h34 : s4.heap = s3.heap := by rw [e4]; rfl
    have keep3 : ∀ b o, O2 b → B' b = none → h'.get? b = some o → s4.heap.get? b = some o := fun b o h1 h2 h3 => by
      rw [h34]
      exact r.own b o h1 h2 h3
    have hgs4 : IsGs s4.heap Gi.a Gi.g := ⟨oa, nma, qna, keep3 _ _ owa nba hoa, hca, hda, hsa⟩
    show SegX _ _ _ (cYf Gi.a) (er (cYf Gi.a) (Builtin.Generator.sleptOver (.ref Gi.a) false >>= _)) _ s4
    refine segx_er_bind (wpAny_sleptOff hgs4 fun h5 eh5 hg5 => ?_)
    try dsimp only
    refine segx_er_bind (wpAny_pure ?_)
    refine segx_again (plainId_quiet plain_yf _) ?_
    have keep5 : ∀ b o, b ≠ Gi.a → s4.heap.get? b = some o → h5.get? b = some o := fun b o ne e => by
      rw [eh5, Heap.get?_update_other _ _ (Ne.symm ne)]
      exact e
    have fa4 : FpOk (Gx G s4 (Zt G.n0 B' O2 s4.heap)) pins (Zt G.n0 B' O2 s4.heap) Gi.a := R2.fp_of fa n0a (Zt_none nba (.inr (.inl owa)))
    have I5 : Inv (Gx G s4 (Zt G.n0 B' O2 s4.heap)) pins σ (Zt G.n0 B' O2 s4.heap) { s4 with heap := h5 } := R4.inv.turned (t' := s4.toks) keep5 fa4.1 fa4.2.1 fa4.2.2.2.1 fa4.2.2.2.2.1 fa4.2.2.2.2.2
    have fz5 : Fz s4 { s4 with heap := h5 } := by
      rw [eh5]
      obtain ⟨o, _, _, e, _⟩ := hgs4
      exact Fz.upd (by rw [e]; rfl)
    have R5 : Run G O2 B' s4 pins B' en σ (Zt G.n0 B' O2 s4.heap) { s4 with heap := h5 } := R4.same (E := G.E) I5 (R4.fz.trans fz5)
    have g4 : ∀ i, i ≠ G.g → s4.gens[i]? = s3.gens[i]? := fun i ne => by
      rw [e4]
      exact Array.getElem?_setIfInBounds_ne fun z => ne z.symm
    have g2 : ∀ i, i ≠ G.g → ∀ gs, (({ s1 with heap := h' } : Shared).setGen G.g gs).gens[i]? = s1.gens[i]? := fun i ne gs => Array.getElem?_setIfInBounds_ne fun z => ne z.symm
    have ldown : ∀ i b, LdAt { s4 with heap := h5 } i b → O2 b → B' b = none → i ≠ G.g ∧ s4.gens[i]? = s1.gens[i]? := fun i b h h1 h2 => by
      have h : LdAt (s3.setGen G.g .running) i b := by rw [← e4]; exact h.of rfl
      obtain ⟨ne, h⟩ := h.set fun _ _ _ _ _ _ z => by cases z
      exact ⟨ne, (g4 i ne).trans ((r.ld i b h h1 h2).trans (g2 i ne _))⟩
    have rely5 : Rely Gi Oi' Ti' s1 { s4 with heap := h5 } := {
      os := by
        show s4.os = s1.os
        rw [e4]
        exact r.os
      bare := R5.inv.bare
      sz := by
        have z : h'.objs.size ≤ s3.heap.objs.size := r.sz
        have z2 := fz2.hp
        have z3 := fz5.hp
        rw [h34] at z3
        exact Nat.le_trans z2 (Nat.le_trans z z3)
      bs := fun b o e => by
        rw [C1.eb] at e
        exact I5.bk b o e
      funs := by
        rw [C1.eb, C1.eo]
        exact I5.stack
      own := fun b o h1 h2 e => by
        obtain ⟨ne, _, y1, y2⟩ := own2 b ⟨h1, h2⟩
        exact keep5 b o ne (keep3 b o y1 y2 (keep1 b o ne e))
      hok := fun b o e => by
        have z := I5.hok b _ (R5.le b o (C1.tb b o e))
        rw [C1.eP, C1.ew]
        exact objOk_lt (ki.ton b o e) z
      gen := hg5
      slp := fun i y l e h => by
        have hy : isSlp y := by
          rcases h with h | h
          · obtain ⟨gs, q1, q2⟩ := hs1
            rw [h, q1] at e
            cases e
            exact q2
          · exact h
        have ne : i ≠ G.g := fun z => by rw [z] at l; exact absurd hgg (Nat.not_lt_of_le l)
        show s4.gens[i]? = some y
        rw [g4 i ne]
        exact r.slp i y (Nat.le_trans (Nat.le_of_lt hgg) l) ((g2 i ne _).trans e) (.inr hy)
      ld := fun i b h h1 h2 => by
        obtain ⟨_, _, y1, y2⟩ := own2 b ⟨h1, h2⟩
        exact (ldown i b h y1 y2).2
      lw := fun b h => Nat.lt_of_lt_of_le (R4.lw b (let ⟨i, h⟩ := h; ⟨i, h.of rfl⟩)) fz5.hp }
    refine ih O2 B' s4 B' σ (Zt G.n0 B' O2 s4.heap) { s4 with heap := h5 } Oi' Ti' R5 (hB.trans fun b o z => ex.bb b o z) el hn ⟨I5, C1.gn.later rely5, C1.eP, C1.ew, C1.eK, C1.eb, C1.eo, C1.eE, C1.lo, R5.le, C1.tb, fun b hb => ?_⟩ fun b ⟨i, h⟩ => ?_
    · rcases hb with rfl | hb
      · exact fa4
      · obtain ⟨ne, l, y1, y2⟩ := own2 b hb
        exact R2.fp_of (C1.fp b (.inr hb)) l (Zt_none y2 (.inr (.inl y1)))
    · by_cases hb : O2 b ∧ B' b = none
      · obtain ⟨ne, e⟩ := ldown i b h hb.1 hb.2
        have h1 : LdAt s1 i b := h.of e.symm
        rcases ld1 b ⟨i, h1⟩ with ⟨z1, z2⟩ | ⟨z1, z2, z3⟩
        · refine absurd ?_ z2
          have ho := hb.1
          rw [← hO2] at ho
          rcases ho.2.2 with q | q
          · refine ⟨q, ?_⟩
            cases qT : T b with
            | none => rfl
            | some u => rw [R2.tb b u qT] at hb; cases hb.2
          · exact absurd (Nat.lt_of_lt_of_le (R.lw b z1) q) (Nat.lt_irrefl _)
        · obtain ⟨ne2, _, y1, y2⟩ := own2 b ⟨z1, z2⟩
          refine .inr ⟨z1, z2, ?_⟩
          cases q : s1.heap.get? b with
          | none => rw [q] at z3; cases z3
          | some o =>
            rw [q] at z3
            show isGenO (h5.get? b) = true
            rw [keep5 b o ne2 (keep3 b o y1 y2 (keep1 b o ne2 q))]
            exact z3
      · exact .inl ⟨⟨i, h.of rfl⟩, hb⟩
end
end Fs
set_option Elab.async false
set_option linter.all false
set_option maxRecDepth 100000
set_option maxHeartbeats 8000000
namespace Fs
open PySem PySem.Spec PyProof.Rows L2
/-- an expression that makes a generator -/
abbrev DGE := En → Me → (List D → Option Er → Me → Prop) → QX → Prop
structure GE (X : Cx) (E : XK) (k : Nat) (e : Expr) (t : DGE) : Prop where
  run : ∀ (pins : List (Addr × Obj)) (B : Hp) (μ : List Addr) (en : En) (m : Me) (σ : L2.St) (H : Hp) (s : Shared) (Q : List D → Option Er → Me → Prop) (Qx : QX), Inv X pins σ H s → Rel X.K B μ en m σ H → ExOf X.K E B μ m H Qx → (∀ a, LD s a → a < s.heap.objs.size) → t en m Q Qx →
    wpAny (M0 X.prog X.w) X.A (eval e X.env) (fun v s' => ∃ a B' μ' m' H' its oe, v = .ref a ∧ Stp B μ m H B' μ' m' H' ∧ Rel X.K B' μ' en m' σ H' ∧ GMk s.gens.size X k pins its oe B' H' σ a s' ∧ Kp s s' ∧ Q its oe m') (fun e s' => ∃ s1, X.xe e s1 ∧ Slq s s1 s') s
theorem Cons.ltB {X : Cx} {G : Gst} {pins : List (Addr × Obj)} {its : List D} {O : Ow} {T B H : Hp} {σ : L2.St} {s : Shared} (C : Cons X G pins its O T B H σ s) : Cons X G pins its O T (Fs.ltB B) H σ s := by
  obtain ⟨gs, k⟩ := C.at_
  refine ⟨C.inv, C.gn, C.eP, C.ew, C.eK, C.eb, C.eo, C.eE, C.lo, fun b o e => C.bh b o (ltB_some e).1, fun b o e => ?_, C.fp⟩
  have z := C.tb b o e
  rcases k.ton b o e with ⟨xs, rfl⟩ | ⟨xs, rfl⟩
  · exact ltB_tup z
  · exact ltB_lst z
def tGFrom (t : DGE) : DGT := fun en its N => t en [] (fun xs oe m => m = [] ∧ ∃ rest, its = xs ++ rest ∧ (oe = none → N.nx en rest) ∧ ∀ er, oe = some er → rest = [] ∧ N.xc er) (fun er _ => its = [] ∧ N.xc er)
theorem gs_from {G : Gst} {k0 : Nat} {e : Expr} {t : DGE} {yp pos : Pos} (he : ∀ E s Z, GE (Gx (G.se E) s Z) E k0 e t) (hr : Room k0 (G.A.deeper G.env).in1.in1) (hi : interactive G.env = false := by rfl) : GS G (.Expr (.YieldFrom e yp) pos) (tGFrom t) := by
  refine ⟨fun O Tt sw pins Bk B en σ H s its c fs K J gd lv N gc k hx R rl hB el ht => ?_⟩
  have I := Inv.se (G := G) (E := G.E) (E' := (G.wE its Tt).E) R.inv
  have lw : ∀ a, LD s a → a < s.heap.objs.size := fun a h => Nat.lt_of_lt_of_le (R.lw a (rl a h).1) R.fz.hp
  have w := (he (G.wE its Tt).E sw (Zt G.n0 Tt O sw.heap)).run pins B [] en [] σ H s _ _ I R.rel (hx.of R.tb) lw ht
  rw [exec_Expr G.env _ pos hi rfl]
  show SegX _ _ _ c (.at pos fun _ => ((eval e G.env >>= fun v => (standAt yp >>= fun _ => yieldFrom G.env v)) >>= fun x => dropValue (.YieldFrom e yp) pos x).wrap K J gd lv) fs s
  refine segx_at (segx_bind2 ?_)
  rw [gc.over]
  refine wpAny_fz R.fz (wpAny_mono w (fun v s1 ⟨a, B', μ', m', H', xs, oe, ev, st, r', gm, kp, z1, rest, z2, z3, z4⟩ fz1 => ?_) fun x s' ⟨s0, hx', sl⟩ _ => k.xc O Tt sw its x s s0 s' R.ga R.an hx' sl (sl.rl rl))
  subst ev z1 z2
  obtain ⟨Gi, Oi, Ti, ea, eA, C, eo, gle⟩ := gm (G.A.deeper G.env).in1.in1 hr rfl
  subst ea eo
  obtain ⟨gsi, ki⟩ := C.at_
  have C : Cons (Gx G sw (Zt G.n0 Tt O sw.heap)) Gi pins xs Oi Ti B' H' σ s1 := Cons.se (G := G.wE (xs ++ rest) Tt) (E := G.E) C
  have R1 := R.step (E := G.E) C.inv fz1 st.same r' el
  refine segx_at ?_
  show SegX _ _ _ c ((yieldFrom G.env (.ref Gi.a)).wrap (fun b => (dropValue (.YieldFrom e yp) pos b).wrap K J gd lv) J gd lv) fs s1
  unfold yieldFrom
  refine segx_bind_wrap (wpAny_typeOf ki.gen.typeIs ?_)
  rw [if_neg (by decide)]
  refine segx_bind_wrap (wpAny_holding ?_)
  refine wpAny_pyIter_gn ki.gen ?_
  refine segx_call fun p => ?_
  refine seg_from (lv := lv) gc gc.gd k hx eA hr.hd hr.depth (Nat.lt_of_lt_of_le (Nat.lt_of_lt_of_le R.gw R.fz.gn) gle) (fun _ _ h => h) (fun _ _ _ h => h) z4 xs O Tt sw _ σ H' s1 Oi Ti R1 (R.lt hB st.same) el z3 C.ltB fun b h => .inl (rl b (kp.LD h))
end Fs
set_option Elab.async false
set_option linter.all false
set_option maxRecDepth 100000
set_option maxHeartbeats 8000000
namespace Fs
open PySem PySem.Spec PyProof.Rows L2
/-- the frame's context, what it lets out chosen anew -/
abbrev sxX (X : Cx) (E : XK) : Cx := { X with xe := fun e s' => wpAny (model X.prog X.w) X.A (leaving X.env e) (fun _ s'' => L2.CX X.prog X.w X.outer X.H_0 X.s_0 E e s'') (fun e' s'' => L2.CX X.prog X.w X.outer X.H_0 X.s_0 E e' s'') s' }
section
variable {X : Cx} {E : XK} {pins : List (Addr × Obj)} {σ : L2.St} {H : Hp} {s : Shared}
theorem toSx (I : Inv X pins σ H s) : Inv (sxX X E) pins σ H s :=
  ⟨⟨I.ok.mod, I.ok.kind, I.ok.glob, I.ok.blt, I.ok.above, I.ok.inj, I.ok.has, I.ok.cab, I.ok.hd, I.ok.frames, I.ok.stk, I.ok.exf, I.ok.bs, I.ok.bsz, I.ok.noex, I.ok.exfs, I.ok.funs, I.ok.frf⟩, I.os, I.bare, I.base, I.loc, I.cell, I.free, I.freeC, I.pin, I.hok, I.len⟩
theorem ofSx (I : Inv (sxX X E) pins σ H s) : Inv X pins σ H s :=
  ⟨⟨I.ok.mod, I.ok.kind, I.ok.glob, I.ok.blt, I.ok.above, I.ok.inj, I.ok.has, I.ok.cab, I.ok.hd, I.ok.frames, I.ok.stk, I.ok.exf, I.ok.bs, I.ok.bsz, I.ok.noex, I.ok.exfs, I.ok.funs, I.ok.frf⟩, I.os, I.bare, I.base, I.loc, I.cell, I.free, I.freeC, I.pin, I.hok, I.len⟩
/-- whom a loud sleeper waits for is frozen -/
def Gok (H : Hp) (s : Shared) : Prop := ∀ a, LD s a → ∃ o u, H a = some (.frz o u) ∧ o.genNumber?.isSome = true
theorem Gok.ld {s' : Shared} (g : Gok H s) (h : ∀ a, LD s' a → LD s a) : Gok H s' := fun a z => g a (h a z)
theorem Gok.sl {s0 s' : Shared} (g : Gok H s) (sl : Slq s s0 s') : Gok H s' := g.ld fun _ h => sl.ld h
theorem Gok.stp {K : Frag} {B B' : Hp} {μ μ' : List Addr} {m m' : Me} {H' : Hp} (g : Gok H s) (M : MemOk K B μ m H) (st : Stp B μ m H B' μ' m' H') : Gok H' s := fun a z => by
  obtain ⟨o, u, e, h⟩ := g a z
  refine ⟨o, u, st.out a _ (fun l => ?_) e (fun ps z => nomatch z), h⟩
  obtain ⟨n, mo, e1, e2, e3⟩ := l
  have q := M.at_ n a mo e1 e2 e3
  cases mo with
  | lst xs => obtain ⟨vs, q, _⟩ := q; rw [e] at q; cases q
  | dic xs => obtain ⟨vs, q, _⟩ := q; rw [e] at q; cases q
  | ins C fs => obtain ⟨dx, vs, q, _⟩ := q; rw [e] at q; cases q
  | bag => obtain ⟨l, i, r, sd, ns, q, _⟩ := q; rw [e] at q; cases q
  | tab p q' => obtain ⟨_, ps, q, _⟩ := q; rw [e] at q; cases q
  | gone => cases e3
theorem Gok.lw (g : Gok H s) (I : Inv X pins σ H s) : ∀ a, LD s a → a < s.heap.objs.size := fun a z => by
  obtain ⟨o, u, e, _⟩ := g a z
  exact Heap.lt_size (I.hok a _ e).1
/-- .. and what is let out says so -/
abbrev EG (E : XK) (s : Shared) : XK := fun c d H' => E c d H' ∧ Gok H' s
theorem cx_mono {P : Program} {w : World} {outer : List Env} {E E' : XK} (h : ∀ c d H, E c d H → E' c d H) {u : Value} {s' : Shared} (x : L2.CX P w outer H s E u s') : L2.CX P w outer H s E' u s' := by
  obtain ⟨a, B, H', cls, d, h1, h2, h3, h4, h5, h6, h7, h8⟩ := x
  exact ⟨a, B, H', cls, d, h1, h2, h3, h4, h5, h6, h7, h _ _ _ h8⟩
theorem sx_mono {E' : XK} (h : ∀ c d H, E c d H → E' c d H) {e : Value} (x : (sxX X E).xe e s) : (sxX X E').xe e s := wpAny_mono x (fun _ _ z => cx_mono h z) fun _ _ z => cx_mono h z
/-- an exception, over the quiet machine -/
def UX (X : Cx) (E : XK) (e : Value) (s' : Shared) : Prop := ∃ sx s0, (sxX X (EG E s')).xe e s0 ∧ Slq sx s0 s'
/-- a piece of plain code -/
theorem lift_u {α : Type} {t : Sem α} {P : α → Shared → Prop} (hb : AllBare s.gens) (h : wpAny (model X.prog X.w) X.A t P (sxX X (EG E s)).xe (asleep s)) : wpAny (M0 X.prog X.w) X.A t (fun a s' => ∃ s0, P a s0 ∧ Slq s s0 s') (UX X E) s :=
  wpAny_mono (lift_slp hb h) (fun _ _ z => z) fun e s' ⟨s0, hx, sl⟩ => ⟨s, s0, sx_mono (fun c d H' h => ⟨h.1, h.2.sl sl⟩) hx, sl⟩
/-- a value by data has come -/
def UQ (X : Cx) (pins : List (Addr × Obj)) (B : Hp) (μ : List Addr) (en : En) (m : Me) (σ : L2.St) (H : Hp) (Q : W → Me → Prop) (v : Value) (s' : Shared) : Prop :=
  ∃ x w B' μ' m' H', Inv X pins σ H' s' ∧ Gok H' s' ∧ RelV x v ∧ RW X.K B' μ' x w ∧ Stp B μ m H B' μ' m' H' ∧ Rel X.K B' μ' en m' σ H' ∧ Q w m'
structure UE (X : Cx) (E : XK) (e : Expr) (T : DTE) : Prop where
  run : ∀ pins B μ en m σ H s Q Qx, Inv X pins σ H s → Gok H s → Rel X.K B μ en m σ H → ExOf X.K E B μ m H Qx → T en m Q Qx → wpAny (M0 X.prog X.w) X.A (eval e X.env) (UQ X pins B μ en m σ H Q) (UX X E) s
structure UT (X : Cx) (E : XK) (e : Expr) (T : DTT) : Prop where
  run : ∀ pins B μ en m σ H s Q Qx, Inv X pins σ H s → Gok H s → Rel X.K B μ en m σ H → ExOf X.K E B μ m H Qx → T en m Q Qx →
    wpAny (M0 X.prog X.w) X.A (isTrue e X.env (eval e X.env)) (fun b s' => ∃ B' μ' m' H', Inv X pins σ H' s' ∧ Gok H' s' ∧ Stp B μ m H B' μ' m' H' ∧ Rel X.K B' μ' en m' σ H' ∧ Q b m') (UX X E) s
structure UA (X : Cx) (E : XK) (es : List Expr) (T : DTA) : Prop where
  run : ∀ pos pins B μ en m σ H s Q Qx, Inv X pins σ H s → Gok H s → Rel X.K B μ en m σ H → ExOf X.K E B μ m H Qx → T en m Q Qx →
    wpAny (M0 X.prog X.w) X.A (spliced (backTo pos (starEach es X.env))) (fun us s' => ∃ vs ws B' μ' m' H', Inv X pins σ H' s' ∧ Gok H' s' ∧ Vals vs us ∧ RWs X.K B' μ' vs ws ∧ Stp B μ m H B' μ' m' H' ∧ Rel X.K B' μ' en m' σ H' ∧ Q ws m') (UX X E) s
theorem exEG {Qx : QX} {B : Hp} {μ : List Addr} {m : Me} {K : Frag} (g : Gok H s) (M : MemOk K B μ m H) (hx : ExOf K E B μ m H Qx) : ExOf K (EG E s) B μ m H Qx :=
  fun B' μ' m' H' er dd fvs st M' hd r q => ⟨hx B' μ' m' H' er dd fvs st M' hd r q, g.stp M st⟩
variable {e : Expr} {es : List Expr} {T te : DTE} {ta : DTA}
theorem ue (h : ∀ E', DE (sxX X E') E' e T) : UE X E e T := by
  refine ⟨fun pins B μ en m σ H s Q Qx I g R hx ht => ?_⟩
  obtain ⟨t, p, k⟩ := (h (EG E s)).ex
  have w := k B μ en m σ H Q Qx (fun v H' => ∃ B' μ' m' w, Stp B μ m H B' μ' m' H' ∧ Rel X.K B' μ' en m' σ H' ∧ RW X.K B' μ' v w ∧ Q w m') R (exEG g R.mem hx) ht fun B' μ' m' H' x v st r rw q => ⟨B', μ', m', x, st, r, rw, q⟩
  refine wpAny_mono (lift_u I.bare (p.run pins (asleep s) σ H _ (toSx I.asl) w)) (fun v s' ⟨s0, ⟨x, H', I', rv, B', μ', m', w, st, r, rw, q⟩, sl⟩ => ?_) fun _ _ z => z
  exact ⟨x, w, B', μ', m', H', sl.inv (ofSx I'), (g.stp R.mem st).sl sl, rv, rw, st, r, q⟩
theorem ut {T : DTT} (h : ∀ E', DT (sxX X E') E' e T) : UT X E e T := by
  refine ⟨fun pins B μ en m σ H s Q Qx I g R hx ht => ?_⟩
  obtain ⟨t, p, k⟩ := (h (EG E s)).ex
  have w := k B μ en m σ H Q Qx (fun b H' => ∃ B' μ' m', Stp B μ m H B' μ' m' H' ∧ Rel X.K B' μ' en m' σ H' ∧ Q b m') R (exEG g R.mem hx) ht fun B' μ' m' H' b st r q => ⟨B', μ', m', st, r, q⟩
  refine wpAny_mono (lift_u I.bare (p.run pins (asleep s) σ H _ (toSx I.asl) w)) (fun b s' ⟨s0, ⟨H', I', B', μ', m', st, r, q⟩, sl⟩ => ?_) fun _ _ z => z
  exact ⟨B', μ', m', H', sl.inv (ofSx I'), (g.stp R.mem st).sl sl, st, r, q⟩
theorem ua_nil : UA X E [] tN := ⟨fun pos pins B μ en m σ H s Q Qx I g R hx ht => Calls.spliced_nil ⟨[], [], B, μ, m, H, I, g, .nil, .nil, .refl, R, ht⟩⟩
theorem ua_cons (he : UE X E e te) (hr : UA X E es ta) (hs : starEach (e :: es) X.env = (false, eval e X.env) :: starEach es X.env := by rfl) : UA X E (e :: es) (tCn te ta) := by
  refine ⟨fun pos pins B μ en m σ H s Q Qx I g R hx ht => ?_⟩
  rw [hs]
  show wpAny _ _ (spliced ((false, eval e X.env) :: backTo pos (starEach es X.env))) _ _ s
  refine Calls.spliced_cons (thn (he.run pins B μ en m σ H s _ Qx I g R hx ht) fun v s1 ⟨x, w, B1, μ1, m1, H1, I1, g1, rv, rw, st1, R1, q1⟩ => ?_)
  refine thn (hr.run pos pins B1 μ1 en m1 σ H1 s1 _ Qx I1 g1 R1 (hx.step st1 R1.mem R.mem.le) q1) fun us s2 ⟨vs, ws, B2, μ2, m2, H2, I2, g2, rvs, rws, st2, R2, q2⟩ => ?_
  exact ⟨x :: vs, w :: ws, B2, μ2, m2, H2, I2, g2, .cons rv rvs, .cons (rw.to st2.same st2.pre) rws, st1.trans R1.mem st2 R.mem.le, R2, q2⟩
end
end Fs
set_option Elab.async false
set_option linter.all false
set_option maxRecDepth 100000
set_option maxHeartbeats 8000000
namespace Fs
open PySem PySem.Spec PyProof.Rows L2
section
variable {X : Cx} {E : XK} {pins : List (Addr × Obj)} {σ : L2.St} {H H2 : Hp} {s s2 : Shared} {B B2 : Hp} {μ μ2 : List Addr} {en : En} {m m2 : Me} {Q : W → Me → Prop} {Qx : QX}
/-- behind a piece of plain code that gives a value -/
theorem fin_v {t : Sem Value} (I2 : Inv X pins σ H2 s2) (g2 : Gok H2 s2) (M : MemOk X.K B μ m H) (st2 : Stp B μ m H B2 μ2 m2 H2) (R2 : Rel X.K B2 μ2 en m2 σ H2)
    (h : wpAny (model X.prog X.w) X.A t (EP (sxX X (EG E s2)) pins σ fun z H3 => ∃ B3 μ3 m3 w, Stp B2 μ2 m2 H2 B3 μ3 m3 H3 ∧ MemOk X.K B3 μ3 m3 H3 ∧ RW X.K B3 μ3 z w ∧ Q w m3) (sxX X (EG E s2)).xe (asleep s2)) : wpAny (M0 X.prog X.w) X.A t (UQ X pins B μ en m σ H Q) (UX X E) s2 := by
  refine wpAny_mono (lift_u I2.bare h) (fun v s3 ⟨s4, ⟨z, H3, I3, rv, B3, μ3, m3, w, st3, M3, rz, q3⟩, sl3⟩ => ?_) fun _ _ z => z
  exact ⟨z, w, B3, μ3, m3, H3, sl3.inv (ofSx I3), (g2.stp R2.mem st3).sl sl3, rv, rz, st2.trans R2.mem st3 M.le, R2.stp st3 M3, q3⟩
/-- a name is looked up -/
theorem u_look {e : Expr} {u : Value} {R : Value → Shared → Prop} (I : Inv X pins σ H s) (g : Gok H s) (h : wpAny (model X.prog X.w) X.A (eval e X.env) (fun v s' => v = u ∧ s' = asleep s) (sxX X (EG E s)).xe (asleep s)) (hk : ∀ s', Inv X pins σ H s' → Gok H s' → R u s') :
    wpAny (M0 X.prog X.w) X.A (eval e X.env) R (UX X E) s := by
  refine wpAny_mono (lift_u I.bare h) (fun v s' ⟨s0, ⟨e1, e2⟩, sl⟩ => ?_) fun _ _ z => z
  subst e1 e2
  exact hk s' (sl.inv I.asl) (g.sl sl)
variable {x : Str} {e a b c : Expr} {es rest : List Expr} {p pos : Pos} {ta tb te : DTE} {tA : DTA} {tT tU : DTT} {id : String} {r : List V → Hp → VK → Prop} {o : DCa}
theorem u_fn (hc : ∀ E', CallR (sxX X E') (.builtin id) r) (so : SC X r o) (hm : X.mg x = none) (hv : bootBuiltins x = some (.builtin id)) (ha : UA X E (e :: es) tA) (hg : Gl X x := by rfl) (hn : x ≠ "__name__" := by decide) (hdb : (x == ("__debug__" : Str)) = false := by decide)
    (he : starEach (e :: es) X.env = (false, eval e X.env) :: starEach es X.env := by rfl) (hpl : (backTo pos (starEach es X.env)).any (·.1) = false := by rfl) : UE X E (.Call (.Name x p) (e :: es) [] pos) (tCa o tA) := by
  refine ⟨fun pins B μ en m σ H s Q Qx I g R hx ht => ?_⟩
  refine wpAny_Call_Name_kw (u_look I g (ld_blt I.asl hg hm hv ⟨rfl, rfl⟩ hn hdb) fun s1 I1 g1 => ?_)
  refine PyProof.Rows.callWith_builtin1 (thn (ha.run pos pins B μ en m σ H s1 _ Qx I1 g1 R hx ht) fun us s2 ⟨vs, ws, B2, μ2, m2, H2, I2, g2, rvs, rws, st2, R2, q2⟩ => ?_) he hpl
  refine fin_v I2 g2 R.mem st2 R2 (hc (EG E s2) pins (asleep s2) σ H2 vs us _ (toSx I2.asl) rvs (so B2 μ2 m2 H2 ws vs _ _ R2.mem rws q2 fun B3 H3 d z st3 M3 rz q3 => ⟨B3, μ2, m2, .v d, st3, M3, RW.d rz, q3⟩))
theorem u_tyc {T : String} (hc : ∀ E', CallR (sxX X E') (.type T) r) (so : SC X r o) (hm : X.mg x = none) (hv : bootBuiltins x = some (.type T)) (ha : UA X E (e :: es) tA) (hg : Gl X x := by rfl) (hn : x ≠ "__name__" := by decide) (hdb : (x == ("__debug__" : Str)) = false := by decide)
    (he : starEach (e :: es) X.env = (false, eval e X.env) :: starEach es X.env := by rfl) (hpl : (backTo pos (starEach es X.env)).any (·.1) = false := by rfl) : UE X E (.Call (.Name x p) (e :: es) [] pos) (tCa o tA) := by
  refine ⟨fun pins B μ en m σ H s Q Qx I g R hx ht => ?_⟩
  refine wpAny_Call_Name_kw (u_look I g (ld_blt I.asl hg hm hv ⟨rfl, rfl⟩ hn hdb) fun s1 I1 g1 => ?_)
  refine callWith_type1 (thn (ha.run pos pins B μ en m σ H s1 _ Qx I1 g1 R hx ht) fun us s2 ⟨vs, ws, B2, μ2, m2, H2, I2, g2, rvs, rws, st2, R2, q2⟩ => ?_) he hpl
  refine fin_v I2 g2 R.mem st2 R2 (hc (EG E s2) pins (asleep s2) σ H2 vs us _ (toSx I2.asl) rvs (so B2 μ2 m2 H2 ws vs _ _ R2.mem rws q2 fun B3 H3 d z st3 M3 rz q3 => ⟨B3, μ2, m2, .v d, st3, M3, RW.d rz, q3⟩))
/-- an untainted def, tainted arguments -/
theorem u_callF {k : Nat} {ps : List Str} {sp : SpD} (hs : X.stack = X.env :: X.outer) (hf : X.env.frame = some X.env.locals) (hex : X.ex = []) (G : Gd X.prog X.w X.K X.mg X.base (L2.CX X.prog X.w) k x ps (lift X.K sp)) (hr : Room k X.A) (ha : UA X E (e :: es) tA)
    (hg : Gl X x := by rfl) (hdb : (x == ("__debug__" : Str)) = false := by decide) (he : starEach (e :: es) X.env = (false, eval e X.env) :: starEach es X.env := by rfl) (hpl : (backTo pos (starEach es X.env)).any (·.1) = false := by rfl) : UE X E (.Call (.Name x p) (e :: es) [] pos) (tCal sp tA) := by
  refine ⟨fun pins B μ en m σ H s Q Qx I g R hx ht => ?_⟩
  obtain ⟨f, fd, hm, hk, hb, F⟩ := G.ex
  refine wpAny_Call_Name_kw (u_look I g (ld_glob I.asl hg hm ⟨rfl, rfl⟩ hdb) fun s1 I1 g1 => ?_)
  refine PySem.W.callWith_K (h₀ := X.base) I.ok.mod.kin hk (thn (ha.run pos pins B μ en m σ H s1 _ Qx I1 g1 R hx ht) fun us s2 ⟨vs, ws, B2, μ2, m2, H2, I2, g2, rvs, rws, st2, R2, q2⟩ => ⟨I2.kIn, ?_⟩) he hpl
  refine fin_v I2 g2 R.mem st2 R2 (run_fn (X := sxX X (EG E s2)) (E := EG E s2) (dvs := []) F hr hb .nil (passE (takes_of hs hf hex rfl)) (toSx I2.asl) rvs ?_)
  rw [List.append_nil]
  exact ⟨B2, μ2, m2, ws, _, Qx, R2.mem, rws, q2, exEG g2 R2.mem (hx.step st2 R2.mem R.mem.le), fun B3 μ3 m3 H3 w z st3 M3 rz q3 => ⟨B3, μ3, m3, w, st3, M3, rz, q3⟩⟩
theorem u_op {op : Operator} {o : DOp} (ho : ∀ E', OpD (sxX X E') (binaryOp op) o) (ha : UE X E a ta) (hb : UE X E b tb) : UE X E (.BinOp a op b pos) (tO2 o ta tb) := by
  refine ⟨fun pins B μ en m σ H s Q Qx I g R hx ht => ?_⟩
  refine wpAny_BinOp (thn (ha.run pins B μ en m σ H s _ Qx I g R hx ht) fun v s1 ⟨y, w, B1, μ1, m1, H1, I1, g1, rv, rw, st1, R1, q1⟩ => ?_)
  refine thn (hb.run pins B1 μ1 en m1 σ H1 s1 _ Qx I1 g1 R1 (hx.step st1 R1.mem R.mem.le) q1) fun u s2 ⟨z, w2, B2, μ2, m2, H2, I2, g2, rv2, rw2, st2, R2, q2⟩ => ?_
  have st := st1.trans R1.mem st2 R.mem.le
  obtain ⟨r, h1, h2⟩ := ho (EG E s2)
  exact fin_v I2 g2 R.mem st R2 (h1 pins (asleep s2) σ H2 y z v u _ (toSx I2.asl) rv rv2 (h2 B2 μ2 m2 H2 w w2 y z _ _ R2.mem (rw.to st2.same st2.pre) rw2 q2 fun B3 H3 d z st3 M3 rz q3 => ⟨B3, μ2, m2, .v d, st3, M3, RW.d rz, q3⟩))
theorem u_cmp {op : CmpOp} {o : DOp} (ho : ∀ E', OpD (sxX X E') (compareOp op) o) (ha : UE X E a ta) (hb : UE X E b tb) (hm : behindInMarks op b = false) : UE X E (.Compare a [op] [b] pos) (tO2 o ta tb) := by
  refine ⟨fun pins B μ en m σ H s Q Qx I g R hx ht => ?_⟩
  refine wpAny_Compare1 (thn (ha.run pins B μ en m σ H s _ Qx I g R hx ht) fun v s1 ⟨y, w, B1, μ1, m1, H1, I1, g1, rv, rw, st1, R1, q1⟩ => ?_) hm
  refine thn (hb.run pins B1 μ1 en m1 σ H1 s1 _ Qx I1 g1 R1 (hx.step st1 R1.mem R.mem.le) q1) fun u s2 ⟨z, w2, B2, μ2, m2, H2, I2, g2, rv2, rw2, st2, R2, q2⟩ => ?_
  have st := st1.trans R1.mem st2 R.mem.le
  obtain ⟨r, h1, h2⟩ := ho (EG E s2)
  exact fin_v I2 g2 R.mem st R2 (h1 pins (asleep s2) σ H2 y z v u _ (toSx I2.asl) rv rv2 (h2 B2 μ2 m2 H2 w w2 y z _ _ R2.mem (rw.to st2.same st2.pre) rw2 q2 fun B3 H3 d z st3 M3 rz q3 => ⟨B3, μ2, m2, .v d, st3, M3, RW.d rz, q3⟩))
theorem ut_cmp {op : CmpOp} {o : DOp} (ho : ∀ E', OpD (sxX X E') (compareOp op) o) (ha : UE X E a ta) (hb : UE X E b tb) (hm : behindInMarks op b = false) : UT X E (.Compare a [op] [b] pos) (tBl (tO2 o ta tb)) := by
  refine ⟨fun pins B μ en m σ H s Q Qx I g R hx ht => ?_⟩
  refine wpAny_isTrue_Compare1 (thn (ha.run pins B μ en m σ H s _ Qx I g R hx ht) fun v s1 ⟨y, w, B1, μ1, m1, H1, I1, g1, rv, rw, st1, R1, q1⟩ => ?_) hm
  refine thn (hb.run pins B1 μ1 en m1 σ H1 s1 _ Qx I1 g1 R1 (hx.step st1 R1.mem R.mem.le) q1) fun u s2 ⟨z, w2, B2, μ2, m2, H2, I2, g2, rv2, rw2, st2, R2, q2⟩ => ?_
  have st := st1.trans R1.mem st2 R.mem.le
  obtain ⟨r, h1, h2⟩ := ho (EG E s2)
  refine thn (fin_v (Q := fun w m => bD w fun b => Q b m) I2 g2 R.mem st R2 (h1 pins (asleep s2) σ H2 y z v u _ (toSx I2.asl) rv rv2 (h2 B2 μ2 m2 H2 w w2 y z _ _ R2.mem (rw.to st2.same st2.pre) rw2 q2 fun B3 H3 d z st3 M3 rz q3 => ⟨B3, μ2, m2, .v d, st3, M3, RW.d rz, q3⟩))) fun c s3 ⟨z3, w3, B3, μ3, m3, H3, I3, g3, rv3, rw3, st3, R3, q3⟩ => ?_
  obtain ⟨b, rfl, rfl, q⟩ := bD_ok rw3 q3
  cases rv3
  exact wpAny_truthy_bool ⟨B3, μ3, m3, H3, I3, g3, st3, R3, q⟩
theorem ut_val (h : UE X E e te) (he : ∀ whole, isTrue e X.env whole = (do let v ← whole; standAt e.pos; holding [v] (truthy v)) := by intro _; rfl) : UT X E e (tBl te) := by
  refine ⟨fun pins B μ en m σ H s Q Qx I g R hx ht => ?_⟩
  refine PyProof.Rows.isTrue_plain (thn (h.run pins B μ en m σ H s _ Qx I g R hx ht) fun v s1 ⟨y, w, B1, μ1, m1, H1, I1, g1, rv, rw, st1, R1, q1⟩ => ?_) (he _)
  obtain ⟨b, rfl, rfl, q⟩ := bD_ok rw q1
  cases rv
  exact wpAny_truthy_bool ⟨B1, μ1, m1, H1, I1, g1, st1, R1, q⟩
theorem ut_not (ha : UT X E a tT) : UT X E (.UnaryOp .Not a pos) (tNotT tT) := ⟨fun pins B μ en m σ H s Q Qx I g R hx ht => wpAny_isTrue_Not (ha.run pins B μ en m σ H s _ Qx I g R hx ht)⟩
theorem u_not (ha : UE X E a ta) : UE X E (.UnaryOp .Not a pos) (tNotE ta) := by
  refine ⟨fun pins B μ en m σ H s Q Qx I g R hx ht => ?_⟩
  refine PyProof.Rows.UnaryOp_ (thn (ha.run pins B μ en m σ H s _ Qx I g R hx ht) fun v s1 ⟨y, w, B1, μ1, m1, H1, I1, g1, rv, rw, st1, R1, q1⟩ => ?_)
  obtain ⟨b, rfl, rfl, q⟩ := bD_ok rw q1
  cases rv
  exact PyProof.Rows.not_of (wpAny_truthy_bool ⟨.bl (!b), .v (.bl !b), B1, μ1, m1, H1, I1, g1, rfl, .bl _, st1, R1, q⟩)
theorem u_if (hc : UT X E c tT) (ha : UE X E a ta) (hb : UE X E b tb) : UE X E (.IfExp c a b pos) (tIfE tT ta tb) := by
  refine ⟨fun pins B μ en m σ H s Q Qx I g R hx ht => ?_⟩
  refine PyProof.Rows.IfExp_ (thn (hc.run pins B μ en m σ H s _ Qx I g R hx ht) fun d s1 ⟨B1, μ1, m1, H1, I1, g1, st1, R1, q1⟩ => ?_)
  have step : ∀ {e : Expr} {t : DTE}, UE X E e t → t en m1 Q Qx → wpAny (M0 X.prog X.w) X.A (eval e X.env) (UQ X pins B μ en m σ H Q) (UX X E) s1 := fun he q => thn (he.run pins B1 μ1 en m1 σ H1 s1 _ Qx I1 g1 R1 (hx.step st1 R1.mem R.mem.le) q)
    fun v s2 ⟨y, w, B2, μ2, m2, H2, I2, g2, rv, rw, st2, R2, q2⟩ => ⟨y, w, B2, μ2, m2, H2, I2, g2, rv, rw, st1.trans R1.mem st2 R.mem.le, R2, q2⟩
  cases d with
  | true => exact step ha q1
  | false => exact step hb q1
/-- and, or -/
structure UW (X : Cx) (E : XK) (op : BoolOp) (vs : List Expr) (T : DTT) : Prop where
  run : ∀ pins B μ en m σ H s Q Qx, Inv X pins σ H s → Gok H s → Rel X.K B μ en m σ H → ExOf X.K E B μ m H Qx → T en m Q Qx →
    wpAny (M0 X.prog X.w) X.A (allTrue op vs X.env) (fun b s' => ∃ B' μ' m' H', Inv X pins σ H' s' ∧ Gok H' s' ∧ Stp B μ m H B' μ' m' H' ∧ Rel X.K B' μ' en m' σ H' ∧ Q b m') (UX X E) s
theorem UW.ut {op : BoolOp} {vs : List Expr} (h : UW X E op vs tT) : UT X E (.BoolOp op vs pos) tT := ⟨fun pins B μ en m σ H s Q Qx I g R hx ht => wpAny_isTrue_BoolOp (h.run pins B μ en m σ H s Q Qx I g R hx ht)⟩
theorem uw_and1 (ha : UT X E a tT) : UW X E .And [a] tT := ⟨fun pins B μ en m σ H s Q Qx I g R hx ht => wpAny_allTrue_And_cons (thn (ha.run pins B μ en m σ H s Q Qx I g R hx ht) fun b s1 h => by
  cases b with
  | true => exact wpAny_allTrue_And_nil h
  | false => exact h)⟩
theorem uw_or1 (ha : UT X E a tT) : UW X E .Or [a] tT := ⟨fun pins B μ en m σ H s Q Qx I g R hx ht => wpAny_allTrue_Or_cons (thn (ha.run pins B μ en m σ H s Q Qx I g R hx ht) fun b s1 h => by
  cases b with
  | true => exact h
  | false => exact wpAny_allTrue_Or_nil h)⟩
theorem uw_and (ha : UT X E a tT) (hb : UW X E .And (b :: rest) tU) : UW X E .And (a :: b :: rest) (tAndT tT tU) := by
  refine ⟨fun pins B μ en m σ H s Q Qx I g R hx ht => wpAny_allTrue_And_cons (thn (ha.run pins B μ en m σ H s _ Qx I g R hx ht) fun d s1 ⟨B1, μ1, m1, H1, I1, g1, st1, R1, q1⟩ => ?_)⟩
  cases d with
  | false => exact ⟨B1, μ1, m1, H1, I1, g1, st1, R1, q1⟩
  | true => exact thn (hb.run pins B1 μ1 en m1 σ H1 s1 _ Qx I1 g1 R1 (hx.step st1 R1.mem R.mem.le) q1) fun v s2 ⟨B2, μ2, m2, H2, I2, g2, st2, R2, q2⟩ => ⟨B2, μ2, m2, H2, I2, g2, st1.trans R1.mem st2 R.mem.le, R2, q2⟩
theorem uw_or (ha : UT X E a tT) (hb : UW X E .Or (b :: rest) tU) : UW X E .Or (a :: b :: rest) (tOrT tT tU) := by
  refine ⟨fun pins B μ en m σ H s Q Qx I g R hx ht => wpAny_allTrue_Or_cons (thn (ha.run pins B μ en m σ H s _ Qx I g R hx ht) fun d s1 ⟨B1, μ1, m1, H1, I1, g1, st1, R1, q1⟩ => ?_)⟩
  cases d with
  | true => exact ⟨B1, μ1, m1, H1, I1, g1, st1, R1, q1⟩
  | false => exact thn (hb.run pins B1 μ1 en m1 σ H1 s1 _ Qx I1 g1 R1 (hx.step st1 R1.mem R.mem.le) q1) fun v s2 ⟨B2, μ2, m2, H2, I2, g2, st2, R2, q2⟩ => ⟨B2, μ2, m2, H2, I2, g2, st1.trans R1.mem st2 R.mem.le, R2, q2⟩
/-! ### displays -/
theorem u_lst (h : UA X E es tA) : UE X E (.List es pos) (tLs tA) := by
  refine ⟨fun pins B μ en m σ H s Q Qx I g R hx ht => ?_⟩
  refine wpAny_List (thn (h.run pos pins B μ en m σ H s _ Qx I g R hx ht) fun us s1 ⟨vs, ws, B1, μ1, m1, H1, I1, g1, rv, rw, st1, R1, q1⟩ => ?_)
  obtain ⟨ds, rl, hz, q⟩ := oDs_ok rw q1
  refine ⟨by rw [← rv.length, rl.len]; exact hz, ?_⟩
  have np : H1 s1.heap.objs.size = none := I1.hok.fresh (Nat.le_refl _)
  have sl := Stp.laid R1.mem np (o := .lst vs)
  have M1 := R1.mem.laid np (o := .lst vs)
  refine ⟨.ref s1.heap.objs.size, .v (.lst ds), _, μ1, m1, _, I1.laid (o := .lst vs) (t' := s1.toks) (fun b u e => Heap.get?_push_of_some _ e) (Nat.le_refl _) ⟨by rw [rl.len]; exact hz, us, 0, rv, Heap.get?_push_size _ rfl⟩, (g1.stp R1.mem sl).ld fun a ⟨i, h⟩ => ⟨i, h.of rfl⟩, rfl, RW.d (.lst upd_same (rl.to sl.same)), st1.trans R1.mem sl R.mem.le, R1.stp sl M1, q⟩
theorem u_lstO (h : UA X E es tA) : UE X E (.List es pos) (tLsO tA) := by
  refine ⟨fun pins B μ en m σ H s Q Qx I g R hx ht => ?_⟩
  refine wpAny_List (thn (h.run pos pins B μ en m σ H s _ Qx I g R hx ht) fun us s1 ⟨vs, ws, B1, μ1, m1, H1, I1, g1, rv, rw, st1, R1, q1⟩ => ?_)
  obtain ⟨ds, rl, hz, q⟩ := oDs_ok rw q1
  refine ⟨by rw [← rv.length, rl.len]; exact hz, ?_⟩
  have np : H1 s1.heap.objs.size = none := I1.hok.fresh (Nat.le_refl _)
  have kp : ∀ a o, a ≠ s1.heap.objs.size → H1 a = some o → upd H1 s1.heap.objs.size (.lst vs) a = some o := fun a o c e => by rw [upd_ne c]; exact e
  have sl := Stp.push R1.mem np (m := .lst ds) kp
  have M1 := R1.mem.push np (m := .lst ds) (fun a o e => kp a o (ne_of_none (R1.mem.le a o e) np) (R1.mem.le a o e)) kp ⟨vs, upd_same, rl⟩
  refine ⟨.ref s1.heap.objs.size, .loc m1.length, B1, _, _, _, I1.laid (o := .lst vs) (t' := s1.toks) (fun b u e => Heap.get?_push_of_some _ e) (Nat.le_refl _) ⟨by rw [rl.len]; exact hz, us, 0, rv, Heap.get?_push_size _ rfl⟩, (g1.stp R1.mem sl).ld fun a ⟨i, h⟩ => ⟨i, h.of rfl⟩, rfl, ⟨s1.heap.objs.size, rfl, ?_⟩, st1.trans R1.mem sl R.mem.le, R1.stp sl M1, q⟩
  rw [← R1.mem.len]
  simp
theorem u_tup {x1 : Nat} (h : UA X E es tA) : UE X E (.Tuple es x1 pos) (tTu tA) := by
  refine ⟨fun pins B μ en m σ H s Q Qx I g R hx ht => ?_⟩
  refine wpAny_Tuple (thn (h.run pos pins B μ en m σ H s _ Qx I g R hx ht) fun us s1 ⟨vs, ws, B1, μ1, m1, H1, I1, g1, rv, rw, st1, R1, q1⟩ => ?_)
  obtain ⟨ds, rl, hz, q⟩ := oDs_ok rw q1
  refine ⟨by rw [← rv.length, rl.len]; exact hz, ?_⟩
  have np : H1 s1.heap.objs.size = none := I1.hok.fresh (Nat.le_refl _)
  have sl := Stp.laid R1.mem np (o := .tup vs)
  have M1 := R1.mem.laid np (o := .tup vs)
  refine ⟨.ref s1.heap.objs.size, .v (.tup ds), _, μ1, m1, _, I1.laid (o := .tup vs) (t' := s1.toks) (fun b u e => Heap.get?_push_of_some _ e) (Nat.le_refl _) ⟨by rw [rl.len]; exact hz, us, rv, _, Heap.get?_push_size _ rfl, rfl, 0, rfl⟩, (g1.stp R1.mem sl).ld fun a ⟨i, h⟩ => ⟨i, h.of rfl⟩, rfl, RW.d (.tup (.inl upd_same) (rl.to sl.same)), st1.trans R1.mem sl R.mem.le, R1.stp sl M1, q⟩
end
end Fs
set_option Elab.async false
set_option linter.all false
set_option maxRecDepth 100000
set_option maxHeartbeats 8000000
namespace Fs
open PySem PySem.Spec PyProof.Rows L2
/-- a statement's end, by data -/
def SPt (X : Cx) (pins : List (Addr × Obj)) (B : Hp) (μ : List Addr) (m : Me) (H : Hp) (N : Dn) (f : Flow) (s' : Shared) : Prop := match f with
  | .next => ∃ σ' B' μ' en' m' H', Inv X pins σ' H' s' ∧ Gok H' s' ∧ Stp B μ m H B' μ' m' H' ∧ Rel X.K B' μ' en' m' σ' H' ∧ N.nx en' m'
  | .brk => ∃ σ' B' μ' en' m' H', Inv X pins σ' H' s' ∧ Gok H' s' ∧ Stp B μ m H B' μ' m' H' ∧ Rel X.K B' μ' en' m' σ' H' ∧ N.bk en' m'
  | .cont => ∃ σ' B' μ' en' m' H', Inv X pins σ' H' s' ∧ Gok H' s' ∧ Stp B μ m H B' μ' m' H' ∧ Rel X.K B' μ' en' m' σ' H' ∧ N.ct en' m'
  | .ret v => ∃ x w σ' B' μ' m' H', Inv X pins σ' H' s' ∧ Gok H' s' ∧ RelV x v ∧ RW X.K B' μ' x w ∧ Stp B μ m H B' μ' m' H' ∧ MemOk X.K B' μ' m' H' ∧ N.rt w m'
structure US (X : Cx) (E : XK) (st : Stmt) (T : DTS) : Prop where
  run : ∀ pins B μ en m σ H s N, Inv X pins σ H s → Gok H s → Rel X.K B μ en m σ H → ExOf X.K E B μ m H N.xc → T en m N → wpAny (M0 X.prog X.w) X.A (exec st X.env) (SPt X pins B μ m H N) (UX X E) s
structure USs (X : Cx) (E : XK) (st : List Stmt) (T : DTS) : Prop where
  run : ∀ pins B μ en m σ H s N, Inv X pins σ H s → Gok H s → Rel X.K B μ en m σ H → ExOf X.K E B μ m H N.xc → T en m N → wpAny (M0 X.prog X.w) X.A (execs st X.env) (SPt X pins B μ m H N) (UX X E) s
section
variable {X : Cx} {E : XK} {pins : List (Addr × Obj)} {B B1 : Hp} {μ μ1 : List Addr} {en : En} {m m1 : Me} {σ : L2.St} {H H1 : Hp} {s s' : Shared} {N : Dn} {K0 : Hp}
theorem SPt.back (M : MemOk X.K B μ m H) (st : Stp B μ m H B1 μ1 m1 H1) (M1 : MemOk X.K B1 μ1 m1 H1) {f : Flow} (h : SPt X pins B1 μ1 m1 H1 N f s') : SPt X pins B μ m H N f s' := by
  cases f with
  | next => obtain ⟨σ', B', μ', en', m', H', a, b, c, d, e⟩ := h; exact ⟨σ', B', μ', en', m', H', a, b, st.trans M1 c M.le, d, e⟩
  | brk => obtain ⟨σ', B', μ', en', m', H', a, b, c, d, e⟩ := h; exact ⟨σ', B', μ', en', m', H', a, b, st.trans M1 c M.le, d, e⟩
  | cont => obtain ⟨σ', B', μ', en', m', H', a, b, c, d, e⟩ := h; exact ⟨σ', B', μ', en', m', H', a, b, st.trans M1 c M.le, d, e⟩
  | ret v => obtain ⟨x, w, σ', B', μ', m', H', a, b, r1, r2, c, d, e⟩ := h; exact ⟨x, w, σ', B', μ', m', H', a, b, r1, r2, st.trans M1 c M.le, d, e⟩
variable {st : Stmt} {sts : List Stmt} {T U : DTS} {e c : Expr} {te : DTE} {tc : DTT} {pos : Pos}
theorem dn_ends : EndsOf X.K B μ m H N (⟨fun σ' H' => ∃ B' μ' en' m', Stp B μ m H B' μ' m' H' ∧ Rel X.K B' μ' en' m' σ' H' ∧ N.nx en' m', fun v H' => ∃ w B' μ' m', RW X.K B' μ' v w ∧ Stp B μ m H B' μ' m' H' ∧ MemOk X.K B' μ' m' H' ∧ N.rt w m',
    fun σ' H' => ∃ B' μ' en' m', Stp B μ m H B' μ' m' H' ∧ Rel X.K B' μ' en' m' σ' H' ∧ N.bk en' m', fun σ' H' => ∃ B' μ' en' m', Stp B μ m H B' μ' m' H' ∧ Rel X.K B' μ' en' m' σ' H' ∧ N.ct en' m'⟩ : Ends) :=
  ⟨fun B' μ' en' m' σ' H' a b c => ⟨B', μ', en', m', a, b, c⟩, fun B' μ' m' H' x v a b c d => ⟨x, B', μ', m', c, a, b, d⟩, fun B' μ' en' m' σ' H' a b c => ⟨B', μ', en', m', a, b, c⟩, fun B' μ' en' m' σ' H' a b c => ⟨B', μ', en', m', a, b, c⟩⟩
theorem us (h : ∀ E', DS (sxX X E') E' st T) : US X E st T := by
  refine ⟨fun pins B μ en m σ H s N I g R hx ht => ?_⟩
  obtain ⟨t, p, k⟩ := (h (EG E s)).ex
  have w := k B μ en m σ H N _ R (exEG g R.mem hx) ht (dn_ends (X := X))
  refine wpAny_mono (lift_u I.bare (p.run pins (asleep s) σ H _ (toSx I.asl) w)) (fun f s' ⟨s0, q, sl⟩ => ?_) fun _ _ z => z
  cases f with
  | next => obtain ⟨σ', H', I', B', μ', en', m', st, r, q⟩ := q; exact ⟨σ', B', μ', en', m', H', sl.inv (ofSx I'), (g.stp R.mem st).sl sl, st, r, q⟩
  | brk => obtain ⟨σ', H', I', B', μ', en', m', st, r, q⟩ := q; exact ⟨σ', B', μ', en', m', H', sl.inv (ofSx I'), (g.stp R.mem st).sl sl, st, r, q⟩
  | cont => obtain ⟨σ', H', I', B', μ', en', m', st, r, q⟩ := q; exact ⟨σ', B', μ', en', m', H', sl.inv (ofSx I'), (g.stp R.mem st).sl sl, st, r, q⟩
  | ret u => obtain ⟨v, σ', H', I', rv, w, B', μ', m', rw, st, M', q⟩ := q; exact ⟨v, w, σ', B', μ', m', H', sl.inv (ofSx I'), (g.stp R.mem st).sl sl, rv, rw, st, M', q⟩
theorem uss_nil : USs X E [] sNx := ⟨fun pins B μ en m σ H s N I g R hx ht => wpAny_execs_nil ⟨σ, B, μ, en, m, H, I, g, .refl, R, ht⟩⟩
theorem uss_cons (h1 : US X E st T) (h2 : USs X E sts U) : USs X E (st :: sts) (sSeq T U) := by
  refine ⟨fun pins B μ en m σ H s N I g R hx ht => wpAny_execs_cons (thn (h1.run pins B μ en m σ H s { N with nx := fun en1 m1 => U en1 m1 N } I g R hx ht) fun f s' q => ?_)⟩
  cases f with
  | next =>
    obtain ⟨σ', B', μ', en', m', H', I', g', st', R', q⟩ := q
    exact thn (h2.run pins B' μ' en' m' σ' H' s' N I' g' R' (hx.step st' R'.mem R.mem.le) q) fun f s2 q2 => q2.back R.mem st' R'.mem
  | brk => exact q
  | cont => exact q
  | ret v => exact q
theorem uss_one (h1 : US X E st T) : USs X E [st] T := by
  refine ⟨fun pins B μ en m σ H s N I g R hx ht => wpAny_execs_cons (thn (h1.run pins B μ en m σ H s _ I g R hx ht) fun f s' q => ?_)⟩
  cases f with
  | next => exact wpAny_execs_nil q
  | brk => exact q
  | cont => exact q
  | ret v => exact q
theorem us_ret (h : UE X E e te) : US X E (.Return (some e) pos) (sRet te) := by
  refine ⟨fun pins B μ en m σ H s N I g R hx ht => wpAny_Return_some (thn (h.run pins B μ en m σ H s _ _ I g R hx ht) fun v s' ⟨x, w, B', μ', m', H', I', g', rv, rw, st', R', q⟩ => ?_)⟩
  exact ⟨x, w, σ, B', μ', m', H', I', g', rv, rw, st', R'.mem, q⟩
theorem us_if {a b : List Stmt} (hc : UT X E c tc) (ha : USs X E a T) (hb : USs X E b U) : US X E (.If c a b pos) (sIf tc T U) := by
  refine ⟨fun pins B μ en m σ H s N I g R hx ht => wpAny_If (thn (hc.run pins B μ en m σ H s _ _ I g R hx ht) fun d s1 ⟨B1, μ1, m1, H1, I1, g1, st1, R1, q1⟩ => ?_)⟩
  cases d with
  | true => exact thn (ha.run pins B1 μ1 en m1 σ H1 s1 N I1 g1 R1 (hx.step st1 R1.mem R.mem.le) q1) fun f s2 q2 => q2.back R.mem st1 R1.mem
  | false => exact thn (hb.run pins B1 μ1 en m1 σ H1 s1 N I1 g1 R1 (hx.step st1 R1.mem R.mem.le) q1) fun f s2 q2 => q2.back R.mem st1 R1.mem
theorem us_asg {tg : Expr} {g : DTG} {is : List Nat} (he : UE X E e te) (hg : ∀ E', DG (sxX X E') tg is g) (hs : swapsWithSole [tg] e pos.line X.env = pure false := by rfl) (hw : swappedStores [tg] e X.env = pure none := by rfl)
    (h1 : (assignEach [tg] X.env).map (·.2) = [assign tg X.env] := by rfl) : US X E (.Assign [tg] e pos) (sAsg te g) := by
  refine ⟨fun pins B μ en m σ H s N I g R hx ht => wpAny_Assign_stores (thn (he.run pins B μ en m σ H s _ _ I g R hx ht) fun v s1 ⟨x, w, B1, μ1, m1, H1, I1, g1, rv, rw, st1, R1, q1⟩ => ?_) hs hw⟩
  rw [h1]
  obtain ⟨t, p, k⟩ := (hg (EG E s1)).ex
  have wt := k B1 μ1 en m1 σ H1 w x _ (fun σ' H' => ∃ B' μ' en' m', Stp B1 μ1 m1 H1 B' μ' m' H' ∧ Rel X.K B' μ' en' m' σ' H' ∧ N.nx en' m') R1 rw q1 fun B' μ' en' m' σ' H' st' r' _ q => ⟨B', μ', en', m', st', r', q⟩
  show wpAny _ _ (assign tg X.env v) _ _ _
  refine thn (lift_u I1.bare (p.run pins (asleep s1) σ H1 x v _ (toSx I1.asl) rv wt)) fun _ s2 ⟨s0, ⟨σ', H', I', B', μ', en', m', st', r', q⟩, sl⟩ => ?_
  exact ⟨σ', B', μ', en', m', H', sl.inv (ofSx I'), (g1.stp R1.mem st').sl sl, st1.trans R1.mem st' R.mem.le, r', q⟩
theorem drop0 {P : Program} {w : World} {A : Around} {E : Value → Shared → Prop} {s : Shared} {e : Expr} {v : Value} {Q : Flow → Shared → Prop} (h : Q .next s) : wpAny (M0 P w) A (dropValue e pos v) Q E s := by
  unfold dropValue
  split
  · exact wpAny_pure h
  · exact wpAny_bind (wpAny_standAt (wpAny_bind (wpAny_runValue (code_builtin0 (by decide) entry_let_go (show wpAny _ _ (ret .none) _ _ s from wpAny_pure (wpAny_pure h))))))
  · exact wpAny_pure h
theorem us_expr (he : UE X E e te) (hi : interactive X.env = false := by rfl) (hs : swapsWith e none pos.line X.env = pure false := by rfl) : US X E (.Expr e pos) (sExpr te) := by
  refine ⟨fun pins B μ en m σ H s N I g R hx ht => ?_⟩
  rw [exec_Expr X.env e pos hi hs]
  exact wpAny_bind (wpAny_standAt (wpAny_bind (thn (he.run pins B μ en m σ H s _ _ I g R hx ht) fun v s' ⟨x, w, B', μ', m', H', I', g', rv, rw, st', R', q⟩ => drop0 ⟨σ, B', μ', en, m', H', I', g', st', R', q⟩)))
/-- the own frame passes it -/
theorem ux_own : PassesOwn (M0 X.prog X.w) X.A X.env (UX X E) := by
  intro e s' ⟨sx, s0, hx, sl⟩
  have own : PassesOwn (model X.prog X.w) X.A X.env (sxX X (EG E s')).xe := passes_of (X := sxX X (EG E s')) (K := fun e s'' => L2.CX X.prog X.w X.outer X.H_0 X.s_0 (EG E s') e s'') (E₁ := fun e' s'' => L2.CX X.prog X.w X.outer X.H_0 X.s_0 (EG E s') e' s'') rfl
  have up : ∀ {x : Value} {s1 s2 : Shared}, (sxX X (EG E s')).xe x s1 → Slq sx s1 s2 → UX X E x s2 := fun {x s1 s2} h k => ⟨sx, s1, sx_mono (fun c d H' z => ⟨z.1, z.2.ld fun a q => sl.ld2 k q⟩) h, k⟩
  have came : ∀ {x : Value} {s1 s2 : Shared}, cameBackBy (model X.prog X.w) X.A X.env (sxX X (EG E s')).xe x s1 → Slq sx s1 s2 → cameBackBy (M0 X.prog X.w) X.A X.env (UX X E) x s2 := fun {x s1 s2} h k =>
    wpAny_mono (lift_slq k h) (fun _ s3 ⟨s4, q, k2⟩ => up q k2) fun y s3 ⟨s4, q, k2⟩ => up q k2
  have h1 := own e s0 hx
  exact wpAny_mono (lift_slq sl h1) (fun _ s3 ⟨s4, q, k2⟩ => came q k2) fun y s3 ⟨s4, q, k2⟩ => came q k2
end
/-! ### for -/
section
variable {P : Program} {w : World} {A : Around} {s : Shared} {R : Result → Shared → Prop}
theorem code_block0 {env : Env} (h : R (.ok .next) s) : codeAny (M0 P w) A (.block [] env) R s := by
  refine codeAny_of_tree ?_
  rw [den_raw rfl]
  exact wpAny_pure h
theorem code_for0 {target : Expr} {it : Value} {body : List Stmt} {env : Env} (h : wpAny (M0 P w) A (pyNext it) (fun r s1 => match r with
      | none => R (.ok .next) s1
      | some v => wpAny (M0 P w) A (letOwnedTupleGo target it v) (fun _ s2 => wpAny (M0 P w) A (assign target env v) (fun _ s3 => wpAny (M0 P w) A (execs body env) (fun f s4 => match f with
          | .next | .cont => codeAny (M0 P w) A (.forLoop target it body [] env) R s4
          | .brk => R (.ok .next) s4
          | .ret v => R (.ok (.ret v)) s4) (notedBy (M0 P w) A env fun e s' => R (.error e) s') s3) (notedBy (M0 P w) A env fun e s' => R (.error e) s') s2) (notedBy (M0 P w) A env fun e s' => R (.error e) s') s1) (notedBy (M0 P w) A env fun e s' => R (.error e) s') s) :
    codeAny (M0 P w) A (.forLoop target it body [] env) R s := by
  refine codeAny_of_tree ?_
  rw [den_raw rfl]
  show wpAny _ A ((forTurn target it body [] env).onRaise (fun x => do noteFrame x env; theTreesLotGoes x)) _ _ s
  refine wpAny_noted ?_
  simp only [forTurn]
  refine wpAny_bind (wpAny_standAt (wpAny_bind (wpAny_onRaise (wpAny_mono h (fun r s1 h1 => ?_) fun _ _ h' => wpAny_standAt h'))))
  cases r with
  | none => exact wpAny_pure ⟨rfl, code_block0 h1⟩
  | some v =>
    refine wpAny_bind (wpAny_mono h1 (fun _ s2 h2 => ?_) fun _ _ h' => h')
    refine wpAny_bind (wpAny_mono h2 (fun _ s3 h3 => wpAny_bind (wpAny_mono h3 (fun f s4 h4 => ?_) fun _ _ h' => h')) fun _ _ h' => h')
    cases f with
    | next => exact wpAny_pure ⟨rfl, h4⟩
    | cont => exact wpAny_pure ⟨rfl, h4⟩
    | brk => exact wpAny_pure h4
    | ret v => exact wpAny_pure h4
end
section
variable {X : Cx} {E : XK} {tg iter : Expr} {body : List Stmt} {ti : DTI} {g : DTG} {is : List Nat} {tb : DTS} {pos : Pos}
/-- an iterable, in tainted code -/
structure UI (X : Cx) (E : XK) (tg e : Expr) (T : DTI) : Prop where
  run : ∀ pins B μ en m σ H s Q Qx, Inv X pins σ H s → Gok H s → Rel X.K B μ en m σ H → ExOf X.K E B μ m H Qx → T en m Q Qx →
    wpAny (M0 X.prog X.w) X.A (eval e X.env) (fun v s1 => wpAny (M0 X.prog X.w) X.A (pyIter v) (fun itv s2 => ∃ (it : Addr) (fp : List Addr) (tn : Nat → Heap → Prop) (J : It) (B1 : Hp) (μ1 : List Addr) (m1 : Me) (H1 : Hp) (its : List D), itv = .ref it ∧ Inv X pins σ H1 s2 ∧ Gok H1 s2 ∧ Turn X.prog X.w X.K tg J fp it tn ∧ tn 0 s2.heap ∧ (∀ b ∈ fp, FpOk X pins H1 b) ∧
      Stp B μ m H B1 μ1 m1 H1 ∧ Rel X.K B1 μ1 en m1 σ H1 ∧ WalkD X.K B1 J its ∧ Q its m1) (UX X E) s1) (UX X E) s
theorem ui_di (hi : ∀ E', DI (sxX X E') E' tg iter ti) : UI X E tg iter ti := by
  refine ⟨fun pins B μ en m σ H s Q Qx I g0 R hx ht => ?_⟩
  obtain ⟨t0, p0, k0⟩ := (hi (EG E s)).ex
  have w := k0 B μ en m σ H _ _ (fun J H' => ∃ B' μ' m' its, Stp B μ m H B' μ' m' H' ∧ Rel X.K B' μ' en m' σ H' ∧ WalkD X.K B' J its ∧ Q its m') R (exEG g0 R.mem hx) ht fun B' μ' m' H' its J a b c d => ⟨B', μ', m', its, a, b, c, d⟩
  refine wpAny_mono (lift_u I.bare (p0.run pins (asleep s) σ H _ (toSx I.asl) w)) (fun v s1 ⟨s0, hv, sl⟩ => ?_) fun _ _ z => z
  refine wpAny_mono (lift_slq sl hv) (fun itv s2 ⟨s3, hp, sl2⟩ => ?_) fun e s2 ⟨s3, hx3, sl2⟩ => ⟨s, s3, sx_mono (fun c d H' z => ⟨z.1, z.2.sl sl2⟩) hx3, sl2⟩
  obtain ⟨it, fp, tn, J, H1, rfl, I1, tu, st0, hfp, B1, μ1, m1, its, st1, R1, wk, q⟩ := hp
  have hh : s2.heap = s3.heap := by rw [sl2.eq]
  exact ⟨it, fp, tn, J, B1, μ1, m1, H1, its, rfl, sl2.inv (ofSx I1), (g0.stp R.mem st1).sl sl2, tu, by rw [hh]; exact st0, hfp, st1, R1, wk, q⟩
/-- what is walked, by its datum -/
theorem iter_any {pins : List (Addr × Obj)} {σ : L2.St} {H1 : Hp} {s1 : Shared} {R : It → Hp → Prop} {v : Value} {x : V} (I1 : Inv X pins σ H1 s1) (r1 : RelV x v)
    (q1 : (∃ a xs, x = .ref a ∧ SqL X.K H1 a xs ∧ R (Itl X.K a) H1) ∨ (∃ a xs, x = .ref a ∧ SqT X.K H1 a xs ∧ R (Itt X.K a) H1) ∨ (∃ z, x = .str z ∧ R (Its z) H1) ∨ ∃ d o kvs, x = .ref d ∧ H1 d = some (.frz o (.dK kvs)) ∧ R (Itk d o kvs) H1) :
    wpAny (model X.prog X.w) X.A (pyIter v) (PIE X pins σ tg R) X.xe s1 := by
  rcases q1 with ⟨a, xs, rfl, hq, q⟩ | ⟨a, xs, rfl, hq, q⟩ | ⟨z, rfl, q⟩ | ⟨d, o, kvs, rfl, hd, q⟩
  · cases r1
    obtain ⟨its, rv, p, hz⟩ := I1.list hq
    exact wpAny_pyIter_list p.isList (pi_one (tk := s1.toks) I1 _ (turn_list a _) ⟨_, Heap.get?_push_size _ rfl, rfl, rfl⟩ q)
  · cases r1
    obtain ⟨its, rv, p, hz⟩ := I1.tuple hq
    exact wpAny_pyIter_tuple (show s1.heap.IsTuple a its.toArray from p) (pi_one (tk := s1.toks) I1 _ (turn_tuple a _) ⟨_, Heap.get?_push_size _ rfl, rfl, rfl⟩ q)
  · obtain ⟨t, rfl⟩ := r1
    cases ha : z.cps.all (· < 128)
    · exact wpAny_pyIter_wide ha (pi_one (tk := s1.toks) I1 _ (turn_str _ z t "str_iterator" (.inr rfl)) ⟨_, Heap.get?_push_size _ rfl, rfl, rfl⟩ q)
    · exact wpAny_pyIter_ascii ha (pi_one (tk := s1.toks) I1 _ (turn_str _ z t "str_ascii_iterator" (.inl rfl)) ⟨_, Heap.get?_push_size _ rfl, rfl, rfl⟩ q)
  · cases r1
    obtain ⟨hs, hgd, hx, es, ep, vs, hdt, hsz, kv, hm⟩ := I1.frzK hd
    refine iter_keys hs hgd hx hdt (pi_one (tk := s1.toks) I1 _ (turn_keys _ hdt) ⟨_, Heap.get?_push_size _ rfl, rfl, ?_⟩ q)
    rw [hsz] <;> rfl
theorem ui_seq {e : Expr} {te : DTE} (he : UE X E e te) : UI X E tg e (tIt te) := by
  refine ⟨fun pins B μ en m σ H s Q Qx I g0 R hx ht => ?_⟩
  refine thn (he.run pins B μ en m σ H s _ Qx I g0 R hx ht) fun v s1 ⟨x, w, B1, μ1, m1, H1, I1, g1, rv, rw, st1, R1, q1⟩ => ?_
  have fin : ∀ {its : List D} {J : It}, WalkD X.K B1 J its → Q its m1 → ∃ its, WalkD X.K B1 J its ∧ Q its m1 := fun a b => ⟨_, a, b⟩
  have h : wpAny (model X.prog X.w) X.A (pyIter v) (PIE (sxX X (EG E s1)) pins σ tg fun J H' => H' = H1 ∧ ∃ its, WalkD X.K B1 J its ∧ Q its m1) (sxX X (EG E s1)).xe (asleep s1) := by
    refine iter_any (X := sxX X (EG E s1)) (toSx I1.asl) rv ?_
    cases w with
    | loc n => exact q1.elim
    | v d =>
      cases (show Rv X.K B1 x d from rw) with
      | lst h rl => exact .inl ⟨_, _, rfl, .inl (.inl (R1.mem.le _ _ h)), rfl, fin (walkD_lst h rl) q1⟩
      | tup h rl => exact .inr (.inl ⟨_, _, rfl, R1.mem.le.tup h, rfl, fin (walkD_tup h rl) q1⟩)
      | str h => exact .inr (.inr (.inl ⟨_, rfl, rfl, fin (walkD_str h) q1⟩))
      | dic h rl => exact .inr (.inr (.inr ⟨_, _, _, rfl, R1.mem.le _ _ h, rfl, fin (walkD_keys h rl) q1⟩))
      | non => exact q1.elim
      | bl _ => exact q1.elim
      | int _ => exact q1.elim
      | ty _ => exact q1.elim
      | fn _ => exact q1.elim
      | obj _ _ => exact q1.elim
      | exc _ _ _ => exact q1.elim
  refine wpAny_mono (lift_u I1.bare h) (fun itv s2 ⟨s3, ⟨it, fp, tn, J, H2, e1, I2, tu, st0, hfp, eH, its, wk, q⟩, sl2⟩ => ?_) fun _ _ z => z
  subst e1 eH
  have hh : s2.heap = s3.heap := by rw [sl2.eq]
  exact ⟨it, fp, tn, J, B1, μ1, m1, _, its, rfl, sl2.inv (ofSx I2), g1.sl sl2, tu, by rw [hh]; exact st0, hfp, st1, R1, wk, q⟩
theorem us_forI (hc : X.calm = true) (hi : UI X E tg iter ti) (hg : ∀ E', DG (sxX X E') tg is g) (hb : USs X E body tb) (hs : ∀ x, foldedSetIterable iter X.env x = pure x := by intro _; rfl) : US X E (.For tg iter body [] pos) (sFor ti g tb) := by
  refine ⟨fun pins B μ en m σ H s N I g0 R hx ht => ?_⟩
  refine wpAny_For (thn (hi.run pins B μ en m σ H s _ _ I g0 R hx ht) fun v s1 hv => thn hv fun itv s2 hp => ?_) hs
  obtain ⟨it, fp, tn, J, B1, μ1, m1, H1, its, rfl, I1, g1, tu, st0, hfp, st1, R1, ⟨Gp, Y, wk, hG, hY⟩, q⟩ := hp
  have loop : ∀ (n i : Nat) (B2 : Hp) (μ2 : List Addr) (en2 : En) (m2 : Me) (σ2 : L2.St) (H2 : Hp) (s2 : Shared), its.length - i = n → i ≤ its.length → Inv X pins σ2 H2 s2 → Gok H2 s2 → Stp B1 μ1 m1 H1 B2 μ2 m2 H2 → Rel X.K B2 μ2 en2 m2 σ2 H2 → tn i s2.heap → (∀ b ∈ fp, H2 b = none) → sForL g tb (its.drop i) en2 m2 N →
      codeAny (M0 X.prog X.w) X.A (.forLoop tg (.ref it) body [] X.env) (fun r s' => match r with | .ok f => SPt X pins B μ m H N f s' | .error e => cameBackBy (M0 X.prog X.w) X.A X.env (UX X E) e s') s2 := by
    intro n
    induction n with
    | zero =>
      intro i B2 μ2 en2 m2 σ2 H2 s2 hn hi I2 g2 st2 R2 tni hn2 q2
      have ei : i = its.length := by omega
      subst ei
      rw [List.drop_length] at q2
      have wd := tu.done X rfl rfl rfl hc its.length pins (asleep s2) σ2 H2 (fun _ _ => False) I2.asl (fun b hb => ⟨hn2 b hb, (hfp b hb).2⟩) tni (wk.stops H2 (hG B2 μ2 m2 H2 st2.same R2.mem))
      refine code_for0 (wpAny_mono (lift_slp I2.bare wd) (fun r s4 ⟨s5, ⟨er, I5⟩, sl5⟩ => ?_) fun _ _ ⟨_, hx, _⟩ => hx.elim)
      subst er
      exact ⟨σ2, B2, μ2, en2, m2, H2, sl5.inv I5, g2.sl sl5, st1.trans R1.mem st2 R.mem.le, R2, q2⟩
    | succ n ih =>
      intro i B2 μ2 en2 m2 σ2 H2 s2 hn hi I2 g2 st2 R2 tni hn2 q2
      have hl : i < its.length := by omega
      have Gp2 := hG B2 μ2 m2 H2 st2.same R2.mem
      have wd := tu.item X rfl rfl rfl hc i pins (asleep s2) σ2 H2 (fun _ _ => False) I2.asl (fun b hb => ⟨hn2 b hb, (hfp b hb).2⟩) tni (wk.goes i H2 hl Gp2)
      refine code_for0 (wpAny_mono (lift_slp I2.bare wd) (fun r s4 ⟨s5, ⟨u, er, w5⟩, sl5⟩ => ?_) fun _ _ ⟨_, hx, _⟩ => hx.elim)
      subst er
      refine wpAny_mono (lift_slq sl5 w5) (fun _ s6 ⟨s7, ⟨x, H3, I7, rx, yl, tn7, hn7⟩, sl7⟩ => ?_) fun _ _ ⟨_, hx, _⟩ => hx.elim
      obtain ⟨B3, d, ed, st3, M3, rd⟩ := hY i B2 μ2 m2 H2 x H3 hl st2.same R2.mem (wk.yields i H2 x H3 hl Gp2 yl)
      have R3 := R2.stp st3 M3
      have h67 : s6.heap = s7.heap := by rw [sl7.eq]
      have I6 : Inv X pins σ2 H3 s6 := sl7.inv I7
      have g6 : Gok H3 s6 := (g2.stp R2.mem st3).sl sl7
      have tn6 : tn (i + 1) s6.heap := by rw [h67]; exact tn7
      have I6p := I6.pinned (fun b hb => ⟨hn7 b hb, (hfp b hb).2⟩) (tu.obj _ _ tn6)
      rw [List.drop_eq_getElem_cons hl] at q2
      have ed2 : its[i] = d := by
        rw [List.getElem?_eq_getElem hl] at ed
        exact Option.some.inj ed
      rw [ed2] at q2
      obtain ⟨t, p, k⟩ := (hg (EG E s6)).ex
      have wt := k B3 μ2 en2 m2 σ2 H3 (.v d) x _ (fun σ' H' => ∃ B' μ' en' m', Stp B3 μ2 m2 H3 B' μ' m' H' ∧ Rel X.K B' μ' en' m' σ' H' ∧ tb en' m' { N with nx := fun en2 m2 => sForL g tb (its.drop (i + 1)) en2 m2 N, ct := fun en2 m2 => sForL g tb (its.drop (i + 1)) en2 m2 N, bk := N.nx }) R3 (RW.d rd) q2 fun B' μ' en' m' σ' H' st' r' _ q => ⟨B', μ', en', m', st', r', q⟩
      refine wpAny_mono (lift_u I6.bare (p.run _ (asleep s6) σ2 H3 x u _ (toSx I6p.asl) rx wt)) (fun _ s8 ⟨s9, ⟨σ4, H4, I9, B4, μ4, en4, m4, st4, R4, q4⟩, sl9⟩ => ?_) ux_own
      have I8 : Inv X (pins ++ pinsAt fp s6.heap) σ4 H4 s8 := sl9.inv (ofSx I9)
      have g8 : Gok H4 s8 := (g6.stp R3.mem st4).sl sl9
      have stA : Stp B1 μ1 m1 H1 B4 μ4 m4 H4 := (st2.trans R2.mem st3 R1.mem.le).trans R3.mem st4 R1.mem.le
      have stB : Stp B μ m H B4 μ4 m4 H4 := st1.trans R1.mem stA R.mem.le
      have pin' : ∀ {σ' : L2.St} {H' : Hp} {s' : Shared}, Inv X (pins ++ pinsAt fp s6.heap) σ' H' s' → ∀ b ∈ fp, ∀ o, s6.heap.get? b = some o → s'.heap.get? b = some o ∧ H' b = none := fun {σ' H' s'} I' b hb o e =>
        let z := I'.pin (b, o) (List.mem_append_right _ (List.mem_append_right _ (mem_pinsAt hb e)))
        ⟨z.1, z.2.1⟩
      have again : ∀ {σ' : L2.St} {B' : Hp} {μ' : List Addr} {en' : En} {m' : Me} {H' : Hp} {s' : Shared}, Inv X (pins ++ pinsAt fp s6.heap) σ' H' s' → Gok H' s' → Stp B4 μ4 m4 H4 B' μ' m' H' → Rel X.K B' μ' en' m' σ' H' → sForL g tb (its.drop (i + 1)) en' m' N → _ := fun {σ' B' μ' en' m' H' s'} I' g' st' R' q' =>
        ih (i + 1) B' μ' en' m' σ' H' s' (by omega) (by omega) I'.unpinned g' (stA.trans R4.mem st' R1.mem.le) R' (tu.keep _ _ _ tn6 fun b hb o e => (pin' I' b hb o e).1) (fun b hb => by
          obtain ⟨o, e, _⟩ := tu.obj _ _ tn6 b hb
          exact (pin' I' b hb o e).2) q'
      refine wpAny_mono (hb.run (pins ++ pinsAt fp s6.heap) B4 μ4 en4 m4 σ4 H4 s8 { N with nx := fun en2 m2 => sForL g tb (its.drop (i + 1)) en2 m2 N, ct := fun en2 m2 => sForL g tb (its.drop (i + 1)) en2 m2 N, bk := N.nx } I8 g8 R4 (hx.step stB R4.mem R.mem.le) q4) (fun f s' hq => ?_) ux_own
      cases f with
      | next =>
        obtain ⟨σ', B', μ', en', m', H', I', g', st', R', q'⟩ := hq
        exact again I' g' st' R' q'
      | cont =>
        obtain ⟨σ', B', μ', en', m', H', I', g', st', R', q'⟩ := hq
        exact again I' g' st' R' q'
      | brk =>
        obtain ⟨σ', B', μ', en', m', H', I', g', st', R', q'⟩ := hq
        exact ⟨σ', B', μ', en', m', H', I'.unpinned, g', stB.trans R4.mem st' R.mem.le, R', q'⟩
      | ret v =>
        obtain ⟨x', w', σ', B', μ', m', H', I', g', rv, rw, st', M', q'⟩ := hq
        exact ⟨x', w', σ', B', μ', m', H', I'.unpinned, g', rv, rw, stB.trans R4.mem st' R.mem.le, M', q'⟩
  exact loop its.length 0 B1 μ1 en m1 σ H1 s2 rfl (Nat.zero_le _) I1 g1 .refl R1 st0 (fun b hb => (hfp b hb).1) q
theorem us_for (hc : X.calm = true) (hi : ∀ E', DI (sxX X E') E' tg iter ti) (hg : ∀ E', DG (sxX X E') tg is g) (hb : USs X E body tb) (hs : ∀ x, foldedSetIterable iter X.env x = pure x := by intro _; rfl) : US X E (.For tg iter body [] pos) (sFor ti g tb) := us_forI hc (ui_di hi) hg hb hs
end
end Fs
set_option Elab.async false
set_option linter.all false
set_option maxRecDepth 100000
set_option maxHeartbeats 8000000
namespace Fs
open PySem PySem.Spec PyProof.Rows L2
section
variable {P : Program} {w : World} {A : Around} {s : Shared} {R : Result → Shared → Prop}
theorem code_callfn0 {f : Addr} {args : Args} {of_ : Obj} {fd : FuncData} {body : List Stmt} (room : A.depth < recursionLimit) (hf : s.heap.get? f = some of_) (hfd : of_.data = .func fd) (h1 : fd.scope.isCoroutine = false) (h2 : fd.scope.isGenerator = false) (h3 : fd.body = .stmts body)
    (hcode : s.heap.CodeRec fd.code fd.qualname)
    (h : wpAny (M0 P w) A.in1 (bindArgs fd args) (fun bs t => wpAny (M0 P w) A.in1 (newFunctionEnv fd.scope fd.globals fd.closure bs (fd.qualname ++ ".<locals>.") (some f) fd.code none fd.builtins)
      (fun env t2 => t2.heap.NoLimit ∧ codeAny (M0 P w) A (.func body env) R t2) (fun e t2 => R (.error e) t2) t) (fun e t => R (.error e) t) s) : codeAny (M0 P w) A (.call (.ref f) args) R s := by
  obtain ⟨ca, co, cv, ct, ec, e1, e2, e3⟩ := hcode
  rw [ec] at h
  refine codeAny_of_tree ?_
  rw [den_raw rfl]
  show wpAny _ A.in1 (callAny (.ref f) args) _ _ s
  simp only [callAny]
  refine wpAny_bind (wpAny_load hf ?_)
  simp only [hfd, callFunction, h1, h2, h3, ec]
  refine wpAny_bind (m := field (.ref ca) 1) (wpAny_field e1 e2 e3 (wpAny_bind (wpAny_pure (wpAny_bind (wpAny_mono h (fun bs t ht => ?_) fun _ _ x => x)))))
  exact wpAny_bind (wpAny_mono ht (fun env t2 q => wpAny_bind (wpAny_enterFrame q.1 room (wpAny_pure (And.intro rfl q.2)))) fun _ _ x => x)
theorem code_func0 {body : List Stmt} {env : Env} (h : wpAny (M0 P w) (A.deeper env) (execs body env) (fun f s' => R (.ok (.ret (match f with | .ret v => v | _ => .none))) s')
      (fun e s' => wpAny (M0 P w) (A.deeper env) (leaving env e) (fun _ s'' => R (.error e) s'') (fun e' s'' => R (.error e') s'') s') s) : codeAny (M0 P w) A (.func body env) R s := by
  refine codeAny_of_tree ?_
  rw [den_raw rfl]
  show wpAny _ (A.deeper env) (do point; match ← (execs body env).onRaise (leaving env) with | .ret v => ret v | _ => ret .none) _ _ s
  refine wpAny_bind (wpAny_point (wpAny_bind (wpAny_onRaise (wpAny_mono h (fun f s' h' => ?_) fun _ _ h' => h'))))
  cases f <;> exact wpAny_pure h'
end
/-- a tainted def's promise -/
structure UnOk (P : Program) (w : World) (K : Frag) (mg : Str → Option Value) (base : Heap) (k : Nat) (f : Addr) (fd : FuncData) (ps : List Str) (sp : SpD) : Prop where
  len : ∀ ws m Q Qx, sp ws m Q Qx → ws.length = ps.length
  run : ∀ (A : Around) (outer : List Env) (s : Shared) (H : Hp) (args : Args) (us : List Value) (vs : List V) (ws : List W) (B : Hp) (μ : List Addr) (m : Me) (Q : W → Me → Prop) (Qx : QX) (E : XK), Room k A → Env0 P w K mg base A outer s H → Gok H s → MemOk K B μ m H → BindsTo s fd args (ps.zip us) → Vals vs us → RWs K B μ vs ws → ExOf K E B μ m H Qx → sp ws m Q Qx →
    codeAny (M0 P w) A (.call (.ref f) args) (fun r s' => CR (L2.CX P w) outer P w H s (fun v H' => ∃ B' μ' m' x, Stp B μ m H B' μ' m' H' ∧ MemOk K B' μ' m' H' ∧ RW K B' μ' v x ∧ Q x m' ∧ Gok H' s') (EG E s') r s') s
theorem UnOk.mono {P : Program} {w : World} {K : Frag} {mg : Str → Option Value} {base : Heap} {j k : Nat} {f : Addr} {fd : FuncData} {ps : List Str} {sp : SpD} (F : UnOk P w K mg base j f fd ps sp) (h : j ≤ k) : UnOk P w K mg base k f fd ps sp :=
  ⟨F.len, fun A outer s H args us vs ws B μ m Q Qx E hr => F.run A outer s H args us vs ws B μ m Q Qx E (hr.mono h)⟩
/-- how a def's end is asked: own objects gone, or kept -/
def dEnd (o : Bool) (m : Me) (Q : W → Me → Prop) (Qx : QX) : Dn := if o = true then defO Q Qx else defN m Q Qx
section
variable {P : Program} {w : World} {K : Frag} {mg : Str → Option Value} {base : Heap} {k : Nat} {x qual : Str} {params : Arguments} {body : List Stmt} {scope : Scope} {dvs : List V} {kws : List (Str × V)} {f : Addr} {fd : FuncData} {N ps : List Str} {sp : SpD}
/-- THE RULE: a tainted def, by its body -/
theorem un_of (o : Bool) (F : FunD K x qual params body scope dvs kws f fd) (S : FnScope N ps scope) (len : ∀ ws m Q Qx, sp ws m Q Qx → ws.length = ps.length)
    (hbody : ∀ (cdv : Value) (A : Around) (outer : List Env) (s : Shared) (H : Hp), Room k (A.deeper (envOfC qual scope s.heap.objs.size f cdv)) → ∀ E,
      ∃ T, USs (cxOf (L2.CX P w) P w K mg base N qual scope f cdv A outer s H E0) E body T ∧ ∀ ws m Q Qx, sp ws m Q Qx → T (startE N ws) m (dEnd o m Q Qx)) : UnOk P w K mg base (k + 1) f fd ps sp := by
  obtain ⟨oc, od, dV, kV, doc, pm, an, cdv, ct, osl, rfl, lk, hcd, _, _⟩ := F.ex
  refine ⟨len, fun A outer s H args us vs ws B μ m Q Qx E hr e0 g M hb r rw hx hsp => ?_⟩
  have hl : vs.length = ps.length := by rw [rw.len]; exact len _ _ _ _ hsp
  have KX : K.In s.heap := e0.mod.kin.keeps fun b o e => (e0.bs b o e).1
  have lim : s.heap.NoLimit := e0.mod.nolimit.keeps fun b o e => (e0.bs b o e).1
  have hkind : ∀ y ∈ ps.zip us, scope.names.lookup y.1 = some .local ∨ (scope.names.lookup y.1 = some .cell ∧ ((cellsFrom (s.heap.objs.size + 1) scope.names []).lookup y.1).isSome = true) := fun ⟨n, v⟩ hy => by
    rcases S.par n (List.of_mem_zip hy).1 with q | q
    · exact .inl q
    · exact .inr ⟨q, PySem.W.cellsFrom_some _ _ _ (.inl q)⟩
  refine code_callfn0 hr.depth (KX _ _ lk) rfl S.co S.gen rfl (PySem.W.codeRec_of KX hcd) (hb _ _ _ _ ?_)
  refine wpAny_newFunctionEnv_cells S.kind hkind fun env he s1 x => ?_
  subst he
  have gens1 : s1.gens = s.gens := by
    obtain ⟨h1, tk, es1, hk1⟩ := x.done
    rw [es1]
  refine ⟨lim.keeps x.toInCall.keep, code_func0 ?_⟩
  obtain ⟨T, hT, hq⟩ := hbody cdv A outer s H (hr.deeper _) E
  have I : Inv (cxOf (L2.CX P w) P w K mg base N qual scope f cdv A outer s H E0) [] (start N vs) H s1 := inv_start S hr.hd e0 hl r x
  have g1 : Gok H s1 := g.ld fun a ⟨i, h⟩ => ⟨i, h.of (by rw [gens1])⟩
  have hx1 : ExOf K E B μ m H (dEnd o m Q Qx).xc := by
    cases o with
    | true => exact hx
    | false =>
      intro B' μ' m' H' er dd fvs s' M' hd rf q
      obtain ⟨⟨more, rfl⟩, q⟩ := q
      exact hx B' μ m H' er dd fvs s'.drop (M.drop s'.pre M') hd rf q
  have fin : ∀ {σ' : L2.St} {H' : Hp} {v : V} {u : Value} {y : W} {B' : Hp} {μ' : List Addr} {m' : Me} {s' : Shared}, Inv (cxOf (L2.CX P w) P w K mg base N qual scope f cdv A outer s H E0) [] σ' H' s' → Gok H' s' → RelV v u → RW K B' μ' v y → Stp B μ m H B' μ' m' H' → MemOk K B' μ' m' H' → (dEnd o m Q Qx).rt y m' →
      CE outer P w H s (fun v H' => ∃ B' μ' m' x, Stp B μ m H B' μ' m' H' ∧ MemOk K B' μ' m' H' ∧ RW K B' μ' v x ∧ Q x m' ∧ Gok H' s') u s' := fun {σ' H' v u y B' μ' m' s'} J g' rv rw st M' q => by
    cases o with
    | true => exact ⟨v, H', J.os, J.bare, J.base, J.hok, rv, B', μ', m', y, st, M', rw, q, g'⟩
    | false =>
      cases y with
      | loc n => exact q.elim
      | v d =>
        obtain ⟨⟨more, rfl⟩, q⟩ := q
        exact ⟨v, H', J.os, J.bare, J.base, J.hok, rv, B', μ, m, .v d, st.drop, M.drop st.pre M', rw, q, g'⟩
  refine wpAny_mono (hT.run [] B μ (startE N ws) m (start N vs) H s1 (dEnd o m Q Qx) I g1 (startE_rel M rw) hx1 (hq ws m Q Qx hsp)) (fun fl s' hs => ?_) fun e s' ⟨sx, s0, hx0, sl⟩ => ?_
  · cases fl with
    | ret u =>
      obtain ⟨v, y, σ', B', μ', m', H', J, g', rv, rw', st, M', q⟩ := hs
      exact fin J g' rv rw' st M' q
    | next =>
      obtain ⟨σ', B', μ', en', m', H', J, g', st, R', q⟩ := hs
      refine fin (v := V.non) (u := Value.none) (y := .v .non) J g' rfl (RW.d .non) st R'.mem ?_
      cases o with
      | true => exact q
      | false => exact q
    | brk =>
      obtain ⟨_, _, _, _, _, _, _, _, _, _, q⟩ := hs
      cases o <;> exact False.elim q
    | cont =>
      obtain ⟨_, _, _, _, _, _, _, _, _, _, q⟩ := hs
      cases o <;> exact False.elim q
  · have up : ∀ {y : Value} {s1 s2 : Shared}, L2.CX P w outer H s (EG E s') y s1 → Slq sx s1 s2 → L2.CX P w outer H s (EG E s2) y s2 := fun {y s1 s2} c k => by
      have c2 := CX_gens c (g := s2.gens) k.bare
      rw [← k.eq] at c2
      exact cx_mono (fun _ _ _ z => ⟨z.1, z.2.ld fun a q => sl.ld2 k q⟩) c2
    have hx0 : wpAny (model P w) (A.deeper (envOfC qual scope s.heap.objs.size f cdv)) (leaving (envOfC qual scope s.heap.objs.size f cdv) e) (fun _ s'' => L2.CX P w outer H s (EG E s') e s'') (fun e' s'' => L2.CX P w outer H s (EG E s') e' s'') s0 := hx0
    exact wpAny_mono (lift_slq sl hx0) (fun _ s2 ⟨s1, q, k⟩ => up q k) fun y s2 ⟨s1, q, k⟩ => up q k
end
/-! ### calls -/
structure GU (P : Program) (w : World) (K : Frag) (mg : Str → Option Value) (base : Heap) (k : Nat) (x : Str) (ps : List Str) (sp : SpD) : Prop where
  ex : ∃ f fd, mg x = some (.ref f) ∧ PySem.W.keepIn K (.ref f) = true ∧ Binds K fd ps [] ∧ UnOk P w K mg base k f fd ps sp
theorem GU.mono {P : Program} {w : World} {K : Frag} {mg : Str → Option Value} {base : Heap} {j k : Nat} {x : Str} {ps : List Str} {sp : SpD} (G : GU P w K mg base j x ps sp) (h : j ≤ k) : GU P w K mg base k x ps sp := by
  obtain ⟨f, fd, a, b, c, F⟩ := G.ex
  exact ⟨f, fd, a, b, c, F.mono h⟩
/-- with keywords -/
structure GUk (P : Program) (w : World) (K : Frag) (mg : Str → Option Value) (base : Heap) (k : Nat) (x : Str) (n : Nat) (ks : List Str) (gV : List V → List V → List V) (ps : List Str) (sp : SpD) : Prop where
  ex : ∃ f fd g, mg x = some (.ref f) ∧ PySem.W.keepIn K (.ref f) = true ∧ KBn K fd ps n ks g gV ∧ UnOk P w K mg base k f fd ps sp
structure GUd (P : Program) (w : World) (K : Frag) (mg : Str → Option Value) (base : Heap) (k : Nat) (x : Str) (ps : List Str) (dw : List D) (sp : SpD) : Prop where
  ex : ∃ f fd dv ds, mg x = some (.ref f) ∧ PySem.W.keepIn K (.ref f) = true ∧ Vals dv ds ∧ (∀ B, RvL K B dv dw) ∧ Binds K fd ps ds ∧ UnOk P w K mg base k f fd ps sp
structure UK (X : Cx) (E : XK) (kws : List Keyword) (T : DTA) : Prop where
  run : ∀ pos pins B μ en m σ H s Q Qx, Inv X pins σ H s → Gok H s → Rel X.K B μ en m σ H → ExOf X.K E B μ m H Qx → T en m Q Qx →
    wpAny (M0 X.prog X.w) X.A (evalAll ((backToKw pos (keywordEach kws X.env)).map (·.2))) (fun us s' => ∃ vs ws B' μ' m' H', Inv X pins σ H' s' ∧ Gok H' s' ∧ Vals vs us ∧ RWs X.K B' μ' vs ws ∧ Stp B μ m H B' μ' m' H' ∧ Rel X.K B' μ' en m' σ H' ∧ Q ws m') (UX X E) s
section
variable {X : Cx} {E : XK} {pins : List (Addr × Obj)} {σ : L2.St} {H H2 : Hp} {s s2 : Shared} {B B2 : Hp} {μ μ2 : List Addr} {en : En} {m m2 : Me} {Q : W → Me → Prop} {Qx : QX}
variable {x : Str} {e : Expr} {es : List Expr} {kws : List Keyword} {p pos : Pos} {tA tK : DTA} {k : Nat} {f : Addr} {fd : FuncData} {ps ks : List Str} {sp : SpD} {gV : List V → List V → List V} {g : List Value → List Value → List Value}
theorem uk (h : ∀ E', DK (sxX X E') E' kws tK) : UK X E kws tK := by
  refine ⟨fun pos pins B μ en m σ H s Q Qx I g R hx ht => ?_⟩
  obtain ⟨t, p, k⟩ := (h (EG E s)).ex
  have w := k B μ en m σ H Q Qx (fun vs H' => ∃ B' μ' m' ws, Stp B μ m H B' μ' m' H' ∧ Rel X.K B' μ' en m' σ H' ∧ RWs X.K B' μ' vs ws ∧ Q ws m') R (exEG g R.mem hx) ht fun B' μ' m' H' ws vs st r rw q => ⟨B', μ', m', ws, st, r, rw, q⟩
  refine wpAny_mono (lift_u I.bare (p.run pos pins (asleep s) σ H _ (toSx I.asl) w)) (fun us s' ⟨s0, ⟨vs, H', I', rv, B', μ', m', ws, st, r, rw, q⟩, sl⟩ => ?_) fun _ _ z => z
  exact ⟨vs, ws, B', μ', m', H', sl.inv (ofSx I'), (g.stp R.mem st).sl sl, rv, rw, st, r, q⟩
theorem ua (h : ∀ E', DA (sxX X E') E' es tA) : UA X E es tA := by
  refine ⟨fun pos pins B μ en m σ H s Q Qx I g R hx ht => ?_⟩
  obtain ⟨t, p, k⟩ := (h (EG E s)).ex
  have w := k B μ en m σ H Q Qx (fun vs H' => ∃ B' μ' m' ws, Stp B μ m H B' μ' m' H' ∧ Rel X.K B' μ' en m' σ H' ∧ RWs X.K B' μ' vs ws ∧ Q ws m') R (exEG g R.mem hx) ht fun B' μ' m' H' ws vs st r rw q => ⟨B', μ', m', ws, st, r, rw, q⟩
  refine wpAny_mono (lift_u I.bare (p.run pos pins (asleep s) σ H _ (toSx I.asl) w)) (fun us s' ⟨s0, ⟨vs, H', I', rv, B', μ', m', ws, st, r, rw, q⟩, sl⟩ => ?_) fun _ _ z => z
  exact ⟨vs, ws, B', μ', m', H', sl.inv (ofSx I'), (g.stp R.mem st).sl sl, rv, rw, st, r, q⟩
/-- the callee runs -/
theorem run_un (hs : X.stack = X.env :: X.outer) (hf : X.env.frame = some X.env.locals) (hex : X.ex = []) (F : UnOk X.prog X.w X.K X.mg X.base k f fd ps sp) (hr : Room k X.A) (I2 : Inv X pins σ H2 s2) (g2 : Gok H2 s2) (M : MemOk X.K B μ m H) (st2 : Stp B μ m H B2 μ2 m2 H2) (R2 : Rel X.K B2 μ2 en m2 σ H2)
    (hx : ExOf X.K E B μ m H Qx) {us us' : List Value} {kw : List (Str × Value)} {vs : List V} {ws : List W} (hb : BindsTo s2 fd ⟨us, kw⟩ (ps.zip us')) (rv : Vals vs us') (rw : RWs X.K B2 μ2 vs ws) (h : sp ws m2 Q Qx) :
    wpAny (M0 X.prog X.w) X.A (call (.ref f) us kw) (UQ X pins B μ en m σ H Q) (UX X E) s2 := by
  refine wpAny_call (codeAny_mono (F.run X.A X.stack s2 H2 ⟨us, kw⟩ us' vs ws B2 μ2 m2 Q Qx E hr I2.env0 g2 R2.mem hb rv rw (hx.step st2 R2.mem M.le) h) fun r s' hq => ?_)
  cases r with
  | error e =>
    have hq : L2.CX X.prog X.w X.stack H2 s2 (EG E s') e s' := hq
    have hbr : AllBare s'.gens := by
      obtain ⟨_, _, _, _, _, _, _, _, _, _, _, hb, _⟩ := hq
      exact hb
    have pc := passE (X := sxX X (EG E s')) (takes_of hs hf hex rfl) pins σ H2 s2 e (asleep s') (toSx I2) (CX_gens hq fun _ => asleep_bare hbr)
    exact ⟨s', asleep s', pc, Sj.of hbr, fun _ _ => rfl, asleep_bare hbr⟩
  | ok fl =>
    cases fl with
    | ret u =>
      obtain ⟨v, H', I', rv, B', μ', m', x, st, M', rw, q, g'⟩ := I2.after hq
      exact ⟨v, x, B', μ', m', H', I', g', rv, rw, st2.trans R2.mem st M.le, R2.stp st M', q⟩
    | next => exact False.elim hq
    | brk => exact False.elim hq
    | cont => exact False.elim hq
theorem u_call (hs : X.stack = X.env :: X.outer) (hf : X.env.frame = some X.env.locals) (hex : X.ex = []) (G : GU X.prog X.w X.K X.mg X.base k x ps sp) (hr : Room k X.A) (ha : UA X E (e :: es) tA)
    (hg : Gl X x := by rfl) (hdb : (x == ("__debug__" : Str)) = false := by decide) (he : starEach (e :: es) X.env = (false, eval e X.env) :: starEach es X.env := by rfl) (hpl : (backTo pos (starEach es X.env)).any (·.1) = false := by rfl) : UE X E (.Call (.Name x p) (e :: es) [] pos) (tCal sp tA) := by
  refine ⟨fun pins B μ en m σ H s Q Qx I g R hx ht => ?_⟩
  obtain ⟨f, fd, hm, hk, hb, F⟩ := G.ex
  refine wpAny_Call_Name_kw (u_look I g (ld_glob I.asl hg hm ⟨rfl, rfl⟩ hdb) fun s1 I1 g1 => ?_)
  refine PySem.W.callWith_K (h₀ := X.base) I.ok.mod.kin hk (thn (ha.run pos pins B μ en m σ H s1 _ Qx I1 g1 R hx ht) fun us s2 ⟨vs, ws, B2, μ2, m2, H2, I2, g2, rvs, rws, st2, R2, q2⟩ => ⟨I2.kIn, ?_⟩) he hpl
  refine run_un hs hf hex F hr I2 g2 R.mem st2 R2 hx (us' := us ++ []) ?_ (by rw [List.append_nil]; exact rvs) rws q2
  exact hb s2 us I2.kIn (by rw [List.append_nil, ← rvs.length, rws.len]; exact F.len _ _ _ _ q2)
theorem u_callK0 (hs : X.stack = X.env :: X.outer) (hf : X.env.frame = some X.env.locals) (hex : X.ex = []) (G : GUk X.prog X.w X.K X.mg X.base k x 0 ks gV ps sp) (hgv : ∀ zs : List V, gV [] zs = zs) (hr : Room k X.A) (hkw : UK X E kws tK) (hl : ∀ en m Q Qx, tK en m Q Qx → tK en m (fun ws m' => ws.length = ks.length ∧ Q ws m') Qx)
    (hg : Gl X x := by rfl) (hall : (backToKw pos (keywordEach kws X.env)).all (·.1.isSome) = true := by rfl) (hks : (backToKw pos (keywordEach kws X.env)).filterMap (·.1) = ks := by rfl)
    (hdb : (x == ("__debug__" : Str)) = false := by decide) (hpl : ((backTo pos (starEach [] X.env)).any (·.1) || (backToKw pos (keywordEach kws X.env)).any (·.1.isNone)) = false := by rfl) : UE X E (.Call (.Name x p) [] kws pos) (tCal sp tK) := by
  refine ⟨fun pins B μ en m σ H s Q Qx I g R hx ht => ?_⟩
  obtain ⟨f, fd, gg, hm, hk, hb, F⟩ := G.ex
  refine wpAny_Call_Name_kw (u_look I g (ld_glob I.asl hg hm ⟨rfl, rfl⟩ hdb) fun s1 I1 g1 => ?_)
  refine PySem.W.callWith_KW0 (h₀ := X.base) I.ok.mod.kin hk hall (thn (hkw.run pos pins B μ en m σ H s1 _ Qx I1 g1 R hx (hl _ _ _ _ ht)) fun us s2 ⟨vs, ws, B2, μ2, m2, H2, I2, g2, rvs, rws, st2, R2, l2, q2⟩ => ⟨I2.kIn, ?_⟩) hpl
  rw [hks]
  refine run_un hs hf hex F hr I2 g2 R.mem st2 R2 hx (hb.to s2 [] us I2.kIn rfl (by rw [← rvs.length, rws.len]; exact l2)) (hb.rel .nil rvs) ?_ q2
  rw [hgv]
  exact rws
end
end Fs
set_option Elab.async false
set_option linter.all false
set_option maxRecDepth 100000
set_option maxHeartbeats 8000000
namespace Fs
open PySem PySem.Spec PyProof.Rows L2
structure GG (P : Program) (w : World) (K : Frag) (mg : Str → Option Value) (base : Heap) (k : Nat) (x : Str) (ps : List Str) (dw : List D) (sp : SpG) : Prop where
  ex : ∃ f fd dv ds, mg x = some (.ref f) ∧ PySem.W.keepIn K (.ref f) = true ∧ Vals dv ds ∧ (∀ B, RvL K B dv dw) ∧ Binds K fd ps ds ∧ GnOk P w K mg base k f fd ps sp
structure GGk (P : Program) (w : World) (K : Frag) (mg : Str → Option Value) (base : Heap) (k : Nat) (x : Str) (ks : List Str) (gV : List V → List V → List V) (ps : List Str) (sp : SpG) : Prop where
  ex : ∃ f fd g, mg x = some (.ref f) ∧ PySem.W.keepIn K (.ref f) = true ∧ KBn K fd ps 0 ks g gV ∧ GnOk P w K mg base k f fd ps sp
theorem GG.mono {P : Program} {w : World} {K : Frag} {mg : Str → Option Value} {base : Heap} {j k : Nat} {x : Str} {ps : List Str} {dw : List D} {sp : SpG} (G : GG P w K mg base j x ps dw sp) (h : j ≤ k) : GG P w K mg base k x ps dw sp := by
  obtain ⟨f, fd, dv, ds, a, b, c, d, e, F⟩ := G.ex
  exact ⟨f, fd, dv, ds, a, b, c, d, e, F.mono h⟩
theorem GGk.mono {P : Program} {w : World} {K : Frag} {mg : Str → Option Value} {base : Heap} {j k : Nat} {x : Str} {ks : List Str} {gV : List V → List V → List V} {ps : List Str} {sp : SpG} (G : GGk P w K mg base j x ks gV ps sp) (h : j ≤ k) : GGk P w K mg base k x ks gV ps sp := by
  obtain ⟨f, fd, g, a, b, c, F⟩ := G.ex
  exact ⟨f, fd, g, a, b, c, F.mono h⟩
theorem GMk.weak {n n' : Nat} {X : Cx} {k : Nat} {pins : List (Addr × Obj)} {its : List D} {oe : Option Er} {B H : Hp} {σ : L2.St} {a : Addr} {s' : Shared} (h : GMk n X k pins its oe B H σ a s') (l : n' ≤ n) : GMk n' X k pins its oe B H σ a s' := fun A' hr hf =>
  let ⟨G, O, T, h1, h2, h3, h4, h5⟩ := h A' hr hf
  ⟨G, O, T, h1, h2, h3, h4, Nat.le_trans l h5⟩
def tGCal (sp : SpG) (dw : List D) (ta : DTA) : DGE := fun en m Q Qx => ta en m (fun ws m1 => ∃ its oe, sp (ws ++ dw.map .v) its oe ∧ Q its oe m1) Qx
def tGCalK (sp : SpG) (n : Nat) (ta : DTA) : DGE := fun en m Q Qx => ta en m (fun ws m1 => ws.length = n ∧ ∃ its oe, sp ws its oe ∧ Q its oe m1) Qx
theorem sl_fz {s s' : Shared} (hb : AllBare s.gens) (sl : Slq s (asleep s) s') : Fz s s' := by
  have e := sl.eq
  have sz : s'.gens.size = s.gens.size := by
    have z := sl.j.sim.sz
    simpa [asleep, erSh] using z.symm
  exact ⟨by rw [e]; exact Nat.le_refl _, by rw [sz]; exact Nat.le_refl _, fun b _ h => by rw [e]; exact h, fun _ => sl.bare (asleep_bare hb), by rw [e]; rfl⟩
section
variable {X : Cx} {E : XK} {x : Str} {e : Expr} {es : List Expr} {kws : List Keyword} {p pos : Pos} {tA tK : DTA} {k : Nat} {ps ks : List Str} {sp : SpG} {dw : List D} {gV : List V → List V → List V}
theorem ge_call (G : GG X.prog X.w X.K X.mg X.base k x ps dw sp) (hr : Room k X.A) (ha : DA X E (e :: es) tA)
    (hg : Gl X x := by rfl) (hdb : (x == ("__debug__" : Str)) = false := by decide) (he : starEach (e :: es) X.env = (false, eval e X.env) :: starEach es X.env := by rfl) (hpl : (backTo pos (starEach es X.env)).any (·.1) = false := by rfl) : GE X E k (.Call (.Name x p) (e :: es) [] pos) (tGCal sp dw tA) := by
  refine ⟨fun pins B μ en m σ H s Q Qx I R hx lw ht => ?_⟩
  obtain ⟨f, fd, dv, ds, hm, hk, hv, hd, hb, F⟩ := G.ex
  obtain ⟨t1, p1, k1⟩ := ha.ex
  have w := k1 B μ en m σ H _ Qx (fun vs H' => ∃ B' μ' m' ws, Stp B μ m H B' μ' m' H' ∧ Rel X.K B' μ' en m' σ H' ∧ RWs X.K B' μ' vs ws ∧ ∃ its oe, sp (ws ++ dw.map .v) its oe ∧ Q its oe m') R hx ht fun B' μ' m' H' ws vs st r rw q => ⟨B', μ', m', ws, st, r, rw, q⟩
  have ex : ∀ {e : Value} {s' : Shared}, (∃ s0, X.xe e s0 ∧ Slq s s0 s') → ∃ s1, X.xe e s1 ∧ Slq s s1 s' := fun h => h
  refine wpAny_Call_Name_kw (wpAny_mono (lift_slp I.bare (ld_glob (E := X.xe) I.asl hg hm (Q := fun v s' => v = .ref f ∧ s' = asleep s) ⟨rfl, rfl⟩ hdb)) (fun u s1 ⟨s0, ⟨e1, e0⟩, sl⟩ => ?_) fun _ _ z => z)
  subst e1 e0
  refine PySem.W.callWith_K (h₀ := X.base) I.ok.mod.kin hk (wpAny_fz (sl_fz I.bare sl) (wpAny_mono (lift_slq sl (p1.run pos pins (asleep s) σ H _ I.asl w)) (fun us s2 ⟨s3, ⟨vs, H1, I3, rv, B', μ', m', ws, st, r', rws, its, oe, hsp, q⟩, sl2⟩ fz => ?_) fun _ _ z _ => z)) he hpl
  have I2 : Inv X pins σ H1 s2 := sl2.inv I3
  refine ⟨I2.kIn, ?_⟩
  have rw2 : RWs X.K B' μ' (vs ++ dv) (ws ++ dw.map .v) := rws.append (hd B').ws
  refine wpAny_call (codeAny_mono (F.run X rfl rfl rfl rfl rfl pins σ H1 s2 B' μ' m' ⟨us, []⟩ (us ++ ds) (vs ++ dv) _ its oe hr I2 r'.mem (hb s2 us I2.kIn ?_) (rv.append hv) rw2 hsp fun a h => Nat.lt_of_lt_of_le (lw a (sl2.ld h)) fz.hp) fun r s' ⟨a, er, gm, kp⟩ => ?_)
  · rw [← (rv.append hv).length, rw2.len]
    exact F.len _ _ _ hsp
  · subst er
    exact ⟨a, B', μ', m', H1, its, oe, rfl, st, r', gm.weak fz.gn, sl2.kp.trans kp, q⟩
theorem ge_callK (G : GGk X.prog X.w X.K X.mg X.base k x ks gV ps sp) (hgv : ∀ zs : List V, gV [] zs = zs) (hr : Room k X.A) (ha : DK X E kws tK)
    (hg : Gl X x := by rfl) (hall : (backToKw pos (keywordEach kws X.env)).all (·.1.isSome) = true := by rfl) (hks : (backToKw pos (keywordEach kws X.env)).filterMap (·.1) = ks := by rfl)
    (hdb : (x == ("__debug__" : Str)) = false := by decide) (hpl : ((backTo pos (starEach [] X.env)).any (·.1) || (backToKw pos (keywordEach kws X.env)).any (·.1.isNone)) = false := by rfl) : GE X E k (.Call (.Name x p) [] kws pos) (tGCalK sp ks.length tK) := by
  refine ⟨fun pins B μ en m σ H s Q Qx I R hx lw ht => ?_⟩
  obtain ⟨f, fd, g, hm, hk, hb, F⟩ := G.ex
  obtain ⟨t1, p1, k1⟩ := ha.ex
  have w := k1 B μ en m σ H _ Qx (fun vs H' => ∃ B' μ' m' ws, Stp B μ m H B' μ' m' H' ∧ Rel X.K B' μ' en m' σ H' ∧ RWs X.K B' μ' vs ws ∧ ws.length = ks.length ∧ ∃ its oe, sp ws its oe ∧ Q its oe m') R hx ht fun B' μ' m' H' ws vs st r rw q => ⟨B', μ', m', ws, st, r, rw, q⟩
  refine wpAny_Call_Name_kw (wpAny_mono (lift_slp I.bare (ld_glob (E := X.xe) I.asl hg hm (Q := fun v s' => v = .ref f ∧ s' = asleep s) ⟨rfl, rfl⟩ hdb)) (fun u s1 ⟨s0, ⟨e1, e0⟩, sl⟩ => ?_) fun _ _ z => z)
  subst e1 e0
  refine PySem.W.callWith_KW0 (h₀ := X.base) I.ok.mod.kin hk hall (wpAny_fz (sl_fz I.bare sl) (wpAny_mono (lift_slq sl (p1.run pos pins (asleep s) σ H _ I.asl w)) (fun us s2 ⟨s3, ⟨vs, H1, I3, rv, B', μ', m', ws, st, r', rws, hl, its, oe, hsp, q⟩, sl2⟩ fz => ?_) fun _ _ z _ => z)) hpl
  have I2 : Inv X pins σ H1 s2 := sl2.inv I3
  refine ⟨I2.kIn, ?_⟩
  rw [hks]
  refine wpAny_call (codeAny_mono (F.run X rfl rfl rfl rfl rfl pins σ H1 s2 B' μ' m' ⟨[], ks.zip us⟩ (g [] us) (gV [] vs) ws its oe hr I2 r'.mem (hb.to s2 [] us I2.kIn rfl (by rw [← rv.length, rws.len]; exact hl)) (hb.rel .nil rv) (by rw [hgv]; exact rws) hsp fun a h => Nat.lt_of_lt_of_le (lw a (sl2.ld h)) fz.hp) fun r s' ⟨a, er, gm, kp⟩ => ?_)
  subst er
  exact ⟨a, B', μ', m', H1, its, oe, rfl, st, r', gm.weak fz.gn, sl2.kp.trans kp, q⟩
end
end Fs
set_option Elab.async false
set_option linter.all false
set_option maxRecDepth 100000
set_option maxHeartbeats 8000000
namespace Fs
open PySem PySem.Spec PyProof.Rows L2
section
variable {P : Program} {w : World} {A : Around} {s : Shared} {R : Result → Shared → Prop}
theorem code_compStart0 {elt target iter : Expr} {ifs : List Expr} {rest : List Comprehension} {scope : Scope} {pos : Pos} {it acc : Value} {env : Env}
    (h0 : codeAny (M0 P w) A (.compLoop (.ListComp elt (⟨target, iter, ifs, 0⟩ :: rest) scope pos) 0 it acc env) R s)
    (h : wpAny (M0 P w) A (pyIter it) (fun it' s' => codeAny (M0 P w) A (.compLoop (.ListComp elt (⟨target, iter, ifs, 0⟩ :: rest) scope pos) 0 it' acc env) R s') (notedBy (M0 P w) A env fun x s' => R (.error x) s') s) :
    codeAny (M0 P w) A (.compStart (.ListComp elt (⟨target, iter, ifs, 0⟩ :: rest) scope pos) 0 it acc env) R s := by
  refine codeAny_of_tree ?_
  rw [den_raw rfl]
  show wpAny _ _ ((compStart (.ListComp elt (⟨target, iter, ifs, 0⟩ :: rest) scope pos) 0 it acc env).onRaise (fun x => do noteFrame x env; standAt theWindowsPlace)) _ _ s
  refine wpAny_notedAt ?_
  unfold compStart
  show wpAny _ _ (ask >>= _) _ _ s
  refine wpAny_bind (wpAny_askSetting (wpAny_ite ?_))
  split
  · first
      | exact wpAny_bind (wpAny_pure (wpAny_pure (And.intro rfl h0)))
      | exact wpAny_pure (And.intro rfl h0)
  · first
      | exact wpAny_bind (wpAny_rule (wpAny_bind (wpAny_standAt (wpAny_bind (wpAny_mono h (fun it' s' h' => wpAny_pure (And.intro rfl h')) fun _ _ x => x)))))
      | (refine wpAny_bind (wpAny_rule ?_); show wpAny _ _ (standAt iter.pos >>= _) _ _ s; exact wpAny_bind (wpAny_standAt (wpAny_bind (wpAny_mono h (fun it' s' h' => wpAny_pure (And.intro rfl h')) fun _ _ x => x))))
/-- one turn of a comprehension's loop -/
theorem code_comp0 {elt target iter : Expr} {ifs : List Expr} {scope : Scope} {pos : Pos} {it acc : Value} {env : Env} (h : wpAny (M0 P w) A (pyNext it) (fun r s1 => match r with
      | none => R (.ok .next) s1
      | some v => wpAny (M0 P w) A (letOwnedTupleGo target it v) (fun _ s2 => wpAny (M0 P w) A (assign target env v) (fun _ s3 =>
          wpAny (M0 P w) A (forIn ifs true fun c r => if r = true then do let ok ← isTrue c env (eval c env); pure (ForInStep.yield ok) else pure (ForInStep.yield r)) (fun ok s4 =>
            if ok = true then wpAny (M0 P w) A (eval elt env) (fun x s5 =>
              wpAny (M0 P w) A (call (.builtin "list.append") [acc, x]) (fun _ s6 => codeAny (M0 P w) A (.compLoop (.ListComp elt [⟨target, iter, ifs, 0⟩] scope pos) 0 it acc env) R s6) (notedBy (M0 P w) A env fun e s' => R (.error e) s') s5) (notedBy (M0 P w) A env fun e s' => R (.error e) s') s4
            else codeAny (M0 P w) A (.compLoop (.ListComp elt [⟨target, iter, ifs, 0⟩] scope pos) 0 it acc env) R s4) (notedBy (M0 P w) A env fun e s' => R (.error e) s') s3) (notedBy (M0 P w) A env fun e s' => R (.error e) s') s2) (notedBy (M0 P w) A env fun e s' => R (.error e) s') s1) (notedBy (M0 P w) A env fun e s' => R (.error e) s') s) :
    codeAny (M0 P w) A (.compLoop (.ListComp elt [⟨target, iter, ifs, 0⟩] scope pos) 0 it acc env) R s := by
  refine codeAny_of_tree ?_
  rw [den_raw rfl]
  show wpAny _ A ((compTurn (.ListComp elt [⟨target, iter, ifs, 0⟩] scope pos) 0 it acc env).onRaise (fun x => do noteFrame x env; theTreesLotGoes x)) _ _ s
  refine wpAny_noted ?_
  rw [compTurn_list]
  refine wpAny_bind (wpAny_standAt (wpAny_bind (wpAny_mono h (fun r s1 h1 => ?_) fun _ _ h' => h')))
  cases r with
  | none => exact wpAny_pure h1
  | some v =>
    refine wpAny_bind (wpAny_mono h1 (fun _ s2 h2 => ?_) fun _ _ h' => h')
    refine wpAny_bind (wpAny_mono h2 (fun _ s3 h3 => wpAny_bind (wpAny_mono h3 (fun ok s4 h4 => ?_) fun _ _ h' => h')) fun _ _ h' => h')
    cases ok with
    | false => exact wpAny_pure ⟨rfl, h4⟩
    | true =>
      exact wpAny_bind (wpAny_bind (wpAny_mono h4 (fun x s5 h5 => wpAny_bind (wpAny_mono h5 (fun _ s6 h6 => wpAny_pure (wpAny_pure ⟨rfl, h6⟩)) fun _ _ h' => h')) fun _ _ h' => h'))
end
section
variable {X : Cx} {G : Gst} {pins : List (Addr × Obj)} {its : List D} {O : Ow} {T B H : Hp} {σ : L2.St} {s s1 : Shared} {E : XK}
theorem Cons.sx (C : Cons (sxX X E) G pins its O T B H σ s) : Cons X G pins its O T B H σ s := ⟨ofSx C.inv, C.gn, C.eP, C.ew, C.eK, C.eb, C.eo, C.eE, C.lo, C.bh, C.tb, C.fp⟩
theorem Cons.toSx (C : Cons X G pins its O T B H σ s) : Cons (sxX X E) G pins its O T B H σ s := ⟨Fs.toSx C.inv, C.gn, C.eP, C.ew, C.eK, C.eb, C.eo, C.eE, C.lo, C.bh, C.tb, C.fp⟩
theorem Cons.weak (C : Cons X G pins its O T B H σ s) {σ' : L2.St} (hl : σ'.length = σ.length) (w : ∀ (i : Nat) v, σ'[i]? = some (some v) → σ[i]? = some (some v)) : Cons X G pins its O T B H σ' s := ⟨C.inv.weak hl w, C.gn, C.eP, C.ew, C.eK, C.eb, C.eo, C.eE, C.lo, C.bh, C.tb, C.fp⟩
/-- loud sleepers wait for what is frozen, or for what the generator owns -/
def LDc (O : Ow) (T H : Hp) (s : Shared) : Prop := ∀ a, LD s a → (∃ o u, H a = some (.frz o u) ∧ o.genNumber?.isSome = true) ∨ (O a ∧ T a = none ∧ isGenO (s.heap.get? a) = true)
theorem LDc.lw (h : LDc O T H s) (C : Cons X G pins its O T B H σ s) : ∀ a, LD s a → a < s.heap.objs.size := fun a z => by
  rcases h a z with ⟨o, u, e, _⟩ | ⟨e, _⟩
  · exact Heap.lt_size (C.inv.hok a _ e).1
  · obtain ⟨gs, k⟩ := C.at_
    exact (k.ob a e).2.lt
theorem LDc.item (h : LDc O T H s) {O' : Ow} {T' B' H' : Hp} (ex : ExtB B H B' H') (ld : ∀ a, LD s1 a → (LD s a ∧ ¬ (O a ∧ T a = none)) ∨ (O' a ∧ T' a = none ∧ isGenO (s1.heap.get? a) = true)) : LDc O' T' H' s1 := fun a z => by
  rcases ld a z with ⟨z1, z2⟩ | z
  · rcases h a z1 with ⟨o, u, e, g⟩ | ⟨y1, y2, _⟩
    · exact .inl ⟨o, u, ex.hh a _ e, g⟩
    · exact absurd ⟨y1, y2⟩ z2
  · exact .inr z
theorem LDc.done (h : LDc O T H s) {B' H' : Hp} (ex : ExtB B H B' H') (ld : ∀ a, LD s1 a → LD s a ∧ ¬ (O a ∧ T a = none)) : Gok H' s1 := fun a z => by
  obtain ⟨z1, z2⟩ := ld a z
  rcases h a z1 with ⟨o, u, e, g⟩ | ⟨y1, y2, _⟩
  · exact ⟨o, u, ex.hh a _ e, g⟩
  · exact absurd ⟨y1, y2⟩ z2
/-- the consumer's own code, between two turns -/
theorem Cons.own {α : Type} {t : Sem α} {E0 : Value → Shared → Prop} (C : Cons X G pins its O T B H σ s) (hs : ∃ gs, s.gens[G.g]? = some gs ∧ isSlp gs) (ld : LDc O T H s) {Q : α → L2.St → Hp → Hp → Prop}
    (h : wpAny (model X.prog X.w) X.A t (fun a s' => ∃ σ' H' B', Inv X (pins ++ pinL G.a O T s) σ' H' s' ∧ Le B' H' ∧ Same B B' ∧ (∀ a o u, H a = some (.frz o u) → H' a = some (.frz o u)) ∧ Q a σ' H' B') E0 (Fs.asleep s)) :
    wpAny (M0 X.prog X.w) X.A t (fun a s' => ∃ σ' H' B', Cons X G pins its O T B' H' σ' s' ∧ (∃ gs, s'.gens[G.g]? = some gs ∧ isSlp gs) ∧ LDc O T H' s' ∧ Q a σ' H' B') (fun e s' => ∃ s0, E0 e s0 ∧ Slq s s0 s') s := by
  refine wpAny_fz (Fz.refl s) (wpAny_mono (lift_slp C.inv.bare h) (fun a s' ⟨s0, ⟨σ', H', B', I', bh, sm, fr, q⟩, sl⟩ fz => ?_) fun _ _ z _ => z)
  obtain ⟨C', hs'⟩ := C.after0 hs I' sl fz bh sm (ld.lw C)
  refine ⟨σ', H', B', C', hs', fun b hb => ?_, q⟩
  rcases ld b (sl.ld hb) with ⟨o, u, e, g⟩ | ⟨y1, y2, y3⟩
  · exact .inl ⟨o, u, fr b o u e, g⟩
  · refine .inr ⟨y1, y2, ?_⟩
    cases z : s.heap.get? b with
    | none => rw [z] at y3; cases y3
    | some o =>
      rw [z] at y3
      have z2 := (sl.inv I').pin (b, o) (List.mem_append_right _ (List.mem_append_right _ (mem_pinsAt (mem_fpL.mpr ⟨Heap.lt_size z, .inr ⟨y1, y2⟩⟩) z)))
      rw [z2.1]
      exact y3
end
end Fs
set_option Elab.async false
set_option linter.all false
set_option maxRecDepth 100000
set_option maxHeartbeats 8000000
namespace Fs
open PySem PySem.Spec PyProof.Rows L2
theorem Stp.frz {K : Frag} {B B' : Hp} {μ μ' : List Addr} {m m' : Me} {H H' : Hp} (M : MemOk K B μ m H) (st : Stp B μ m H B' μ' m' H') {a : Addr} {o : Obj} {u : HO} (e : H a = some (.frz o u)) : H' a = some (.frz o u) := by
  refine st.out a _ (fun l => ?_) e (fun ps z => nomatch z)
  obtain ⟨n, mo, e1, e2, e3⟩ := l
  have q := M.at_ n a mo e1 e2 e3
  cases mo with
  | lst xs => obtain ⟨vs, q, _⟩ := q; rw [e] at q; cases q
  | dic xs => obtain ⟨vs, q, _⟩ := q; rw [e] at q; cases q
  | ins C fs => obtain ⟨dx, vs, q, _⟩ := q; rw [e] at q; cases q
  | bag => obtain ⟨l, i, r, sd, ns, q, _⟩ := q; rw [e] at q; cases q
  | tab p q' => obtain ⟨_, ps, q, _⟩ := q; rw [e] at q; cases q
  | gone => cases e3
def tLcG (t : DGE) (g : DTG) (tt : DTT) (te : DTE) (vs : List Nat) : DTE := fun en m Q Qx => t en m (fun xs oe m1 => oe = none ∧ lcL g tt te (wipeE en vs) xs [] m1 Q) Qx
theorem gTl {P : Program} {w : World} (tg : Expr) {it : Addr} {g : Nat} {v : Value} {A : Around} {s : Shared} {Q : Unit → Shared → Prop} {E0 : Value → Shared → Prop} (hg : IsGn s.heap it g) (h : Q () s) : wpAny (M0 P w) A (letOwnedTupleGo tg (.ref it) v) Q E0 s := by
  obtain ⟨o, nm, qn, ho, hc, hd, _⟩ := hg
  exact go_of ho hc hd (by decide) h
section
variable {X : Cx} {E : XK}
theorem u_lcG {k : Nat} {elt tg iter : Expr} {ifs : List Expr} {scope : Scope} {own : List (Str × Nat)} {is : List Nat} {pos : Pos} {t : DGE} {g : DTG} {tt : DTT} {te : DTE} (hcalm : X.calm = true) (hN : X.N.Nodup) (hi : ∀ E', GE (sxX X E') E' k iter t) (hr : Room (k + 1) X.A) (ok : BlkOk X.N X.env.scope scope own)
    (hg : ∀ (s : Shared) (H : Hp) (C : Addr) (cl : List (Str × Addr)) (fp : List Addr), DG (X.blk s H scope (compEnvC scope cl C X.env) fp) tg is g) (ht : ∀ (s : Shared) (H : Hp) (C : Addr) (cl : List (Str × Addr)) (fp : List Addr), DTs (X.blk s H scope (compEnvC scope cl C X.env) fp) E0 ifs tt)
    (he : ∀ (s : Shared) (H : Hp) (C : Addr) (cl : List (Str × Addr)) (fp : List Addr), DE (X.blk s H scope (compEnvC scope cl C X.env) fp) E0 elt te) (hs : ∀ x, foldedSetIterable iter X.env x = pure x := by intro _; rfl) (hv : is.all (fun i => (own.map (·.2)).contains i) = true := by rfl) :
    UE X E (.ListComp elt [⟨tg, iter, ifs, 0⟩] scope pos) (tLcG t g tt te (own.map (·.2))) := by
  have hv' : ∀ i ∈ is, i ∈ own.map (·.2) := fun i h => List.contains_iff_mem.mp (List.all_eq_true.mp hv i h)
  refine ⟨fun pins B μ en m σ H s Q Qx I g0 R hx hT => ?_⟩
  have hfree : ∀ y ∈ scope.names, y.2 = .free → ∃ c, X.env.cells.lookup y.1 = some c := fun y hy e => by
    rcases ok.free y hy e with k | k
    · exact I.ok.has _ (.inl k)
    · exact I.ok.has _ (.inr k)
  rw [eval_ListComp]
  have w := (hi (EG E s)).run pins B μ en m σ H s _ Qx (toSx I) R (exEG g0 R.mem hx) (g0.lw I) hT
  refine wpAny_comprehension_free (use := none) rfl hs (closure_ok hfree) ok.kind (fun y hy e => by rw [ok.uniq y hy, e])
    (wpAny_fz (Fz.refl s) (wpAny_mono w (fun xv s1 ⟨a, B1, μ1, m1, H1, xs, oe, ev, st1, R1, gm, kp, ho, q⟩ fz1 => ?_) fun e s1 ⟨s0, hx0, sl⟩ _ => ⟨s, s0, sx_mono (fun c d H' z => ⟨z.1, z.2.sl sl⟩) hx0, sl⟩))
  subst ev ho
  obtain ⟨G, O, T, ea, eA, C, eo, gle⟩ := gm X.A.in1 ⟨hr.hd, by have := hr.dp; show X.A.depth + 3 * k + 5 < _; omega, by have := hr.un; show X.A.units + 1 + 16 * k + 200 < _; omega⟩ rfl
  subst ea
  have C := C.sx
  obtain ⟨gs, ki⟩ := C.at_
  have g1 : Gok H1 s1 := (g0.stp R.mem st1).ld fun a h => kp.LD h
  refine wpAny_pyIter_gn ki.gen ?_
  refine wpAny_newObj_type (newEnv_comp ?_) (by show 0 ≤ sizeLine; decide)
  generalize hD : s1.heap.objs.size = L
  have hDn : H1 L = none := C.inv.hok.fresh (Nat.le_of_eq hD)
  generalize hs3 : ({ s1 with heap := s1.heap.push { cls := .type "list", data := .seq ([] : List Value).toArray } } : Shared) = s3
  have I3 : Inv X pins σ (upd H1 L (.lst [])) s3 := by
    rw [← hs3]
    refine C.inv.laid (t' := s1.toks) (fun b o e => Heap.get?_push_of_some _ e) (Nat.le_of_eq hD) ⟨Nat.zero_le _, [], 0, .nil, ?_⟩
    rw [← hD]
    exact Heap.get?_push_size _ rfl
  have h3 : s3.heap = s1.heap.push { cls := .type "list", data := .seq ([] : List Value).toArray } := by rw [← hs3]
  have f3 : ∀ b ∈ fpL G.a O T s1.heap.objs.size, FpOk X pins (upd H1 L (.lst [])) b ∧ b < s3.heap.objs.size := fun b hb => by
    obtain ⟨hlt, hb⟩ := mem_fpL.mp hb
    refine ⟨⟨?_, (C.fp b hb).2⟩, by rw [h3, Heap.size_push]; exact Nat.lt_succ_of_lt hlt⟩
    rw [upd_ne (by rw [← hD]; exact Nat.ne_of_lt hlt)]
    exact (C.fp b hb).1
  have I4 := block_start I3 ok hN f3
  generalize hfp : fpL G.a O T s1.heap.objs.size = fp at f3 I4
  have pg := hg s3 (upd H1 L (.lst [])) s3.heap.objs.size (cellsFrom (s3.heap.objs.size + 1) scope.names (cloFrom X.env.cells scope.names [])) fp
  have pt := ht s3 (upd H1 L (.lst [])) s3.heap.objs.size (cellsFrom (s3.heap.objs.size + 1) scope.names (cloFrom X.env.cells scope.names [])) fp
  have pe := he s3 (upd H1 L (.lst [])) s3.heap.objs.size (cellsFrom (s3.heap.objs.size + 1) scope.names (cloFrom X.env.cells scope.names [])) fp
  show codeAny _ _ (.compStart (.ListComp elt [⟨tg, iter, ifs, 0⟩] scope pos) 0 (.ref G.a) (.ref L) (compEnvC scope (cellsFrom (s3.heap.objs.size + 1) scope.names (cloFrom X.env.cells scope.names [])) s3.heap.objs.size X.env)) (compPost (M0 X.prog X.w) X.A (UX X E) none _ (.ref L) s3.heap.objs.size) { s3 with heap := pushCells (s3.heap.push { cls := .type "dict", data := .dict #[] }) scope.names }
  generalize hce : compEnvC scope (cellsFrom (s3.heap.objs.size + 1) scope.names (cloFrom X.env.cells scope.names [])) s3.heap.objs.size X.env = ce at I4 pg pt pe ⊢
  have cL : ce.locals = s3.heap.objs.size := by subst hce; rfl
  have bh3 : Le B1 (upd H1 L (.lst [])) := fun b o e => by
    rw [upd_ne (ne_of_none (C.bh b o e) hDn)]
    exact C.bh b o e
  have kpD : ∀ b o, b ≠ L → H1 b = some o → upd H1 L (.lst []) b = some o := fun b o c e => by rw [upd_ne c]; exact e
  obtain ⟨nb1, nl1⟩ := R1.mem.none hDn
  have st3 : Stp B1 μ1 m1 H1 B1 μ1 m1 (upd H1 L (.lst [])) := Stp.refl.touch hDn kpD
  have M3 : MemOk X.K B1 μ1 m1 (upd H1 L (.lst [])) := R1.mem.touch nb1 nl1 kpD
  have g3 : ∀ a, LD s1 a → ∃ o u, (upd H1 L (.lst [])) a = some (.frz o u) ∧ o.genNumber?.isSome = true := fun a z => by
    obtain ⟨o, u, e, h⟩ := g1 a z
    exact ⟨o, u, by rw [upd_ne (ne_of_none e hDn)]; exact e, h⟩
  have hD3 : upd H1 L (.lst []) L = some (.lst []) := upd_same
  generalize hH3 : upd H1 L (.lst []) = H3 at I3 I4 pg pt pe f3 bh3 st3 M3 g3 hD3
  generalize hs4 : ({ s3 with heap := pushCells (s3.heap.push { cls := .type "dict", data := .dict #[] }) scope.names } : Shared) = s4 at I4 ⊢
  have k4 : ∀ b o, s1.heap.get? b = some o → s4.heap.get? b = some o := fun b o e => by
    rw [← hs4]
    refine pushCells_keeps _ _ _ _ (Heap.get?_push_of_some _ ?_)
    rw [h3]
    exact Heap.get?_push_of_some _ e
  have gens4 : s4.gens = s1.gens := by rw [← hs4, ← hs3]
  have ldb : ∀ a, LD s4 a → LD s1 a := fun a ⟨i, h⟩ => ⟨i, h.of (by rw [gens4])⟩
  have sz4 : s1.heap.objs.size ≤ s4.heap.objs.size := by
    rw [← hs4]
    refine Nat.le_trans ?_ (pushCells_size _ _)
    rw [Heap.size_push, h3, Heap.size_push]
    omega
  have rely4 : Rely G O T s1 s4 := {
    os := by rw [← hs4, ← hs3]
    bare := I4.bare
    sz := sz4
    bs := fun b o e => by
      rw [C.eb] at e
      exact I4.bk b o e
    funs := by
      rw [C.eb, C.eo]
      exact I4.stack
    own := fun b o _ _ e => k4 b o e
    hok := fun b o e => by
      have z := C.inv.hok b _ (C.th e)
      rw [C.eP, C.ew]
      exact objOk_lt_keep (ki.ton b o e) z k4
    gen := ki.gen.of fun o e => k4 _ o e
    slp := fun i x _ e _ => by rw [gens4]; exact e
    ld := fun i a _ _ _ => by rw [gens4]
    lw := fun a h => Nat.lt_of_lt_of_le ((g1.lw C.inv) a (ldb a h)) sz4 }
  have hnf : ∀ b ∈ fp, H3 b = none := fun b hb => (f3 b hb).1.1
  have fp4 : ∀ b, (b = G.a ∨ O b ∧ T b = none) → FpOk (X.blk s3 H3 scope ce fp) [] H3 b := fun b hb => by
    have hm : b ∈ fp := by
      rw [← hfp]
      refine mem_fpL.mpr ⟨?_, hb⟩
      rcases hb with rfl | hb
      · exact ki.gen.there.lt
      · exact (ki.ob b hb.1).2.lt
    exact ⟨hnf b hm, (I4.ok.exf b hm).1, I4.ok.exfs b hm, .inl hm, fun x c e => (I4.ok.exf b hm).2 x c e, fun p hp => absurd (show p ∈ ([] : List (Addr × Obj)) ++ [] from hp) (by simp)⟩
  have C4 : Cons (X.blk s3 H3 scope ce fp) G [] xs O T B1 H3 (wipe σ (own.map (·.2))) s4 := ⟨I4, C.gn.later rely4, C.eP, C.ew, C.eK, C.eb, C.eo, C.eE, C.lo, bh3, C.tb, fp4⟩
  have ldc4 : LDc O T H3 s4 := fun a z => .inl (g3 a (ldb a z))
  have Rw := R1.wipe (own.map (·.2))
  generalize hen : wipeE en (own.map (·.2)) = enw at q Rw
  have tkF : Takes (X.blk s3 H3 scope ce fp) (fun cls d _ H => (fun _ _ _ => False : XK) cls d H) := fun u s' ⟨_, _, _, _, _, _, _, _, _, _, _, _, _, _, _, _, w⟩ => w.elim
  have loop : ∀ (xs : List D) (O : Ow) (T B' H' : Hp) (s5 : Shared) (μ' : List Addr) (m' : Me) (vs : List V) (acc : List D), Cons (X.blk s3 H3 scope ce fp) G [] xs O T B' H' (wipe σ (own.map (·.2))) s5 → LDc O T H' s5 → Stp B1 μ1 m1 H1 B' μ' m' H' → MemOk X.K B' μ' m' H' → B' L = none → ¬ Live μ' m' L → H' L = some (.lst vs) → RvL X.K B' vs acc → lcL g tt te enw xs acc m' Q →
      codeAny (M0 X.prog X.w) X.A (.compLoop (.ListComp elt [⟨tg, iter, ifs, 0⟩] scope pos) 0 (.ref G.a) (.ref L) ce) (compPost (M0 X.prog X.w) X.A (UX X E) none (UQ X pins B μ en m σ H Q) (.ref L) s3.heap.objs.size) s5 := by
    intro xs
    induction xs with
    | nil =>
      intro O T B' H' s5 μ' m' vs acc C5 ld5 st5 M5 nb nl hL rv q5
      have nx := C5.next_end (E := fun _ _ _ => False) (A := X.A) eA (I.ok.hd hcalm) hr.depth tkF (fun er dd fvs h => by rw [eo] at h; cases h) (ld5.lw C5)
      refine code_comp0 (wpAny_mono nx (fun r s6 ⟨er, _, fz6, l6, B2, H2, ex, I6⟩ => ?_) fun e s6 ⟨s0, hx0, _⟩ => hx0.elim)
      subst er
      have I7 : Inv X pins σ H2 s6 := I3.call' (ch := fp) I6.os I6.base I6.hok I6.bare fun b hb => ⟨(f3 b hb).1.2.2.2.1, (f3 b hb).1.2.1, (f3 b hb).1.2.2.2.2.1, (f3 b hb).1.2.2.2.2.2⟩
      have g7 : Gok H2 s6 := ld5.done ex l6
      have M6 := ex.mem M5
      have st6 := st5.trans M5 ex.stp R1.mem.le
      have nb2 : B2 L = none := ex.nb L _ hL nb
      have hL2 : H2 L = some (.lst vs) := ex.hh L _ hL
      have same : Same B2 (upd B2 L (.lst vs)) := same_new nb2 _
      have M2 : MemOk X.K (upd B2 L (.lst vs)) μ' m' H2 := by
        refine ⟨fun a o e => ?_, M6.len, fun a l => ?_, fun n a x e1 e2 e3 => OO.to same (List.prefix_refl _) (fun _ z => z) (M6.at_ n a x e1 e2 e3), M6.inj, fun a ps e => by
          by_cases c : a = L
          · subst c
            rw [upd_same] at e
            cases e
          · rw [upd_ne c] at e
            exact M6.ntb a ps e⟩
        · by_cases c : a = L
          · subst c
            rw [upd_same] at e
            cases e
            exact hL2
          · rw [upd_ne c] at e
            exact M6.le a o e
        · have c : a ≠ L := fun z => by
            subst z
            exact nl l
          rw [upd_ne c]
          exact M6.off a l
      have st : Stp B1 μ1 m1 H1 (upd B2 L (.lst vs)) μ' m' H2 := ⟨st6.same.trans same, st6.pre, st6.out, fun a o n e x b => by
        obtain ⟨h1, h2⟩ := st6.hid a o n e x b
        refine ⟨?_, h2⟩
        rw [upd_ne (ne_of_none e hDn)]
        exact h1⟩
      have nC : H2 s3.heap.objs.size = none := by
        have z : H2 ce.locals = none := I6.free
        rw [cL] at z
        exact z
      obtain ⟨mm, hn, _⟩ := I6.loc
      have hn : s6.heap.Ns ce.locals mm := hn
      rw [cL] at hn
      refine ⟨mm, hn, fun h' sb => ?_⟩
      obtain ⟨f0, f1, f2, f4, f5, f6⟩ := I3.fpOk (Nat.le_refl _) nC
      exact ⟨.ref L, .v (.lst acc), _, μ', m', H2, I7.turned (t' := s6.toks) (fun b o hb e => (sb.2 b hb).trans e) f0 f1 f4 f5 f6, g7.ld fun a ⟨i, h⟩ => ⟨i, h.of rfl⟩, rfl, RW.d (.lst upd_same ((rv.to fun b o z => ex.bb b o z).to same)), st1.trans R1.mem st R.mem.le, R1.stp st M2, q5⟩
    | cons d ds ih =>
      intro O T B' H' s5 μ' m' vs acc C5 ld5 st5 M5 nb nl hL rv q5
      have lw5 := ld5.lw C5
      have nx := C5.next_item (E := fun _ _ => False) (A := X.A) eA (I.ok.hd hcalm) hr.depth lw5
      refine code_comp0 (wpAny_mono nx (fun r s6 ⟨v, er, x, O6, T6, B6, H6, rx, rd, ex, C6, hs6, fz6, l6⟩ => ?_) fun e s6 h => h.elim)
      subst er
      have ld6 := ld5.item ex l6
      obtain ⟨gs6, k6⟩ := C6.at_
      refine gTl tg k6.gen ?_
      have M6 := ex.mem M5
      have st6 : Stp B1 μ1 m1 H1 B6 μ' m' H6 := st5.trans M5 ex.stp R1.mem.le
      have nb6 : B6 L = none := ex.nb L _ hL nb
      have hL6 : H6 L = some (.lst vs) := ex.hh L _ hL
      have rv6 := rv.to fun b o z => ex.bb b o z
      have R6 : Rel X.K B6 μ' enw m' (wipe σ (own.map (·.2))) H6 := Rw.stp st6 M6
      -- the target
      obtain ⟨t1, p1, k1⟩ := pg.ex
      have w1 := k1 B6 μ' enw m' (wipe σ (own.map (·.2))) H6 (.v d) x _ (fun σ' H' => ∃ B' μ'' en' m'', Stp B6 μ' m' H6 B' μ'' m'' H' ∧ Rel X.K B' μ'' en' m'' σ' H' ∧ Sts is (wipe σ (own.map (·.2))) σ' ∧ tt en' m'' (fun b m2 => if b = true then te en' m2 (fun y m3 => oD y fun dy => acc.length < sizeLine ∧ lcL g tt te enw ds (acc ++ [dy]) m3 Q) noX else lcL g tt te enw ds acc m2 Q) noX) R6 (RW.d rd) q5 fun B' μ'' en' m'' σ' H' a b c d => ⟨B', μ'', en', m'', a, b, c, d⟩
      have ow := C6.own (Q := fun _ σ' H' B' => ∃ μ'' en' m'', Stp B6 μ' m' H6 B' μ'' m'' H' ∧ Rel X.K B' μ'' en' m'' σ' H' ∧ Sts is (wipe σ (own.map (·.2))) σ' ∧ tt en' m'' (fun b m2 => if b = true then te en' m2 (fun y m3 => oD y fun dy => acc.length < sizeLine ∧ lcL g tt te enw ds (acc ++ [dy]) m3 Q) noX else lcL g tt te enw ds acc m2 Q) noX) hs6 ld6 (wpAny_mono (p1.run _ (asleep s6) _ H6 x v _ C6.asleep rx w1) (fun _ s7 ⟨σ', H', I', B', μ'', en', m'', a, b, c, d⟩ => ⟨σ', H', B', I', b.mem.le, a.same, fun _ _ _ e => a.frz M6 e, μ'', en', m'', a, b, c, d⟩) fun _ _ z => z)
      refine wpAny_mono ow (fun _ s7 ⟨σ7, H7, B7, C7, hs7, ld7, μ7, en7, m7, st7, R7, sts7, q7⟩ => ?_) fun e s7 ⟨s0, hx0, _⟩ => hx0.elim
      have st7' := st6.trans M6 st7 R1.mem.le
      obtain ⟨nb7, nl7⟩ := st7.hid L _ nl hL6 ⟨(fun _ z => nomatch z), (fun _ z => nomatch z)⟩ nb6
      have hL7 := st7.out L _ nl hL6 (fun _ z => nomatch z)
      have hw7 : wipe σ7 (own.map (·.2)) = wipe σ (own.map (·.2)) := by rw [sts7.wipe hv', wipe_wipe]
      -- the tests
      obtain ⟨t2, p2, k2⟩ := pt.ex
      have w2 := k2 B7 μ7 en7 m7 σ7 H7 _ noX (fun b H' => ∃ B' μ'' m'', Stp B7 μ7 m7 H7 B' μ'' m'' H' ∧ Rel X.K B' μ'' en7 m'' σ7 H' ∧ if b = true then te en7 m'' (fun y m3 => oD y fun dy => acc.length < sizeLine ∧ lcL g tt te enw ds (acc ++ [dy]) m3 Q) noX else lcL g tt te enw ds acc m'' Q) R7 ExOf.no q7 fun B' μ'' m'' H' b a c d => ⟨B', μ'', m'', a, c, d⟩
      have ow := C7.own (Q := fun b σ' H' B' => σ' = σ7 ∧ ∃ μ'' m'', Stp B7 μ7 m7 H7 B' μ'' m'' H' ∧ Rel X.K B' μ'' en7 m'' σ7 H' ∧ if b = true then te en7 m'' (fun y m3 => oD y fun dy => acc.length < sizeLine ∧ lcL g tt te enw ds (acc ++ [dy]) m3 Q) noX else lcL g tt te enw ds acc m'' Q) hs7 ld7 (wpAny_mono (p2.run _ (asleep s7) _ H7 _ C7.asleep w2) (fun _ s8 ⟨H', I', B', μ'', m'', a, b, d⟩ => ⟨σ7, H', B', I', b.mem.le, a.same, fun _ _ _ e => a.frz R7.mem e, rfl, μ'', m'', a, b, d⟩) fun _ _ z => z)
      refine wpAny_mono ow (fun b s8 ⟨σ8, H8, B8, C8, hs8, ld8, e8, μ8, m8, st8, R8, q8⟩ => ?_) fun e s8 ⟨s0, hx0, _⟩ => hx0.elim
      subst e8
      have st8' := st7'.trans R7.mem st8 R1.mem.le
      obtain ⟨nb8, nl8⟩ := st8.hid L _ nl7 hL7 ⟨(fun _ z => nomatch z), (fun _ z => nomatch z)⟩ nb7
      have hL8 := st8.out L _ nl7 hL7 (fun _ z => nomatch z)
      have rv8 := rv6.to (st7.same.trans st8.same)
      have hlw : ∀ {σ' : L2.St}, wipe σ' (own.map (·.2)) = wipe σ (own.map (·.2)) → (wipe σ (own.map (·.2))).length = σ'.length ∧ ∀ (j : Nat) v, (wipe σ (own.map (·.2)))[j]? = some (some v) → σ'[j]? = some (some v) := fun {σ'} e => ⟨by rw [← e, wipe_length], fun j v z => by
        rw [← e] at z
        exact (wipe_some z).1⟩
      cases b with
      | false =>
        simp only [Bool.false_eq_true, if_false] at q8 ⊢
        obtain ⟨y1, y2⟩ := hlw hw7
        exact ih O6 T6 B8 H8 s8 μ8 m8 vs acc (C8.weak y1 y2) ld8 st8' R8.mem nb8 nl8 hL8 rv8 q8
      | true =>
        simp only [if_true] at q8 ⊢
        obtain ⟨t3, p3, k3⟩ := pe.ex
        have w3 := k3 B8 μ8 en7 m8 σ8 H8 _ noX (fun z H' => ∃ B' μ'' m'' y, Stp B8 μ8 m8 H8 B' μ'' m'' H' ∧ Rel X.K B' μ'' en7 m'' σ8 H' ∧ RW X.K B' μ'' z y ∧ oD y fun dy => acc.length < sizeLine ∧ lcL g tt te enw ds (acc ++ [dy]) m'' Q) R8 ExOf.no q8 fun B' μ'' m'' H' y z a b c d => ⟨B', μ'', m'', y, a, b, c, d⟩
        have ow := C8.own (Q := fun u σ' H' B' => σ' = σ8 ∧ ∃ z μ'' m'' y, RelV z u ∧ Stp B8 μ8 m8 H8 B' μ'' m'' H' ∧ Rel X.K B' μ'' en7 m'' σ8 H' ∧ RW X.K B' μ'' z y ∧ oD y fun dy => acc.length < sizeLine ∧ lcL g tt te enw ds (acc ++ [dy]) m'' Q) hs8 ld8 (wpAny_mono (p3.run _ (asleep s8) _ H8 _ C8.asleep w3) (fun u s9 ⟨z, H', I', rz, B', μ'', m'', y, a, b, c, d⟩ => ⟨σ8, H', B', I', b.mem.le, a.same, fun _ _ _ e => a.frz R8.mem e, rfl, z, μ'', m'', y, rz, a, b, c, d⟩) fun _ _ z => z)
        refine wpAny_mono ow (fun u s9 ⟨σ9, H9, B9, C9, hs9, ld9, e9, z, μ9, m9, y, rz, st9, R9, rw9, q9⟩ => ?_) fun e s9 ⟨s0, hx0, _⟩ => hx0.elim
        subst e9
        have st9' := st8'.trans R8.mem st9 R1.mem.le
        obtain ⟨nb9, nl9⟩ := st9.hid L _ nl8 hL8 ⟨(fun _ z => nomatch z), (fun _ z => nomatch z)⟩ nb8
        have hL9 := st9.out L _ nl8 hL8 (fun _ z => nomatch z)
        have rv9 := rv8.to st9.same
        cases y with
        | loc n => exact q9.elim
        | v dy =>
          obtain ⟨lz, q9⟩ := q9
          have kp9 : ∀ b o, b ≠ L → H9 b = some o → upd H9 L (.lst (vs ++ [z])) b = some o := fun b o c e => by rw [upd_ne c]; exact e
          have st10 : Stp B1 μ1 m1 H1 B9 μ9 m9 (upd H9 L (.lst (vs ++ [z]))) := st9'.touch hDn kp9
          have M10 : MemOk X.K B9 μ9 m9 (upd H9 L (.lst (vs ++ [z]))) := R9.mem.touch nb9 nl9 kp9
          have wa : wpAny (model X.prog X.w) X.A (call (.builtin "list.append") [.ref L, u]) (fun _ s' => Inv (X.blk s3 H3 scope ce fp) ([] ++ pinL G.a O6 T6 s9) σ9 (upd H9 L (.lst (vs ++ [z]))) s') (fun _ _ => False) (asleep s9) := app_ok (X := X.blk s3 H3 scope ce fp) C9.asleep hL9 (by rw [rv9.len]; exact lz) rz fun s' I' => I'
          have ow := C9.own (Q := fun _ σ' H' B' => σ' = σ9 ∧ H' = upd H9 L (.lst (vs ++ [z])) ∧ B' = B9) hs9 ld9 (wpAny_mono wa (fun _ s10 I' => ⟨σ9, _, B9, I', M10.le, fun _ _ e => e, fun a o u e => by rw [upd_ne (fun c => by rw [c, hL9] at e; cases e)]; exact e, rfl, rfl, rfl⟩) fun _ _ z => z)
          refine wpAny_mono ow (fun _ s10 ⟨σ10, H10, B10, C10, hs10, ld10, e1, e2, e3⟩ => ?_) fun e s10 ⟨s0, hx0, _⟩ => hx0.elim
          subst e1 e2 e3
          obtain ⟨y1, y2⟩ := hlw hw7
          exact ih O6 T6 B10 _ s10 μ9 m9 (vs ++ [z]) (acc ++ [dy]) (C10.weak y1 y2) ld10 st10 M10 nb9 nl9 upd_same (rv9.append (.one rw9)) q9
  exact code_compStart0 (loop xs O T B1 H3 s4 μ1 m1 [] [] C4 ldc4 st3 M3 nb1 nl1 hD3 .nil q) (wpAny_pyIter_gn (ki.gen.of fun o e => k4 _ o e) (loop xs O T B1 H3 s4 μ1 m1 [] [] C4 ldc4 st3 M3 nb1 nl1 hD3 .nil q))
end
end Fs
set_option Elab.async false
set_option linter.all false
set_option maxRecDepth 100000
set_option maxHeartbeats 8000000
namespace Fs
open PySem PySem.Spec PyProof.Rows L2
section
variable {P : Program} {w : World} {A : Around} {E : Value → Shared → Prop} {s : Shared} {R : Result → Shared → Prop}
theorem code_stack0 {id : String} {args : Args} {b : Builtin} {k : List (Code × Pos) → Sem PySem.Fin} (hn : id ≠ "proto.yield_from") (hb : entryFor table id = some b) (hk : b args = stack >>= k)
    (h : ∀ p st, wpAny (M0 P w) (A.under (.builtin id args)) (k ((.builtin id args, p) :: st))
      (fun fin s' => match fin with | .done f => R (.ok f) s' | .again c' => c'.quiet = true ∧ codeAny (M0 P w) A c' R s') (fun e s' => R (.error e) s') s) : codeAny (M0 P w) A (.builtin id args) R s := fun Γ p hc hΓ => by
  rw [wpCode_iff_wp, hc]
  have hden : (M0 P w).den (.builtin id args) = stack >>= k := by
    rw [den_raw (yf_builtin hn)]
    show (match entryFor table id with | some b => b args | none => unsupported ((withoutEnding? id "#data").getD id)) = _
    rw [hb]; exact hk
  rw [hden]
  show Sem.wp _ Γ (Sem.bind stack k) _ _ p s
  unfold stack
  rw [Sem.wp_bind, Sem.wp_stack]
  have h0 := h p Γ.below Γ p (hc ▸ hΓ.in)
  rw [← hc] at h0
  show Sem.wp _ Γ (k ((Γ.code, p) :: Γ.below)) _ _ p s
  refine Sem.wp_mono _ Γ _ (fun fin p' s' q => ?_) (fun _ _ _ q => q) p s h0
  cases fin with
  | done f => exact q
  | again c' => exact ⟨q.1, q.2 (Γ.goto c') p' rfl (hΓ.goto c')⟩
theorem code_list_new0 (a : Value) {Q₁ : Value → Shared → Prop} (h : Q₁ (.ref s.heap.objs.size) { s with heap := s.heap.push { cls := .type "list", data := .seq #[] } }) :
    codeAny (M0 P w) A (.call (.builtin "list.__new__") ⟨[.type "list", a], []⟩) (wants Q₁ E) s := by
  refine codeAny_of_tree ?_
  rw [den_raw rfl]
  show wpAny _ A.in1 (do checkBuiltinCall "list.__new__" ⟨[.type "list", a], []⟩; again (.builtin "list.__new__" ⟨[.type "list", a], []⟩)) _ _ s
  refine wpAny_bind (wpAny_of_eq (F.newCall_list_1 a) (wpAny_pure ⟨plainId_quiet F.plain_list_new _, code_stack0 (by decide) F.entry_list_new rfl fun p st => ?_⟩))
  rw [Around.under_plainId F.plain_list_new _]
  have hsub := sub_list_self
  have hown := owner_list_new
  obtain ⟨hp, g, d, tk, os⟩ := s
  simp only [hown]
  wp_walk
  exact h
theorem callType0 {T newId initId : String} {Bi : Builtin} {args : List Value} {Q Q₁ : Value → Shared → Prop} (ft : TypeCalled T newId initId) (hni : initId ≠ "proto.yield_from")
    (hct : checkTypeCall T ⟨args, []⟩ = pure ()) (entryI : entryFor table initId = some Bi)
    (hnew : codeAny (M0 P w) A.in1 (.call (.builtin newId) ⟨.type T :: args, []⟩) (wants Q₁ E) s)
    (hnext : ∀ obj s₁, Q₁ obj s₁ → s₁.TypeIs obj T ∧ argsOk initId ⟨obj :: args, []⟩ ∧
      wpAny (M0 P w) A.in1.in1 (Bi ⟨obj :: args, []⟩)
        (fun fin s' => match fin with | .done f => wants (fun r s₂ => r = .none ∧ Q obj s₂) E (.ok f) s' | .again c' => c'.quiet = true ∧ codeAny (M0 P w) A.in1 c' (wants (fun r s₂ => r = .none ∧ Q obj s₂) E) s')
        (fun e s' => wants (fun r s₂ => r = .none ∧ Q obj s₂) E (.error e) s') s₁) : wpAny (M0 P w) A (call (.type T) args) Q E s := by
  obtain ⟨c, tl, hmro⟩ := ft.mro
  have hmade := ft.made
  have hsub := ft.sub
  refine wpAny_call (codeAny_of_tree ?_)
  rw [den_raw rfl]
  show wpAny _ _ (callAny (.type T) _) _ _ _
  refine wpAny_pure ⟨Code.quiet_builtin _ (by decide +kernel), code_builtin0 (by decide) F.entry_type_call ?_⟩
  rw [Around.under_plain (weight_type_call_type T args []) rfl]
  have h1 := ft.notType
  have h2 := ft.canCreate
  repeat (any_goals (first | assumption | wp_step))
  refine codeAny_mono hnew fun r s₁ hr => ?_
  cases r with
  | error e => exact hr
  | ok fl =>
    cases fl with
    | ret obj =>
      obtain ⟨hT, hok, hsi⟩ := hnext _ _ hr
      have hli := ft.init.lookup
      have hbi := ft.init.bind obj
      repeat (any_goals (first | assumption | wp_step))
      refine codeAny_mono (code_call0 hni ft.init.plain entryI (ft.init.check _ _ _ _ _ _ _ _ hT hok hsi)) fun r₂ s₂ hr₂ => ?_
      cases r₂ with
      | error e => exact hr₂
      | ok fl₂ =>
        cases fl₂ with
        | ret r =>
          obtain ⟨rfl, hq⟩ := hr₂
          repeat (any_goals (first | assumption | wp_step))
        | _ => exact hr₂.elim
    | _ => exact hr.elim
end
end Fs
set_option Elab.async false
set_option linter.all false
set_option maxRecDepth 100000
set_option maxHeartbeats 8000000
namespace Fs
open PySem PySem.Spec PyProof.Rows L2
/-- what is let out while loud sleepers of the generator's own are there -/
abbrev EO (E : XK) (O : Ow) (T : Hp) (s : Shared) : XK := fun c d H => E c d H ∧ ∀ a, LD s a → ¬ (O a ∧ T a = none) → ∃ o u, H a = some (.frz o u) ∧ o.genNumber?.isSome = true
section
variable {X : Cx} {E : XK}
theorem drain0 (hst : X.stack = X.env :: X.outer) (hfr : X.env.frame = some X.env.locals) (hex : X.ex = []) {G : Gst} {pins : List (Addr × Obj)} {σ : L2.St} {A : Around} {R : Result → Shared → Prop} {L : Addr} {B1 H1 : Hp} {μ1 : List Addr} {m1 : Me} {Qx : QX}
    (eA : G.A = A.in1.in1) (hh : A.handled = none) (hd : A.depth < recursionLimit) (le1 : Le B1 H1) (hL1 : H1 L = none) (hx : ExOf X.K E B1 μ1 m1 H1 Qx) (hoe : ∀ er, G.oe = some er → Qx er m1)
    (all : List D)
    (hend : ∀ (B' H' : Hp) (s' : Shared) (vs : List V), Inv X pins σ H' s' → Gok H' s' → Stp B1 μ1 m1 H1 B' μ1 m1 H' → MemOk X.K B' μ1 m1 H' → B' L = none → ¬ Live μ1 m1 L → H' L = some (.lst vs) → RvL X.K B' vs all → G.oe = none → R (.ok (.ret .none)) s')
    (hexc : ∀ e s', UX X E e s' → R (.error e) s') :
    ∀ (xs : List D) (O : Ow) (T B' H' : Hp) (s5 : Shared) (vs : List V) (acc : List D), acc ++ xs = all → acc.length + xs.length ≤ sizeLine → Cons X G pins xs O T B' H' σ s5 → LDc O T H' s5 → Stp B1 μ1 m1 H1 B' μ1 m1 H' → MemOk X.K B' μ1 m1 H' → B' L = none → ¬ Live μ1 m1 L → H' L = some (.lst vs) → RvL X.K B' vs acc →
      codeAny (M0 X.prog X.w) A (.builtin "list.extend.loop" ⟨[.ref L, .ref G.a, .none], []⟩) R s5 := by
  intro xs
  induction xs with
  | nil =>
    intro O T B' H' s5 vs acc hall hlen C5 ld5 st5 M5 nb nl hL rv
    refine code_builtin0 (by decide) F.entry_extend_loop ?_
    rw [Around.under_plainId F.plain_extend_loop _]
    show wpAny _ A.in1 (pyNext (.ref G.a) >>= _) _ _ s5
    have C5x : Cons (sxX X (EO E O T s5)) G pins [] O T B' H' σ s5 := C5.toSx
    have nx := C5x.next_end (E := EO E O T s5) (A := A.in1) eA hh hd (takes_of hst hfr hex rfl) (fun er dd fvs h1 h2 h3 => ?_) (ld5.lw C5)
    refine wpAny_bind (wpAny_mono nx (fun r s6 ⟨er, ho, fz6, l6, B2, H2, ex, I6⟩ => ?_) fun e s6 ⟨s0, hx0, sl0, fz6, l6⟩ => ?_)
    · subst er
      rw [List.append_nil] at hall
      subst hall
      exact wpAny_pure (hend B2 H2 s6 vs (ofSx I6) (ld5.done ex l6) (st5.trans M5 ex.stp le1) (ex.mem M5) (ex.nb L _ hL nb) nl (ex.hh L _ hL) (rv.to fun b o z => ex.bb b o z) ho)
    · exact hexc e s6 ⟨s6, s0, sx_mono (fun c d H z => ⟨z.1, fun a h => z.2 a (l6 a h).1 (l6 a h).2⟩) hx0, sl0⟩
    · obtain ⟨stx, Mx⟩ := xd_stp M5 h2 fvs
      refine ⟨hx B' μ1 m1 _ er dd fvs (st5.trans M5 stx le1) Mx upd_same (h3.to fun _ _ z => by cases z) (hoe er h1), fun a z1 z2 => ?_⟩
      rcases ld5 a z1 with ⟨o, u, e, g⟩ | ⟨y1, y2, _⟩
      · exact ⟨o, u, by rw [upd_ne (ne_of_none e h2)]; exact e, g⟩
      · exact absurd ⟨y1, y2⟩ z2
  | cons d ds ih =>
    intro O T B' H' s5 vs acc hall hlen C5 ld5 st5 M5 nb nl hL rv
    refine code_builtin0 (by decide) F.entry_extend_loop ?_
    rw [Around.under_plainId F.plain_extend_loop _]
    show wpAny _ A.in1 (pyNext (.ref G.a) >>= _) _ _ s5
    have nx := C5.next_item (E := fun _ _ => False) (A := A.in1) eA hh hd (ld5.lw C5)
    refine wpAny_bind (wpAny_mono nx (fun r s6 ⟨v, er, x, O6, T6, B6, H6, rx, rd, ex, C6, hs6, fz6, l6⟩ => ?_) fun e s6 h => h.elim)
    subst er
    have ld6 := ld5.item ex l6
    have hL6 : H6 L = some (.lst vs) := ex.hh L _ hL
    have nb6 : B6 L = none := ex.nb L _ hL nb
    have M6 := ex.mem M5
    have st6 := st5.trans M5 ex.stp le1
    have rv6 := rv.to fun b o z => ex.bb b o z
    have hlv : vs.length < sizeLine := by
      rw [rv.len]
      simp only [List.length_cons] at hlen
      omega
    obtain ⟨hz', its, n, ri, eL⟩ := C6.inv.hok L _ hL6
    have hli := ri.length
    show wpAny _ A.in1 (updateSeq L (·.push v) >>= _) _ _ _
    refine wpAny_bind ?_
    refine wpAny_updateSeq eL rfl (wpAny_pure ⟨plainId_quiet F.plain_extend_loop _, ?_⟩) (by show its.toArray.size ≤ _; rw [List.size_toArray]; omega) (by show (its.toArray.push v).size ≤ sizeLine + 1; rw [Array.size_push, List.size_toArray]; omega)
    have e' := Heap.get?_update_self (Obj.mapSeq (·.push v)) eL rfl
    have kp : ∀ b u, b ≠ L → s6.heap.get? b = some u → (s6.heap.update L (Obj.mapSeq (·.push v))).get? b = some u := fun b u hb q => (Heap.get?_update_other _ _ (Ne.symm hb)).trans q
    have kpH : ∀ b o, b ≠ L → H6 b = some o → upd H6 L (.lst (vs ++ [x])) b = some o := fun b o c e => by rw [upd_ne c]; exact e
    have I7 : Inv X (pins ++ pinL G.a O6 T6 s6) σ (upd H6 L (.lst (vs ++ [x]))) { s6 with heap := s6.heap.update L (Obj.mapSeq (·.push v)) } :=
      C6.pinned.write (t' := s6.toks) (by rw [hL6]; trivial) (.inl rfl) kp ⟨_, e'⟩ ⟨by rw [List.length_append]; exact hlv, its ++ [v], n + 1, ri.append (.cons rx .nil), by rw [e']; simp [Obj.mapSeq, lstObj]⟩
    have M7 : MemOk X.K B6 μ1 m1 (upd H6 L (.lst (vs ++ [x]))) := M6.touch nb6 nl kpH
    have fz7 : Fz s6 { s6 with heap := s6.heap.update L (Obj.mapSeq (·.push v)) } := Fz.upd (by rw [eL]; rfl)
    have C7 := C6.kept I7 fz7 M7.le (fun _ _ e => e) (fun i x _ e _ => e) (fun _ _ _ _ _ => rfl) fun a ⟨i, h⟩ => Nat.lt_of_lt_of_le (ld6.lw C6 a ⟨i, h.of rfl⟩) fz7.hp
    refine ih O6 T6 B6 _ _ (vs ++ [x]) (acc ++ [d]) (by rw [← hall]; simp) (by simp only [List.length_append, List.length_cons, List.length_nil] at hlen ⊢; omega) C7 (fun a ⟨i, h⟩ => ?_) (st6.touch hL1 kpH) M7 nb6 nl upd_same (rv6.append (.one rd))
    rcases ld6 a ⟨i, h.of rfl⟩ with ⟨o, u, e, g⟩ | ⟨y1, y2, y3⟩
    · exact .inl ⟨o, u, by rw [upd_ne (fun c => by rw [c, hL6] at e; cases e)]; exact e, g⟩
    · refine .inr ⟨y1, y2, ?_⟩
      have ne : a ≠ L := fun c => by
        have z := (C6.fp a (.inr ⟨y1, y2⟩)).1
        rw [c, hL6] at z
        cases z
      show isGenO ((s6.heap.update L _).get? a) = true
      rw [Heap.get?_update_other _ _ (Ne.symm ne)]
      exact y3
end
end Fs
set_option Elab.async false
set_option linter.all false
set_option maxRecDepth 100000
set_option maxHeartbeats 8000000
namespace Fs
open PySem PySem.Spec PyProof.Rows L2
theorem lay_lst {K : Frag} {B1 B2 H1 H2 : Hp} {μ1 μ' : List Addr} {m1 m' : Me} {L : Addr} {vs : List V} (hL1 : H1 L = none) (st : Stp B1 μ1 m1 H1 B2 μ' m' H2) (M : MemOk K B2 μ' m' H2) (nb : B2 L = none) (nl : ¬ Live μ' m' L) (hL : H2 L = some (.lst vs)) :
    Stp B1 μ1 m1 H1 (upd B2 L (.lst vs)) μ' m' H2 ∧ MemOk K (upd B2 L (.lst vs)) μ' m' H2 ∧ Same B2 (upd B2 L (.lst vs)) := by
  have same : Same B2 (upd B2 L (.lst vs)) := same_new nb _
  refine ⟨⟨st.same.trans same, st.pre, st.out, fun a o n e x b => ?_⟩, ⟨fun a o e => ?_, M.len, fun a l => ?_, fun n a x e1 e2 e3 => OO.to same (List.prefix_refl _) (fun _ z => z) (M.at_ n a x e1 e2 e3), M.inj, fun a ps e => ?_⟩, same⟩
  · obtain ⟨h1, h2⟩ := st.hid a o n e x b
    refine ⟨?_, h2⟩
    rw [upd_ne (ne_of_none e hL1)]
    exact h1
  · by_cases c : a = L
    · subst c
      rw [upd_same] at e
      cases e
      exact hL
    · rw [upd_ne c] at e
      exact M.le a o e
  · have c : a ≠ L := fun z => by
      subst z
      exact nl l
    rw [upd_ne c]
    exact M.off a l
  · by_cases c : a = L
    · subst c
      rw [upd_same] at e
      cases e
    · rw [upd_ne c] at e
      exact M.ntb a ps e
def tLsG (t : DGE) : DTE := fun en m Q Qx => t en m (fun xs oe m1 => xs.length ≤ sizeLine ∧ (oe = none → Q (.v (.lst xs)) m1) ∧ ∀ er, oe = some er → Qx er m1) Qx
section
variable {X : Cx} {E : XK} {k : Nat} {e : Expr} {p pos : Pos} {t : DGE}
theorem u_listG (hst : X.stack = X.env :: X.outer) (hfr : X.env.frame = some X.env.locals) (hex : X.ex = []) (hcalm : X.calm = true) (hi : ∀ E', GE (sxX X E') E' k e t) (hr : Room (k + 1) X.A) (hm : X.mg "list" = none) (hg : Gl X "list" := by rfl)
    (he : starEach [e] X.env = (false, eval e X.env) :: starEach [] X.env := by rfl) (hpl : (backTo pos (starEach [] X.env)).any (·.1) = false := by rfl) : UE X E (.Call (.Name "list" p) [e] [] pos) (tLsG t) := by
  refine ⟨fun pins B μ en m σ H s Q Qx I g0 R hx hT => ?_⟩
  refine wpAny_Call_Name_kw (u_look I g0 (ld_blt I.asl hg hm (u := .type "list") (by decide +kernel) ⟨rfl, rfl⟩ (by decide) (by decide)) fun s0 I0 g0 => ?_)
  refine callWith_type1 ?_ he hpl
  rw [he]
  show wpAny _ _ (spliced ((false, eval e X.env) :: backTo pos (starEach [] X.env))) _ _ s0
  refine Calls.spliced_cons (wpAny_fz (Fz.refl s0) (wpAny_mono ((hi (EG E s0)).run pins B μ en m σ H s0 _ Qx (toSx I0) R (exEG g0 R.mem hx) (g0.lw I0) hT) (fun u s1 ⟨a, B1, μ1, m1, H1, xs, oe, ev, st1, R1, gm, kp, hz, q1, q2⟩ fz1 => ?_) fun e s1 ⟨s2, hx0, sl⟩ _ => ⟨s0, s2, sx_mono (fun c d H' z => ⟨z.1, z.2.sl sl⟩) hx0, sl⟩))
  refine Calls.spliced_nil ?_
  subst ev
  obtain ⟨G, O, T, ea, eA, C, eo, gle⟩ := gm X.A.in1.in1.in1 ⟨hr.hd, by have := hr.dp; show X.A.depth + 3 * k + 5 < _; omega, by have := hr.un; show X.A.units + 1 + 1 + 1 + 16 * k + 200 < _; omega⟩ rfl
  subst ea eo
  have C := C.sx
  obtain ⟨gs, ki⟩ := C.at_
  have g1 : Gok H1 s1 := (g0.stp R.mem st1).ld fun a h => kp.LD h
  refine callType0 (Q₁ := fun obj s2 => obj = .ref s1.heap.objs.size ∧ s2 = { s1 with heap := s1.heap.push { cls := .type "list", data := .seq #[] } }) F.called_list (by decide) (F.typeCall_list_1 _) F.entry_list_init
    (code_list_new0 _ ⟨rfl, rfl⟩) fun obj s2 h2 => ?_
  obtain ⟨rfl, rfl⟩ := h2
  have hS : (s1.heap.push { cls := .type "list", data := .seq #[] }).get? s1.heap.objs.size = some { cls := .type "list", data := .seq #[] } := Heap.get?_push_size _ rfl
  refine ⟨⟨_, hS, rfl⟩, F.args_list_init_2 _ _, ?_⟩
  show wpAny _ X.A.in1.in1 (do let old ← Builtin.List.listItems (.ref s1.heap.objs.size); Builtin.List.listUpdate (.ref s1.heap.objs.size) (fun _ => #[]); letGo old.toList.reverse; Builtin.List.listExtendWith (.ref s1.heap.objs.size) (.ref G.a) .none) _ _ _
  refine wpAny_bind ?_
  unfold Builtin.List.listItems
  refine wpAny_bind (wpAny_seqItems hS rfl (wpAny_pure ?_))
  show wpAny _ X.A.in1.in1 (updateSeq s1.heap.objs.size (fun _ => #[]) >>= fun _ => letGo (#[] : Array Value).toList.reverse >>= fun _ => Builtin.List.listExtendWith (.ref s1.heap.objs.size) (.ref G.a) .none) _ _ _
  refine wpAny_bind (wpAny_updateSeq hS rfl ?_)
  have hS2 := Heap.get?_update_self (Obj.mapSeq (fun _ => (#[] : Array Value))) hS rfl
  refine wpAny_bind (wpAny_letGo ?_)
  unfold Builtin.List.listExtendWith
  have up : ∀ (h : Heap) (f : Obj → Obj), (∀ b o, s1.heap.get? b = some o → h.get? b = some o) → ∀ b o, s1.heap.get? b = some o → (h.update s1.heap.objs.size f).get? b = some o := fun h f q b o e =>
    (Heap.get?_update_other _ _ (Ne.symm (Nat.ne_of_lt (Heap.lt_size e)))).trans (q b o e)
  have k1 : ∀ b o, s1.heap.get? b = some o → (s1.heap.push { cls := .type "list", data := .seq #[] }).get? b = some o := fun b o e => Heap.get?_push_of_some _ e
  have k2 := up _ (Obj.mapSeq (fun _ => (#[] : Array Value))) k1
  have gty : ∀ {h : Heap}, (∀ b o, s1.heap.get? b = some o → h.get? b = some o) → IsGn h G.a G.g := fun {h} q => ki.gen.of fun o e => q _ o e
  refine wpAny_bind (wpAny_typeOf (IsGn.typeIs (s := { s1 with heap := _ }) (gty k2)) ?_)
  have hSa : s1.heap.objs.size ≠ G.a := Nat.ne_of_gt ki.gen.there.lt
  have h1 : Builtin.List.listSameRef (.ref s1.heap.objs.size) (.ref G.a) = false := by simp [Builtin.List.listSameRef, hSa]
  have h2 : (Value.type "generator" == Value.type "list") = false := by decide
  have h3 : (Value.type "generator" == Value.type "tuple") = false := by decide
  simp only [h1, h2, h3, Bool.or_false, Bool.false_eq_true, if_false]
  refine wpAny_bind (wpAny_pyIter_gn (s := { s1 with heap := _ }) (gty k2) ?_)
  refine wpAny_bind (wpAny_holding ?_)
  unfold Builtin.List.listLengthHint
  refine wpAny_bind (wpAny_specialOf (IsGn.typeIs (s := { s1 with heap := _ }) (gty k2)) F.gen_no_len ?_)
  show wpAny _ X.A.in1.in1 (specialOf (Value.ref G.a) (Str.ofString "__length_hint__") >>= _) _ _ _
  refine wpAny_bind (wpAny_specialOf (IsGn.typeIs (s := { s1 with heap := _ }) (gty k2)) F.gen_no_hint ?_)
  refine wpAny_pure ?_
  show wpAny _ X.A.in1.in1 (rule "list.extend.makes-room" >>= fun _ => Builtin.List.listTouch (.ref s1.heap.objs.size) >>= fun _ =>
    again (.builtin "list.extend.loop" ⟨[.ref s1.heap.objs.size, .ref G.a, .none], []⟩)) _ _ _
  refine wpAny_bind (wpAny_rule ?_)
  refine wpAny_bind ?_
  show wpAny _ X.A.in1.in1 (updateSeq s1.heap.objs.size (·.push .none) >>= fun _ => updateSeq s1.heap.objs.size (·.pop)) _ _ _
  refine wpAny_bind (wpAny_updateSeq hS2 rfl ?_)
  have hS3 := Heap.get?_update_self (Obj.mapSeq (·.push Value.none)) hS2 rfl
  refine wpAny_updateSeq (hz := by seq_fits) hS3 rfl ?_
  have hS4 := Heap.get?_update_self (Obj.mapSeq (·.pop)) hS3 rfl
  have k4 := up _ (Obj.mapSeq (·.pop)) (up _ (Obj.mapSeq (·.push Value.none)) k2)
  refine wpAny_pure ⟨plainId_quiet F.plain_extend_loop _, ?_⟩
  have fz4 := ((Fz.push (s := s1) (o := { cls := .type "list", data := .seq #[] })).trans (Fz.upd (a := s1.heap.objs.size) (f := Obj.mapSeq (fun _ => (#[] : Array Value))) (by rw [hS]; rfl))).trans ((Fz.upd (a := s1.heap.objs.size) (f := Obj.mapSeq (·.push Value.none)) (by rw [hS2]; rfl)).trans (Fz.upd (a := s1.heap.objs.size) (f := Obj.mapSeq (·.pop)) (by rw [hS3]; rfl)))
  generalize hh4 : Heap.update _ s1.heap.objs.size (Obj.mapSeq (·.pop)) = h4 at hS4 k4 fz4 ⊢
  have hL1 : H1 s1.heap.objs.size = none := C.inv.hok.fresh (Nat.le_refl _)
  have kpH : ∀ b o, b ≠ s1.heap.objs.size → H1 b = some o → upd H1 s1.heap.objs.size (.lst []) b = some o := fun b o c e => by rw [upd_ne c]; exact e
  obtain ⟨nb1, nl1⟩ := R1.mem.none hL1
  have st4 : Stp B1 μ1 m1 H1 B1 μ1 m1 (upd H1 s1.heap.objs.size (.lst [])) := Stp.refl.touch hL1 kpH
  have M4 : MemOk X.K B1 μ1 m1 (upd H1 s1.heap.objs.size (.lst [])) := R1.mem.touch nb1 nl1 kpH
  have I4 : Inv X (pins ++ pinL G.a O T s1) σ (upd H1 s1.heap.objs.size (.lst [])) { s1 with heap := h4 } := C.pinned.laid (o := .lst []) (t' := s1.toks) k4 (Nat.le_refl _) ⟨Nat.zero_le _, [], _, .nil, hS4.trans rfl⟩
  have lw1 := g1.lw C.inv
  have C4 := C.kept I4 fz4 M4.le (fun _ _ e => e) (fun i x _ e _ => e) (fun _ _ _ _ _ => rfl) fun a ⟨i, h⟩ => Nat.lt_of_lt_of_le (lw1 a ⟨i, h.of rfl⟩) fz4.hp
  refine drain0 hst hfr hex (A := X.A.in1) eA (I.ok.hd hcalm) hr.depth R1.mem.le hL1 (hx.step st1 R1.mem R.mem.le) q2 xs (fun B' H' s' vs I' g' st' M' nb nl hL rv ho => ⟨rfl, ?_⟩) (fun e s' h => h) xs O T B1 _ _ [] [] rfl (by simpa using hz) C4 (fun a ⟨i, h⟩ => ?_) st4 M4 nb1 nl1 upd_same .nil
  · obtain ⟨o, u, e, g⟩ := g1 a ⟨i, h.of rfl⟩
    exact .inl ⟨o, u, by rw [upd_ne (ne_of_none e hL1)]; exact e, g⟩
  · obtain ⟨stL, ML, sm⟩ := lay_lst hL1 st' M' nb nl hL
    exact ⟨.ref s1.heap.objs.size, .v (.lst xs), _, μ1, m1, H', I', g', rfl, RW.d (.lst upd_same (rv.to sm)), st1.trans R1.mem stL R.mem.le, R1.stp stL ML, q1 ho⟩
end
end Fs
set_option Elab.async false
set_option linter.all false
set_option maxRecDepth 100000
set_option maxHeartbeats 8000000
namespace Fs
open PySem PySem.Spec PyProof.Rows L2
section
variable {P : Program} {w : World} {t : Sem PySem.Fin} {s : Shared} {R : Result → Shared → Prop}
/-- what the caller's thread comes to -/
theorem ends0 (hz : s.asleep) (h0 : s.gens = #[]) (h : wpAny (M0 P w) callerA t (fun fin s' => ∃ f, fin = .done f ∧ R (.ok f) s' ∧ AllBare s'.gens ∧ GensOk s') (fun e s' => R (.error e) s' ∧ AllBare s'.gens ∧ GensOk s') s) :
    ∃ n r s1 s2, schedN (denote table) P w n (.single s ⟨t, .builtin "claim.caller" {}, default, []⟩) = .halted (outcomeOf r) s1 ∧ R r s2 ∧ s1.heap = s2.heap ∧ s1.os = s2.os ∧ s2.heap.life = s.heap.life := by
  have h2 : wpAny (M0 P w) callerA t (fun fin s' => ∃ f, fin = .done f ∧ (((R (.ok f) s' ∧ s'.heap.life = s.heap.life) ∧ GensOk s') ∧ leftWithCleanup s'.gens = false)) (fun e s' => (((R (.error e) s' ∧ s'.heap.life = s.heap.life) ∧ GensOk s') ∧ leftWithCleanup s'.gens = false)) s :=
    wpAny_fz (Fz.refl s) (wpAny_mono h (fun fin s' ⟨f, e, r, b, g⟩ fz => ⟨f, e, ⟨⟨r, fz.life⟩, g⟩, leftWithCleanup_false_of_bare b⟩) fun e s' ⟨r, b, g⟩ fz => ⟨⟨⟨r, fz.life⟩, g⟩, leftWithCleanup_false_of_bare b⟩)
  obtain ⟨n, r, s1, s2, e1, ⟨e2, e3⟩, e4, _, _, e5⟩ := loud_holds (R := fun r s' => R r s' ∧ s'.heap.life = s.heap.life) hz h0 (wp_of_wpAny_done (M := M0 P w) (R := fun r s' => ((R r s' ∧ s'.heap.life = s.heap.life) ∧ GensOk s') ∧ leftWithCleanup s'.gens = false) caller_in h2 default)
  exact ⟨n, r, s1, s2, e1, e2, e4, e5, e3⟩
end
end Fs
set_option Elab.async false
set_option linter.all false
set_option maxRecDepth 100000
set_option maxHeartbeats 8000000
namespace Fs
open PySem PySem.Spec PyProof.Rows L2
open PySem.W PySem.Calls
theorem callFrom0 {c : ClaimW} {tree : List Value → Sem PySem.Fin} {w : World} {s : Shared} {free : Addr → Prop} {gens : Prop} {kept : Heap → Prop} (hz : s.asleep) (h0 : s.gens = #[])
    (sp : ∀ args, c.pre args = true → WData.layableAll args = true → ∀ ord : List DictEntry → List DictEntry, (∀ l, (ord l).Perm l) → ∃ vs s1, layAllW c.records (classAt s.heap) w.params ord args s = some (vs, s1) ∧
        wpAny (M0 c.prog w) callerA (tree vs) (fun fin s' => ∃ f, fin = .done f ∧ (c.Ends s args vs s1 (.ok f) s' ∧ s'.os = s.os ∧ kept s'.heap) ∧ AllBare s'.gens ∧ GensOk s') (fun e s' => (c.Ends s args vs s1 (.error e) s' ∧ s'.os = s.os ∧ kept s'.heap) ∧ AllBare s'.gens ∧ GensOk s') s1) :
    c.CallFrom (fun vs => ⟨tree vs, .builtin "claim.caller" {}, default, []⟩) w free gens kept s := by
  intro args hp hl ord ho
  obtain ⟨vs, s1, laid, code⟩ := sp args hp hl ord ho
  have al := layAllW_rest _ _ _ laid
  obtain ⟨k, r, s2, s3, run, ⟨ends, os, kp⟩, eh, eo, life⟩ := ends0 (R := fun r s' => c.Ends s args vs s1 r s' ∧ s'.os = s.os ∧ kept s'.heap) (Shared.asleep_of_life al.2.2.2 hz) (al.1.trans h0) code
  have ends := ends.congr eh
  have kp2 : kept s2.heap := by rw [eh]; exact kp
  have lf : s2.heap.life = s.heap.life := by rw [eh, life]; exact al.2.2.2
  have os2 : s2.os = s.os := eo.trans os
  refine ⟨vs, s1, laid, k, _, s2, run, ?_, fun _ i x hx => ?_, kp2, by rw [lf], Shared.rest_eq os2⟩
  · rcases ends with ⟨v, rfl, d1, d2, d3, d4, d5⟩ | ⟨e, ob, cls, rfl, d1, d2, d3, d4, d5⟩
    · exact .inl ⟨v, rfl, d1, d2, d3, fun b o y _ => d4 b o y, d5⟩
    · exact .inr ⟨e, ob, cls, rfl, d1, d2, d3, d4, fun b o y _ => d5 b o y⟩
  · rw [h0] at hx
    simp at hx
/-- the walk, over the quiet machine -/
def Walk0 (q : Program) (loose : List Str) (XP : (Str → Option Value) → Heap → Prop) (YP : World → Heap → Prop) (r : RowW) (d : DefRec) (kwd : List (Str × Expr)) : Prop :=
  ∀ (w : World) (s0 s1 : Shared) (mg mb : Str → Option Value), Ground q loose r.records XP w s0 mg mb s1.heap → YP w s1.heap → ∀ (a : Addr) (o : Obj) (pm cd doc dV kV : Value), s1.heap.get? a = some o →
    o.data = .func { docDef d.name d.params d.body d.scope pm cd doc with defaults := dV, kwdefaults := kV } → s1.heap.CodeRec cd d.name → Dflts mg s1.heap d.params kwd dV kV → mg d.name = some (.ref a) → s1.gens = #[] →
    ∀ (args : List WData) (vals : List Value) (as : List Addr), r.claim.pre args = true → WData.layableAll args = true → ReadsAllW r.records (classAt s0.heap) s1.heap vals args as → WellAll w.params s1.heap vals args → (∀ a ∈ as, (a == sysModules) = false) →
      wpAny (M0 r.prog w) callerA (PySem.call (.ref a) vals) (fun v s' => GoodWG r.claim (classAt s0.heap) (ExcName.means s0.heap) args s1 (.ok (.ret v)) s' ∧ GensOk s')
        (fun e s' => GoodWG r.claim (classAt s0.heap) (ExcName.means s0.heap) args s1 (.error e) s' ∧ GensOk s') s1
theorem open0 {r : RowW} {tree : List Value → Sem PySem.Fin} {q : Program} {loose defs kps : List Str} {writes : Bool} {Xt : Shared → Bool} {XP : (Str → Option Value) → Heap → Prop} {α : Type} {Yf : Shared → α} {Ya : World → α} {YP : World → Heap → Prop} {N : Nat}
    (left : LeftO r.prog q loose Xt Yf Ya N) (hY : ∀ w s, Yf s = Ya w → YP w s.heap) (hYk : ∀ w h h', YP w h → (∀ b o, h.get? b = some o → h'.get? b = some o) → YP w h') (hX : ∀ s, Xt s = true → XP (s.heap.nsMap mainGlobals) s.heap) (hXk : ∀ mg h h', XP mg h → (∀ b o, h.get? b = some o → h'.get? b = some o) → XP mg h')
    (hRf : ∀ s, Xt s = true → RecFacts r.records s.heap) (hwr : (!writes || r.records.isEmpty) = true) (ok : (chainsOk q && opensWell r.prog && (frees r && r.within.isEmpty)) = true) (hb : r.prog.bare) (hw : r.promised)
    (ht : ∀ vs (w : World) (s : Shared) mg f (Q : PySem.Fin → Shared → Prop) (E : Value → Shared → Prop), s.heap.Ns mainGlobals mg → mg r.name = some f → wpAny (M0 r.prog w) callerA (PySem.call f vs) (fun v s' => Q (.done (.ret v)) s') E s → wpAny (M0 r.prog w) callerA (tree vs) Q E s)
    (pin : ∀ w s, s.heap.isNs mainGlobals = true → Ground q loose [] XP w s (s.heap.nsMap mainGlobals) (s.heap.nsMap builtinsNs) s.heap → ∀ n ∈ defs, isTheDefsW r.prog s.heap n)
    (call : ∀ (w : World) (s0 s1 : Shared) (mg mb : Str → Option Value), Ground q loose r.records XP w s0 mg mb s1.heap → YP w s1.heap → ∀ (args : List WData) (vs : List Value) (as : List Addr),
      r.claim.pre args = true → WData.layableAll args = true → Laid r.records w s0 s1 args vs as → sysModules < s0.heap.objs.size → ∃ f, mg r.name = some f ∧
        wpAny (M0 r.prog w) callerA (PySem.call f vs) (fun v s' => GoodWG r.claim (classAt s0.heap) (ExcName.means s0.heap) args s1 (.ok (.ret v)) s' ∧ GensOk s')
          (fun e s' => GoodWG r.claim (classAt s0.heap) (ExcName.means s0.heap) args s1 (.error e) s' ∧ GensOk s') s1) : r.claim.HoldsOpenBy (fun vs => ⟨tree vs, .builtin "claim.caller" {}, default, []⟩) defs kps writes := by
  obtain ⟨ok1, ok2⟩ := Bool.and_eq_true_iff.mp ok
  obtain ⟨hch, o1⟩ := Bool.and_eq_true_iff.mp ok1
  obtain ⟨k5, k6⟩ := Bool.and_eq_true_iff.mp ok2
  obtain ⟨hsame, hu, ha, hap, hm⟩ := frees_parts k5
  refine ⟨⟨hb, o1, by show r.makers.map _ = []; rw [hm]; rfl⟩, hw.witness, fun w => ⟨(left.behind hX hch w).1, fun t ht' => ?_⟩⟩
  obtain ⟨s0, hf, hg0, s, hT, hz, hgens, hg, G00, y⟩ := (left.behind (XP := fun mg h => XP mg h ∧ RecFacts r.records h) (fun s hs => ⟨hX s hs, hRf s hs⟩) hch w).2 t ht'
  have G0 : Ground q loose [] XP w s (s.heap.nsMap mainGlobals) (s.heap.nsMap builtinsNs) s.heap := ⟨G00.T, G00.B, G00.D, G00.TE, G00.TD, G00.W, G00.X.1, G00.cls, G00.has, G00.apart, G00.once, G00.K⟩
  have RF := G00.X.2
  refine ⟨s0, hf, hg0, s, hT, pin w s hg G0, RF.1, RF.2.1, ?_⟩
  have gens0 : s.gens = #[] := Array.eq_empty_of_size_eq_zero (beq_iff_eq.mp hgens)
  have G : Ground q loose r.records XP w s _ _ s.heap := RF.ground G0
  refine callFrom0 (c := r.claim) hz gens0 fun args hp hl ord ho => ?_
  obtain ⟨⟨vs, s1⟩, laid⟩ := Option.isSome_iff_exists.mp (layAllW_isSome (P := w.params) (ord := ord) G.has args r.args s (pre_splitW hp).1)
  have kl := layAllW_keeps _ _ _ laid
  have al := layAllW_rest _ _ _ laid
  obtain ⟨as, rd, inn, old⟩ := reads_layAllW ho _ _ _ laid hl s1.heap (fun _ _ e => e)
  have L : Laid r.records w s s1 args vs as := ⟨⟨ord, ho, laid⟩, rd, inn, old, kl, al.1.trans gens0, al.2.2.1⟩
  have G1 := G.keeps hXk kl
  obtain ⟨f, hf, h⟩ := call w s s1 _ _ G1 (hYk _ _ _ (hY w s y) kl) args vs as hp hl L G.low
  have hi := ident_freeW hu ha hap
  have hwi : r.claim.within = [] := List.isEmpty_iff.mp k6
  have fin : ∀ {res : Result} {s' : Shared}, GoodWG r.claim (classAt s.heap) (ExcName.means s.heap) args s1 res s' ∧ GensOk s' → (r.claim.Ends s args vs s1 res s' ∧ s'.os = s.os ∧ (writes = true → namesKept r.claim.prog kps s.heap s'.heap ∧ ∀ x ∈ r.claim.records, ∀ a, classAt s.heap x.1 = some a → recordClass s'.heap a x.1 (x.2.map (·.1)) = true)) ∧ AllBare s'.gens ∧ GensOk s' := fun {res s'} ⟨g, gk⟩ => by
    have z := g.laid (c := r.claim) hsame hwi hi L
    exact ⟨⟨z.1, z.2.1, fun q => ⟨namesKept_of hT hg kps kl g.2.1.old, noTable hwr q⟩⟩, z.2.2, gk⟩
  exact ⟨vs, s1, laid, ht vs w s1 _ f _ _ G1.T.g hf (wpAny_mono h (fun v s' g => ⟨_, rfl, fin g⟩) fun e s' g => fin g)⟩
end Fs
set_option Elab.async false
set_option linter.all false
set_option maxRecDepth 100000
set_option maxHeartbeats 8000000
namespace Fs
open PySem PySem.Spec PyProof.Rows L2
open PySem.W PySem.Calls HandSHeadRun
theorem head0 {r : OpenRow} {q : Program} {H : Hook} {ob : SharedT → H.α} {M : Nat} {loose : List PySem.Str} {d : DefRec} {kwd : List (PySem.Str × PySem.Expr)} (ho : ∀ s : SharedT, ob s = H.obs s.abs)
    (e : opening r.prog = plainProg r.prog.main.scope.names) (f : ∀ s, fenceModules? r.prog s = some s) (run : ∀ w, RunEq r q H ob M loose w)
    (hdef : defOf q r.name = some (d, kwd)) (hp : r.prog.theDef r.name = some (d.params, d.body, d.scope)) (hk : kwWritten? d.params.kwonlyargs d.params.kw_defaults = some kwd)
    (hwr : (!r.writes || r.records.isEmpty) = true) (k1 : r.wellSaid = true) (ok : (chainsOk q && opensWell r.prog && (frees r.toRowW && r.within.isEmpty)) = true) (hb : r.prog.bare) (hw : r.toRowW.promised)
    (call : Walk0 q loose (XL q []) H.says r.toRowW d kwd) : r.Holds := by
  have left : LeftO r.prog q loose (fun s => xlAt q [] s && recOk r.toRowW.records s) H.obs H.val (M + 600) true :=
    left_one (M := M) e (Nat.ble_eq_true_of_le (by omega)) f (Nat.ble_eq_true_of_le (by omega)) fun w os => by
      have z := run w os
      have eo : ob = fun s => H.obs s.abs := funext ho
      rw [eo] at z
      simp only [endQ_eq, seenQ_eq]
      exact z
  refine ⟨k1, hw, open0 (r := r.toRowW) (XP := XL q []) (YP := H.says) (tree := fun vs => do match ← nsGet mainNs r.name with
      | some f => do ret (← PySem.call f vs)
      | none => unsupported "claim.caller:no-such-global") left H.of H.keeps (fun s z => xl_of s (Bool.and_eq_true_iff.mp z).1) XL.keeps (fun s z => recFacts_of (Bool.and_eq_true_iff.mp z).2) hwr ok hb hw
    (fun vs w s mg f Q E hg hf h => wpAny_bind (wpAny_nsGet hg (by rw [hf]; exact wpAny_bind (wpAny_mono h (fun _ _ x => wpAny_pure x) fun _ _ x => x))))
    (fun w s hg G n hn => ?_) fun w s0 s1 mg mb G Y args vs as hpre hlay L low => ?_⟩
  · obtain rfl : n = r.name := by split at hn <;> simp_all
    exact pinned_of_view hg G hdef hp hk
  · obtain ⟨a, o, pm, cd, doc, dV, kV, h1, h2, h3, h4, h5⟩ := G.fn hdef
    exact ⟨.ref a, h1, call w s0 s1 mg mb G Y a o pm cd doc dV kV h2 h3 h4 h5 (defOf_name hdef ▸ h1) L.gens args vs as hpre hlay L.reads L.well (L.low low)⟩
/-- a law's promise -/
structure LawOk (P : Program) (w : World) (K : Fs.Frag) (mg : PySem.Str → Option Value) (base : Heap) (n : Nat) (fa : Addr) : Prop where
  run : ∀ (s : Shared) (H : Hp) (a : Addr) (ns : List Int), Env0 P w K mg base callerA [] s H → s.gens = #[] → SqL K H a (ns.map V.int) → ns.length ≤ n →
    codeAny (M0 P w) callerA (.call (.ref fa) ⟨[.ref a], []⟩) (fun r s' => CR (L2.CX P w) [] P w H s (fun v H' => v = .bl true ∧ Gok H' s') E0 r s') s
theorem lawCall0 {P : Program} {w : World} {K : Fs.Frag} {mg mb : PySem.Str → Option Value} {n : Nat} {fa a : Addr} {s1 : Shared} {vs : List Value} {ns : List Int}
    (KX : K.In s1.heap) (hns : s1.heap.Ns mainGlobals mg) (hb : s1.heap.Ns builtinsNs mb) (hbb : ∀ x : PySem.Str, x ≠ "__name__" → mb x = bootBuiltins x) (hlim : s1.heap.NoLimit) (hg : s1.gens = #[])
    (ha : s1.heap.get? a = some { cls := .type "list", data := .seq vs.toArray }) (hi : IntsAre vs ns) (hl : ns.length ≤ n) (hn : n ≤ sizeLine)
    (F : ∀ base : Heap, K.In base → base.Ns mainGlobals mg → LawOk P w K mg base n fa) :
    codeAny (M0 P w) callerA (.call (.ref fa) ⟨[.ref a], []⟩) (fun r s' => r = .ok (.ret (.bool true)) ∧ OldK s1.heap s'.heap ∧ s'.os = s1.os ∧ AllBare s'.gens ∧ GensOk s') s1 := by
  have rv := vals_ints hi
  have lenV := hi.length
  have core : ∀ H : Hp, Only H → SqL K H a (ns.map V.int) → HOk P w H s1.heap → (∀ b, H b ≠ none → b = a) → (H a ≠ none → K.lookup a = none) →
      codeAny (M0 P w) callerA (.call (.ref fa) ⟨[.ref a], []⟩) (fun r s' => r = .ok (.ret (.bool true)) ∧ OldK s1.heap s'.heap ∧ s'.os = s1.os ∧ AllBare s'.gens ∧ GensOk s') s1 := by
    intro H hO hS hok hA hK
    have noA : ∀ {b : Addr} {o : Obj} {es : Array DictEntry} {ep : Nat}, s1.heap.get? b = some o → o.data = .dict es ep → H b = none := fun {b o es ep} e d => by
      cases q : H b with
      | none => rfl
      | some u =>
        have e' := hA b (by rw [q]; simp)
        subst e'
        rw [ha] at e
        cases e
        cases (show Data.seq vs.toArray _ = Data.dict es ep from d)
    have nsK : ∀ {b : Addr} {m : PySem.Str → Option Value}, s1.heap.Ns b m → (hidT s1.heap H).Ns b m := fun {b m} ⟨o, es, ep, e, d, r⟩ => ⟨o, es, ep, hidT_get e (noA e d), d, r⟩
    have hKb : K.In (hidT s1.heap H) := fun b o e => hidT_get (KX b o e) (by
      cases q : H b with
      | none => rfl
      | some u =>
        have e' := hA b (by rw [q]; simp)
        subst e'
        rw [hK (by rw [q]; simp)] at e
        cases e)
    have hM : Mod K mg (hidT s1.heap H) := ⟨hKb, nsK hns, ⟨mb, nsK hb, hbb⟩, let ⟨mc, h1, h2⟩ := hlim; ⟨mc, nsK h1, h2⟩⟩
    have e0 : Env0 P w K mg (hidT s1.heap H) callerA [] s1 H := ⟨rfl, hM, fun b o e => of_hidT e, Nat.le_of_eq (hidT_size _ _), trivial, fun b hb => absurd (show b ∈ ([] : List Addr) from hb) (by simp), hok, .of_eq hg⟩
    refine codeAny_mono ((F _ hKb (nsK hns)).run s1 H a ns e0 hg hS hl) fun r s' h => ?_
    cases r with
    | error e =>
      obtain ⟨_, _, _, _, _, _, _, _, _, _, _, _, z⟩ := h
      exact z.elim
    | ok fl =>
      cases fl with
      | next => exact False.elim h
      | brk => exact False.elim h
      | cont => exact False.elim h
      | ret u =>
        obtain ⟨v, H', os, bare, un, hok', r', q, g⟩ := h
        subst q
        obtain rfl : u = Value.bool true := r'
        refine ⟨rfl, OldK.of_keep fun b o e => ?_, os, bare, fun i k l c p fs cl hi b hy => ?_⟩
        · cases q : H b with
          | none => exact un.keep b o e q (by intro z; exact absurd (show b ∈ ([] : List Addr) from z) (by simp)) (by simp)
          | some u =>
            rcases hO b with z | ⟨ob, xs, z⟩
            · rw [q] at z
              cases z
            · obtain ⟨e1, _⟩ := hok b _ z
              obtain ⟨e2, _⟩ := hok' b _ (un.frzs b ob _ z)
              rw [e] at e1
              cases e1
              exact e2
        · obtain ⟨o, u, e, gn⟩ := g b ⟨i, k, l, c, p, fs, cl, hi, hy⟩
          rw [(hok' b _ e).1]
          exact gn
  cases hk : K.lookup a with
  | some o =>
    have e := KX a o hk
    rw [ha] at e
    cases e
    refine core (fun _ => none) (fun _ => .inl rfl) (.inr ⟨_, vs.toArray, _, hk, rfl, rfl, rfl, by rw [List.size_toArray, lenV]; omega, by simpa using rv⟩) (fun b u z => by cases (show (none : Option HO) = some u from z)) (fun b z => absurd rfl z) fun z => absurd rfl z
  | none =>
    refine core (fun b => if b = a then some (.frz { cls := .type "list", data := .seq vs.toArray } (.lst (ns.map V.int))) else none) (fun b => ?_) (.inl (.inr ⟨{ cls := .type "list", data := .seq vs.toArray }, if_pos rfl⟩)) (fun b u z => ?_) (fun b z => ?_) fun _ => hk
    · by_cases hb : b = a
      · exact .inr ⟨_, _, if_pos hb⟩
      · exact .inl (if_neg hb)
    · by_cases hb : b = a
      · have z' := (if_pos hb).symm.trans z
        cases z'
        subst hb
        exact ⟨ha, by rw [List.length_map]; omega, vs, _, rv, ha⟩
      · have z' := (if_neg hb).symm.trans z
        cases z'
    · by_cases hb : b = a
      · exact hb
      · exact absurd (if_neg hb) z
theorem walk0 {l : PySem.W.OpenLaw} {n : Nat} {q : Program} {loose : List PySem.Str} {XP : (PySem.Str → Option Value) → Heap → Prop} {YP : World → Heap → Prop} {d : DefRec} (hn : l.most = some n) (hn2 : n ≤ sizeLine) (hdf : d.params.defaults = [])
    (F : ∀ (w : World) (mg : PySem.Str → Option Value) (fa : Addr) (h : Heap), YP w h → h.Ns mainGlobals mg → mg d.name = some (.ref fa) → ∃ K : Fs.Frag, K.In h ∧ ∀ base : Heap, K.In base → base.Ns mainGlobals mg → LawOk l.prog w K mg base n fa) :
    Walk0 q loose XP YP l.row.toRowW d [] := by
  intro w s0 s1 mg mb G Y fa o pm cd doc dV kV ho hd hcd hD hmg hg args vals as hpre hlay hrd hwl hlo
  obtain ⟨a, vs, ns, rfl, rfl, hobj, hints, hlen⟩ := Att.script_of hn hpre hwl
  obtain ⟨K, KX, hF⟩ := F w mg fa _ Y G.T.g hmg
  refine wpAny_call (codeAny_mono (lawCall0 KX G.T.g G.T.b G.T.builtins G.T.nolimit hg hobj hints hlen hn2 hF) fun r s' ⟨e, h1, h2, h3, h4⟩ => ?_)
  subst e
  exact ⟨⟨.inl ⟨.bool true, .bool true, [], rfl, fun _ => rfl, .bool true, Att.post_true l _, fun _ => ⟨List.Pairwise.nil, fun _ hm => (nomatch hm)⟩⟩, h1, h2, h3⟩, h4⟩
end Fs
set_option Elab.async false
set_option linter.all false
set_option maxRecDepth 100000
set_option maxHeartbeats 8000000
namespace Fs
open PySem PySem.Spec PyProof.Rows L2
theorem law_mem {K : Frag} {H1 : Hp} {p l : Addr} (B1 : BagAt H1 p l) : ∃ B, MemOk K B [p] [.bag] H1 := by
  obtain ⟨i, rs, sd, ns, e1, e2, e3⟩ := B1.ex
  have lp : l ≠ p := fun z => by
    subst z
    rw [e2] at e1
    cases ns <;> cases e1
  let B : Hp := fun b => if b = l then some (.lst (ns.map V.int)) else none
  have bl : B l = some (.lst (ns.map V.int)) := if_pos rfl
  refine ⟨B, fun a o e => ?_, rfl, fun a l' => ?_, fun n a m ea em _ => ?_, fun n k a m m' ea ek _ _ _ _ => ?_, fun a ps e => ?_⟩
  · have e : (if a = l then some (HO.lst (ns.map V.int)) else none) = some o := e
    by_cases c : a = l
    · rw [if_pos c] at e
      cases e
      rw [c]
      exact e2
    · rw [if_neg c] at e
      cases e
  · obtain ⟨n, m, ea, _⟩ := l'
    have ez : a = p := by
      cases n with
      | zero => simpa using ea.symm
      | succ n => simp at ea
    subst ez
    exact if_neg (fun z => lp z.symm)
  · have ez : a = p ∧ m = .bag := by
      cases n with
      | zero => exact ⟨by simpa using ea.symm, by simpa using em.symm⟩
      | succ n => simp at ea
    obtain ⟨rfl, rfl⟩ := ez
    exact ⟨l, i, rs, sd, ns, e1, bl, e3⟩
  · have e1 : n = 0 := by
      cases n with
      | zero => rfl
      | succ n => simp at ea
    have e2 : k = 0 := by
      cases k with
      | zero => rfl
      | succ n => simp at ek
    rw [e1, e2]
  · have e : (if a = l then some (HO.lst (ns.map V.int)) else none) = some (.tbl ps) := e
    by_cases c : a = l
    · rw [if_pos c] at e
      cases e
    · rw [if_neg c] at e
      cases e
theorem noLD {s : Shared} (h : s.gens = #[]) {a : Addr} : ¬ LD s a := fun ⟨i, k, l, c, p, fs, cl, e, _⟩ => by
  rw [h] at e
  simp at e
theorem law_ok {P : Program} {w : World} {K : Frag} {mg : Str → Option Value} {base : Heap} {k n nn : Nat} {x qual y : Str} {params : Arguments} {st0 : Stmt} {rest : List Stmt} {scope : Scope} {dvs : List V} {kws : List (Str × V)} {f : Addr} {fd : FuncData} {N : List Str}
    (F : FunD K x qual params (st0 :: rest) scope dvs kws f fd) (S : FnScope N [y] scope) (hr : Room (k + 1) callerA) (hlen : N.length = nn + 2) (hbind : ∀ (s : Shared) (u : Value), BindsTo s fd ⟨[u], []⟩ [(y, u)])
    (hbody : ∀ (cdv : Value) (s : Shared) (H : Hp) (a : Addr) (ns : List Int), Room k (callerA.deeper (envOfC qual scope s.heap.objs.size f cdv)) → SqL K H a (ns.map V.int) → ns.length ≤ n →
      (∃ t0, PS (cxOf (L2.CX P w) P w K mg base N qual scope f cdv callerA [] s H E0) st0 t0 ∧ ∀ D : Ends, (∀ p l H1, BagAt H1 p l → D.nx ((start N [.ref a]).set 1 (some (.ref p))) H1) → t0 D (start N [.ref a]) H) ∧
      ∃ T, USs (cxOf (L2.CX P w) P w K mg base N qual scope f cdv callerA [] s H E0) E0 rest T ∧ T (bagE nn) [.bag] lawN) : LawOk P w K mg base n f := by
  obtain ⟨oc, od, dV, kV, doc, pm, an, cdv, ct, osl, rfl, lk, hcd, _, _⟩ := F.ex
  refine ⟨fun s H a ns e0 hg hS hl => ?_⟩
  have KX : K.In s.heap := e0.mod.kin.keeps fun b o e => (e0.bs b o e).1
  have lim : s.heap.NoLimit := e0.mod.nolimit.keeps fun b o e => (e0.bs b o e).1
  have hkind : ∀ z ∈ [y].zip [Value.ref a], scope.names.lookup z.1 = some .local ∨ (scope.names.lookup z.1 = some .cell ∧ ((cellsFrom (s.heap.objs.size + 1) scope.names []).lookup z.1).isSome = true) := fun ⟨n, v⟩ hy => by
    rcases S.par n (List.of_mem_zip hy).1 with q | q
    · exact .inl q
    · exact .inr ⟨q, PySem.W.cellsFrom_some _ _ _ (.inl q)⟩
  refine code_callfn0 hr.depth (KX _ _ lk) rfl S.co S.gen rfl (PySem.W.codeRec_of KX hcd) ?_
  refine hbind s (.ref a) _ _ _ _ ?_
  refine wpAny_newFunctionEnv_cells S.kind hkind fun env he s1 x => ?_
  subst he
  have gens1 : s1.gens = #[] := by
    obtain ⟨h1, tk, es1, hk1⟩ := x.done
    rw [es1]
    exact hg
  refine ⟨lim.keeps x.toInCall.keep, code_func0 ?_⟩
  obtain ⟨⟨t0, p0, h0⟩, T, hT, hq⟩ := hbody cdv s H a ns (hr.deeper _) hS hl
  have I : Inv (cxOf (L2.CX P w) P w K mg base N qual scope f cdv callerA [] s H E0) [] (start N [.ref a]) H s1 := inv_start S hr.hd e0 rfl (.cons rfl .nil) x
  have never : ∀ {e : Value} {s' : Shared}, UX (cxOf (L2.CX P w) P w K mg base N qual scope f cdv callerA [] s H E0) E0 e s' → wpAny (M0 P w) (callerA.deeper (envOfC qual scope s.heap.objs.size f cdv)) (leaving (envOfC qual scope s.heap.objs.size f cdv) e)
      (fun _ s'' => CR (L2.CX P w) [] P w H s (fun v H' => v = .bl true ∧ Gok H' s'') E0 (.error e) s'') (fun e' s'' => CR (L2.CX P w) [] P w H s (fun v H' => v = .bl true ∧ Gok H' s'') E0 (.error e') s'') s' := fun {e s'} ⟨sx, s0, hx0, sl⟩ => by
    have hx0 : wpAny (model P w) (callerA.deeper (envOfC qual scope s.heap.objs.size f cdv)) (leaving (envOfC qual scope s.heap.objs.size f cdv) e) (fun _ s'' => L2.CX P w [] H s (EG E0 s') e s'') (fun e' s'' => L2.CX P w [] H s (EG E0 s') e' s'') s0 := hx0
    have no : ∀ {y : Value} {s2 : Shared}, L2.CX P w [] H s (EG E0 s') y s2 → False := fun ⟨_, _, _, _, _, _, _, _, _, _, _, _, z⟩ => z.1
    exact wpAny_mono (lift_slq sl hx0) (fun _ s2 ⟨s1, q, k⟩ => (no q).elim) fun y s2 ⟨s1, q, k⟩ => (no q).elim
  refine wpAny_execs_cons ?_
  have w0 := p0.run [] (asleep s1) (start N [.ref a]) H { nx := fun σ' H' => ∃ p l, BagAt H' p l ∧ σ' = (start N [.ref a]).set 1 (some (.ref p)), rt := fun _ _ => False } I.asl (h0 _ fun p l H1 b => ⟨p, l, b, rfl⟩)
  have toU : ∀ {e : Value} {s' : Shared}, (∃ s0, (cxOf (L2.CX P w) P w K mg base N qual scope f cdv callerA [] s H E0).xe e s0 ∧ Slq s1 s0 s') → UX (cxOf (L2.CX P w) P w K mg base N qual scope f cdv callerA [] s H E0) E0 e s' := fun {e s'} ⟨s0, h, sl⟩ =>
    ⟨s1, s0, sx_mono (X := cxOf (L2.CX P w) P w K mg base N qual scope f cdv callerA [] s H E0) (E := E0) (fun _ _ _ z => z.elim) h, sl⟩
  refine wpAny_mono (lift_slp I.bare w0) (fun fl s2 ⟨s3, hsp, sl⟩ => ?_) fun e s2 h => never (toU h)
  cases fl with
  | brk => obtain ⟨_, _, _, z⟩ := hsp; exact z.elim
  | cont => obtain ⟨_, _, _, z⟩ := hsp; exact z.elim
  | ret v => obtain ⟨_, _, _, _, _, z⟩ := hsp; exact z.elim
  | next =>
    obtain ⟨σ2, H2, I3, p, l, b2, rfl⟩ := hsp
    obtain ⟨B, M⟩ := law_mem (K := K) b2
    have I2 := sl.inv I3
    have g2 : Gok H2 s2 := fun a z => absurd (sl.ld z) (noLD gens1)
    have R : Rel K B [p] (bagE nn) [.bag] ((start N [.ref a]).set 1 (some (.ref p))) H2 := by
      refine ⟨M, ?_, fun i x e => ?_⟩
      · rw [List.length_set]
        simp [L2.start, hlen]
      · have h1 : ((start N [.ref a]).set 1 (some (.ref p)))[1]? = some (some (.ref p)) := by
          rw [List.getElem?_set_self]
          simp [L2.start, hlen]
        obtain ⟨rfl, h⟩ := bagE_at e h1
        exact ⟨_, h, p, rfl, rfl⟩
    refine wpAny_mono (hT.run [] B [p] (bagE nn) [.bag] _ H2 s2 lawN I2 g2 R ExOf.no hq) (fun fl s4 h => ?_) fun e s4 h => never h
    cases fl with
    | next => obtain ⟨_, _, _, _, _, _, _, _, _, _, z⟩ := h; exact z.elim
    | brk => obtain ⟨_, _, _, _, _, _, _, _, _, _, z⟩ := h; exact z.elim
    | cont => obtain ⟨_, _, _, _, _, _, _, _, _, _, z⟩ := h; exact z.elim
    | ret u =>
      obtain ⟨v, y, σ', B', μ', m', H', J, g', rv, rw', st, M', q⟩ := h
      have q : y = .v (.bl true) := q
      subst q
      cases (show Rv K B' v (.bl true) from rw')
      exact ⟨.bl true, H', J.os, J.bare, J.base, J.hok, rv, rfl, g'⟩
end Fs
set_option Elab.async false
set_option linter.all false
set_option maxRecDepth 100000
set_option maxHeartbeats 8000000
namespace Fs
open PySem PySem.Spec PyProof.Rows L2
/-- max of a list of ints, of two ints -/
def intsD : List D → (List Int → Prop) → Prop
  | [], Q => Q []
  | .int b :: r, Q => intsD r fun bs => Q (b :: bs)
  | _ :: _, _ => False
theorem intsD_ok {K : Frag} {B : Hp} : ∀ {ds : List D} {vs : List V} {Q : List Int → Prop}, RvL K B vs ds → intsD ds Q → ∃ bs, vs = bs.map V.int ∧ Q bs
  | [], _, _, .nil, q => ⟨[], rfl, q⟩
  | .int b :: r, _, Q, .cons a t, q => by
    cases a
    obtain ⟨bs, rfl, k⟩ := intsD_ok (Q := fun bs => Q (b :: bs)) t q
    exact ⟨b :: bs, rfl, k⟩
  | .non :: _, _, _, _, q => q.elim
  | .bl _ :: _, _, _, _, q => q.elim
  | .str _ :: _, _, _, _, q => q.elim
  | .ty _ :: _, _, _, _, q => q.elim
  | .fn _ :: _, _, _, _, q => q.elim
  | .tup _ :: _, _, _, _, q => q.elim
  | .lst _ :: _, _, _, _, q => q.elim
  | .dic _ :: _, _, _, _, q => q.elim
  | .obj _ _ :: _, _, _, _, q => q.elim
  | .exc _ _ :: _, _, _, _, q => q.elim
theorem intsD_map (l : List Int) {Q : List Int → Prop} (q : Q l) : intsD (l.map D.int) Q := by
  induction l generalizing Q with
  | nil => exact q
  | cons a l ih => exact ih (Q := fun bs => Q (a :: bs)) q
def maxLD : D → (D → Prop) → Prop
  | .lst ds, Q => intsD ds fun ns => 0 < ns.length ∧ ∀ m, m ∈ ns → (∀ y, y ∈ ns → y ≤ m) → Q (.int m)
  | _, _ => False
def sumLD : D → (D → Prop) → Prop
  | .lst ds, Q => intsD ds fun ns => Q (.int ns.sum)
  | _, _ => False
def max2D : F2
  | .int i, .int j, Q => Q (.int (if j > i then j else i))
  | _, _, _ => False
section
variable {X : Cx} {E : XK} {x : Str} {e a b c : Expr} {es rest : List Expr} {p pos : Pos} {ta tb te : DTE} {tA : DTA}
theorem c_maxL : SC X (rMax X.K) (c1 maxLD) := SC.of1 fun B μ m H v d Q QV M td q k => by
  cases d with
  | lst ds =>
    obtain ⟨p, vs, rfl, hp, r⟩ := td
    obtain ⟨ns, rfl, hl, q⟩ := intsD_ok r q
    exact ⟨p, ns, rfl, .inl (.inl hp), hl, fun m h1 h2 => SO.pure M k (.int _) (q m h1 h2)⟩
  | _ => exact q.elim
theorem c_sumL : SC X (rSum X.K) (c1 sumLD) := SC.of1 fun B μ m H v d Q QV M td q k => by
  cases d with
  | lst ds =>
    obtain ⟨p, vs, rfl, hp, r⟩ := td
    obtain ⟨ns, rfl, q⟩ := intsD_ok r q
    exact ⟨p, ns, rfl, .inl (.inl hp), SO.pure M k (.int _) q⟩
  | _ => exact q.elim
theorem d_maxL (hc : X.calm = true) (hm : X.mg "max" = none) {ta : DTA} (ha : DA X E [e] ta) (hg : Gl X "max" := by rfl) (he : starEach [e] X.env = (false, eval e X.env) :: starEach [] X.env := by rfl) (hpl : (backTo pos (starEach [] X.env)).any (·.1) = false := by rfl) : DE X E (.Call (.Name "max" p) [e] [] pos) (tCa (c1 maxLD) ta) :=
  d_fn (cr_max hc) c_maxL hm (by decide +kernel) ha hg (by decide) (by decide) he hpl
theorem d_sumL (hc : X.calm = true) (hm : X.mg "sum" = none) {ta : DTA} (ha : DA X E [e] ta) (hg : Gl X "sum" := by rfl) (he : starEach [e] X.env = (false, eval e X.env) :: starEach [] X.env := by rfl) (hpl : (backTo pos (starEach [] X.env)).any (·.1) = false := by rfl) : DE X E (.Call (.Name "sum" p) [e] [] pos) (tCa (c1 sumLD) ta) :=
  d_fn (cr_sum hc) c_sumL hm (by decide +kernel) ha hg (by decide) (by decide) he hpl
theorem u_maxL (hc : X.calm = true) (hm : X.mg "max" = none) (ha : UA X E [e] tA) (hg : Gl X "max" := by rfl) (he : starEach [e] X.env = (false, eval e X.env) :: starEach [] X.env := by rfl) (hpl : (backTo pos (starEach [] X.env)).any (·.1) = false := by rfl) : UE X E (.Call (.Name "max" p) [e] [] pos) (tCa (c1 maxLD) tA) :=
  u_fn (fun E' => cr_max (X := sxX X E') hc) c_maxL hm (by decide +kernel) ha hg (by decide) (by decide) he hpl
theorem u_sumL (hc : X.calm = true) (hm : X.mg "sum" = none) (ha : UA X E [e] tA) (hg : Gl X "sum" := by rfl) (he : starEach [e] X.env = (false, eval e X.env) :: starEach [] X.env := by rfl) (hpl : (backTo pos (starEach [] X.env)).any (·.1) = false := by rfl) : UE X E (.Call (.Name "sum" p) [e] [] pos) (tCa (c1 sumLD) tA) :=
  u_fn (fun E' => cr_sum (X := sxX X E') hc) c_sumL hm (by decide +kernel) ha hg (by decide) (by decide) he hpl
theorem u_len (hm : X.mg "len" = none) (ha : UA X E [e] tA) (hg : Gl X "len" := by rfl) (he : starEach [e] X.env = (false, eval e X.env) :: starEach [] X.env := by rfl) (hpl : (backTo pos (starEach [] X.env)).any (·.1) = false := by rfl) : UE X E (.Call (.Name "len" p) [e] [] pos) (tCa (c1 lenD) tA) :=
  u_fn (fun E' => cr_len (X := sxX X E')) c_len hm PySem.boot_len ha hg (by decide) (by decide) he hpl
theorem u_isi {e2 : Expr} (hm : X.mg "isinstance" = none) (ha : UA X E [e, e2] tA) (hg : Gl X "isinstance" := by rfl) (he : starEach [e, e2] X.env = (false, eval e X.env) :: starEach [e2] X.env := by rfl) (hpl : (backTo pos (starEach [e2] X.env)).any (·.1) = false := by rfl) : UE X E (.Call (.Name "isinstance" p) [e, e2] [] pos) (tCa (c2 isiD) tA) :=
  u_fn (fun E' => call_isi (X := sxX X E')) c_isi hm (by decide +kernel) ha hg (by decide) (by decide) he hpl
theorem u_srt (hc : X.calm = true) (hm : X.mg "sorted" = none) (ha : UA X E [e] tA) (hg : Gl X "sorted" := by rfl) (he : starEach [e] X.env = (false, eval e X.env) :: starEach [] X.env := by rfl) (hpl : (backTo pos (starEach [] X.env)).any (·.1) = false := by rfl) : UE X E (.Call (.Name "sorted" p) [e] [] pos) (tCa (c1 srtD) tA) :=
  u_fn (fun E' => (call_sortedD (X := sxX X E') hc).or cr_sortedS) c_srt hm (by decide +kernel) ha hg (by decide) (by decide) he hpl
theorem c_list : SC X (fun xs H Q => ∃ a ys, xs = [.ref a] ∧ (SqL X.K H a ys ∨ SqT X.K H a ys) ∧ ∀ l, H l = none → Q (.ref l) (upd H l (.lst ys))) (c1 toLst) := SC.of1 fun B μ m H v d Q QV M td q k => by
  cases d with
  | lst ds =>
    obtain ⟨p, vs, rfl, hp, r⟩ := td
    exact ⟨p, vs, rfl, .inl (.inl (.inl hp)), fun l nl => SO.new M k nl (new_lst M nl r) q⟩
  | tup ds =>
    obtain ⟨p, vs, rfl, hp, r⟩ := td
    exact ⟨p, vs, rfl, .inr (M.le.tup hp), fun l nl => SO.new M k nl (new_lst M nl r) q⟩
  | _ => exact q.elim
theorem u_list (hm : X.mg "list" = none) (ha : UA X E [e] tA) (hg : Gl X "list" := by rfl) (he : starEach [e] X.env = (false, eval e X.env) :: starEach [] X.env := by rfl) (hpl : (backTo pos (starEach [] X.env)).any (·.1) = false := by rfl) : UE X E (.Call (.Name "list" p) [e] [] pos) (tCa (c1 toLst) tA) :=
  u_tyc (fun E' => call_list_of (X := sxX X E')) c_list hm (by decide +kernel) ha hg (by decide) (by decide) he hpl
/-- sorted(texts), an own list -/
def tSrtO (ta : DTA) : DTE := fun en m Q Qx => ta en m (fun ws m1 => ∃ ds, ws = [.v (.lst ds)] ∧ txtL ds fun xs => xs.length < 64 ∧ ∀ ys : List Str, ys.Perm xs → sortedS ys = true → Q (.loc m1.length) (m1 ++ [.lst (ys.map D.str)])) Qx
theorem u_srtO (hc : X.calm = true) (hm : X.mg "sorted" = none) (ha : UA X E [e] tA) (hg : Gl X "sorted" := by rfl) (he : starEach [e] X.env = (false, eval e X.env) :: starEach [] X.env := by rfl) (hpl : (backTo pos (starEach [] X.env)).any (·.1) = false := by rfl) : UE X E (.Call (.Name "sorted" p) [e] [] pos) (tSrtO tA) := by
  refine ⟨fun pins B μ en m σ H s Q Qx I g R hx ht => ?_⟩
  refine wpAny_Call_Name_kw (u_look I g (ld_blt I.asl hg hm (u := .builtin "sorted") (by decide +kernel) ⟨rfl, rfl⟩ (by decide) (by decide)) fun s1 I1 g1 => ?_)
  refine PyProof.Rows.callWith_builtin1 (thn (ha.run pos pins B μ en m σ H s1 _ Qx I1 g1 R hx ht) fun us s2 ⟨vs, ws, B2, μ2, m2, H2, I2, g2, rvs, rws, st2, R2, ds, ew, q2⟩ => ?_) he hpl
  subst ew
  cases rws with
  | cons rd rn =>
    cases rn
    cases (show Rv X.K B2 _ (.lst ds) from rd) with
    | lst hv rl =>
      obtain ⟨xs, rfl, e2, hl, q⟩ := txtL_ok rl q2
      refine fin_v I2 g2 R.mem st2 R2 (cr_sortedS (X := sxX X (EG E s2)) pins (asleep s2) σ H2 _ us _ (toSx I2.asl) rvs ⟨_, xs, rfl, .inl (.inl (R2.mem.le _ _ hv)), hl, fun ys p hp hs np => ?_⟩)
      have oy : ∀ y ∈ ys, okS y = true := fun y hy => e2 y (hp.mem_iff.mp hy)
      have kp : ∀ a o, a ≠ p → H2 a = some o → upd H2 p (.lst (ys.map V.str)) a = some o := fun a o c e => by rw [upd_ne c]; exact e
      exact ⟨B2, _, _, .loc m2.length, Stp.push R2.mem np (m := .lst (ys.map D.str)) kp, R2.mem.push np (m := .lst (ys.map D.str)) (fun a o e => kp a o (ne_of_none (R2.mem.le a o e) np) (R2.mem.le a o e)) kp ⟨_, upd_same, rvl_strs oy⟩, ⟨p, rfl, by simp [R2.mem.len]⟩, q ys hp hs⟩
/-! and, or as values -/
theorem u_one {op : BoolOp} (h : UE X E a ta) : UE X E (.BoolOp op [a] pos) ta := ⟨fun pins B μ en m σ H s Q Qx I g R hx ht => PyProof.Rows.BoolOp_one (h.run pins B μ en m σ H s Q Qx I g R hx ht)⟩
theorem u_and (ha : UE X E a ta) (hb : UE X E (.BoolOp .And (b :: rest) pos) tb) : UE X E (.BoolOp .And (a :: b :: rest) pos) (tAndE ta tb) := by
  refine ⟨fun pins B μ en m σ H s Q Qx I g R hx ht => ?_⟩
  refine PyProof.Rows.BoolOp_and (thn (ha.run pins B μ en m σ H s _ Qx I g R hx ht) fun v s1 ⟨y, w, B1, μ1, m1, H1, I1, g1, rv, rw, st1, R1, q1⟩ => ?_)
  obtain ⟨d, rfl, rfl, q⟩ := bD_ok rw q1
  cases rv
  refine wpAny_truthy_bool ?_
  cases d with
  | true => exact thn (hb.run pins B1 μ1 en m1 σ H1 s1 _ Qx I1 g1 R1 (hx.step st1 R1.mem R.mem.le) q) fun v s2 ⟨y, w, B2, μ2, m2, H2, I2, g2, rv, rw, st2, R2, q2⟩ => ⟨y, w, B2, μ2, m2, H2, I2, g2, rv, rw, st1.trans R1.mem st2 R.mem.le, R2, q2⟩
  | false => exact ⟨.bl false, .v (.bl false), B1, μ1, m1, H1, I1, g1, rfl, .bl _, st1, R1, q⟩
theorem u_or (ha : UE X E a ta) (hb : UE X E (.BoolOp .Or (b :: rest) pos) tb) : UE X E (.BoolOp .Or (a :: b :: rest) pos) (tOrE ta tb) := by
  refine ⟨fun pins B μ en m σ H s Q Qx I g R hx ht => ?_⟩
  refine PyProof.Rows.BoolOp_or (thn (ha.run pins B μ en m σ H s _ Qx I g R hx ht) fun v s1 ⟨y, w, B1, μ1, m1, H1, I1, g1, rv, rw, st1, R1, q1⟩ => ?_)
  obtain ⟨d, rfl, rfl, q⟩ := bD_ok rw q1
  cases rv
  refine wpAny_truthy_bool ?_
  cases d with
  | false => exact thn (hb.run pins B1 μ1 en m1 σ H1 s1 _ Qx I1 g1 R1 (hx.step st1 R1.mem R.mem.le) q) fun v s2 ⟨y, w, B2, μ2, m2, H2, I2, g2, rv, rw, st2, R2, q2⟩ => ⟨y, w, B2, μ2, m2, H2, I2, g2, rv, rw, st1.trans R1.mem st2 R.mem.le, R2, q2⟩
  | true => exact ⟨.bl true, .v (.bl true), B1, μ1, m1, H1, I1, g1, rfl, .bl _, st1, R1, q⟩
/-! methods of built-in types -/
theorem u_bm {T : String} {name : Str} {id : String} {r : V → List V → Hp → VK → Prop} {op : DMt} {ty : W → Me → Prop} {o e : Expr} {es : List Expr} {to : DTE} {ta : DTA} {apos cpos : Pos} (pa : PlainAttrs T) (slot : Slot T name id) (hty : typeOf (.builtin id) = pure (.type "method_descriptor")) (hm : ∀ E', MtR (sxX X E') id r) (so : SM X r op) (st : STy X T ty) (ho : UE X E o to) (ha : UA X E (e :: es) ta)
    (hbase : attributeBase o name X.env (eval o X.env) = eval o X.env := by rfl)
    (hfew : ((backTo cpos (starEach (e :: es) X.env)).all (fun x => !x.1) && (backToKw cpos (keywordEach [] X.env)).all (fun x => x.1.isSome)
      && decide ((e :: es).length + ([] : List Keyword).length + (if ([] : List Keyword).isEmpty then 0 else 1) < 30)) = true := by rfl)
    (hline : (apos.endLine == cpos.line) = true := by rfl) (hs : starEach (e :: es) X.env = (false, eval e X.env) :: starEach es X.env := by rfl) (hplain : (backTo cpos (starEach es X.env)).any (·.1) = false := by rfl) :
    UE X E (.Call (.Attribute o name apos) (e :: es) [] cpos) (tMe ty op to ta) := by
  refine ⟨fun pins B μ en m σ H s Q Qx I g R hx ht => ?_⟩
  rw [arm_eval_Call, hbase]
  refine wpAny_bind (thn (ho.run pins B μ en m σ H s _ Qx I g R hx ht) fun v s1 ⟨x, w, B1, μ1, m1, H1, I1, g1, r1, rw1, st1, R1, q1, q2⟩ => ?_)
  obtain ⟨h1, h2⟩ := tyV_is I1 r1 (st B1 μ1 m1 H1 w x R1.mem rw1 q1)
  refine wpAny_bind (wpAny_standAt ?_)
  have hform : methodCallForm ((e :: es).length + ([] : List Keyword).length) (backTo cpos (starEach (e :: es) X.env)) (backToKw cpos (keywordEach [] X.env)) = true := hfew
  have hpos : methodCallPos true o X.env apos cpos = pure cpos := by unfold methodCallPos; simp [hline]
  unfold methodCall
  rw [hform]
  refine wpAny_bind (wpAny_holding (getMethod_builtin h1 pa slot hty h2 ?_))
  refine wpAny_bind (wpAny_of_eq hpos ?_)
  have hA := ha.run cpos pins B1 μ1 en m1 σ H1 s1 _ Qx I1 g1 R1 (hx.step st1 R1.mem R.mem.le) q2
  rw [hs] at hA ⊢
  refine Calls.callWith_builtin (by show (false || (backTo cpos (starEach es X.env)).any (·.1)) = false; rw [hplain] <;> rfl) (Calls.evalArgs_plain ?_)
  refine thn hA fun us s2 ⟨vs, ws, B2, μ2, m2, H2, I2, g2, rvs, rws, st2, R2, q3⟩ => ?_
  exact fin_v I2 g2 R.mem (st1.trans R1.mem st2 R.mem.le) R2 (hm (EG E s2) pins (asleep s2) σ H2 x vs v us _ (toSx I2.asl) r1 rvs (so B2 μ2 m2 H2 w ws x vs _ _ R2.mem (rw1.to st2.same st2.pre) rws q3 fun B3 m3 H3 d z s3 M3 rz q4 => ⟨B3, μ2, m3, .v d, s3, M3, RW.d rz, q4⟩))
theorem u_app {o e : Expr} {to : DTE} {ta : DTA} {apos pos : Pos} (ho : UE X E o to) (ha : UA X E [e] ta) (hb : attributeBase o "append" X.env (eval o X.env) = eval o X.env := by rfl)
    (hfew : ((backTo pos (starEach [e] X.env)).all (fun x => !x.1) && (backToKw pos (keywordEach [] X.env)).all (fun x => x.1.isSome)
      && decide ([e].length + ([] : List Keyword).length + (if ([] : List Keyword).isEmpty then 0 else 1) < 30)) = true := by rfl)
    (hline : (apos.endLine == pos.line) = true := by rfl) (hs : starEach [e] X.env = (false, eval e X.env) :: starEach [] X.env := by rfl) (hplain : (backTo pos (starEach [] X.env)).any (·.1) = false := by rfl) :
    UE X E (.Call (.Attribute o "append" apos) [e] [] pos) (tMe isOl aApp to ta) := u_bm PySem.F.plainAttrs_list PySem.F.slot_list_append PySem.F.type_list_append (fun E' => mt_append (X := sxX X E')) aApp_ok isOl_ok ho ha hb hfew hline hs hplain
end
end Fs
set_option Elab.async false
set_option linter.all false
set_option maxRecDepth 100000
set_option maxHeartbeats 8000000
namespace Fs
open PySem PySem.Spec PyProof.Rows L2
section
variable {X : Cx} {E : XK} {x : Str} {e : Expr} {es : List Expr} {kws : List Keyword} {p pos : Pos} {tA tK : DTA} {k n : Nat} {ps ks : List Str} {sp : SpD} {spg : SpG} {gV : List V → List V → List V} {gW : List W → List W → List W}
theorem u_callR0 (hs : X.stack = X.env :: X.outer) (hf : X.env.frame = some X.env.locals) (hex : X.ex = []) (G : GUk X.prog X.w X.K X.mg X.base k x 0 ks gV ps sp) (hre : Reo X.K gV gW) (hr : Room k X.A) (hkw : UK X E kws tK)
    (hg : Gl X x := by rfl) (hall : (backToKw pos (keywordEach kws X.env)).all (·.1.isSome) = true := by rfl) (hks : (backToKw pos (keywordEach kws X.env)).filterMap (·.1) = ks := by rfl)
    (hdb : (x == ("__debug__" : Str)) = false := by decide) (hpl : ((backTo pos (starEach [] X.env)).any (·.1) || (backToKw pos (keywordEach kws X.env)).any (·.1.isNone)) = false := by rfl) : UE X E (.Call (.Name x p) [] kws pos) (tCalk 0 ks.length sp gW tN tK) := by
  refine ⟨fun pins B μ en m σ H s Q Qx I g R hx ht => ?_⟩
  obtain ⟨f, fd, gg, hm, hk, hb, F⟩ := G.ex
  refine wpAny_Call_Name_kw (u_look I g (ld_glob I.asl hg hm ⟨rfl, rfl⟩ hdb) fun s1 I1 g1 => ?_)
  refine PySem.W.callWith_KW0 (h₀ := X.base) I.ok.mod.kin hk hall (thn (hkw.run pos pins B μ en m σ H s1 _ Qx I1 g1 R hx ht) fun us s2 ⟨vs, ws, B2, μ2, m2, H2, I2, g2, rvs, rws, st2, R2, l1, l2, q2⟩ => ⟨I2.kIn, ?_⟩) hpl
  rw [hks]
  exact run_un hs hf hex F hr I2 g2 R.mem st2 R2 hx (hb.to s2 [] us I2.kIn rfl (by rw [← rvs.length, rws.len]; exact l2)) (hb.rel .nil rvs) (hre B2 μ2 [] [] vs ws .nil rws) q2
theorem u_callR (hs : X.stack = X.env :: X.outer) (hf : X.env.frame = some X.env.locals) (hex : X.ex = []) (G : GUk X.prog X.w X.K X.mg X.base k x n ks gV ps sp) (hre : Reo X.K gV gW) (hr : Room k X.A) (ha : UA X E (e :: es) tA) (hkw : UK X E kws tK)
    (hg : Gl X x := by rfl) (hall : (backToKw pos (keywordEach kws X.env)).all (·.1.isSome) = true := by rfl) (hks : (backToKw pos (keywordEach kws X.env)).filterMap (·.1) = ks := by rfl)
    (hdb : (x == ("__debug__" : Str)) = false := by decide) (he : starEach (e :: es) X.env = (false, eval e X.env) :: starEach es X.env := by rfl) (hpl : ((backTo pos (starEach (e :: es) X.env)).any (·.1) || (backToKw pos (keywordEach kws X.env)).any (·.1.isNone)) = false := by rfl) : UE X E (.Call (.Name x p) (e :: es) kws pos) (tCalk n ks.length sp gW tA tK) := by
  refine ⟨fun pins B μ en m σ H s Q Qx I g R hx ht => ?_⟩
  obtain ⟨f, fd, gg, hm, hk, hb, F⟩ := G.ex
  refine wpAny_Call_Name_kw (u_look I g (ld_glob I.asl hg hm ⟨rfl, rfl⟩ hdb) fun s1 I1 g1 => ?_)
  have hA := ha.run pos pins B μ en m σ H s1 _ Qx I1 g1 R hx ht
  refine PySem.W.callWith_KW (h₀ := X.base) I.ok.mod.kin hk hall (thn hA fun us s2 ⟨vs, ws, B2, μ2, m2, H2, I2, g2, rvs, rws, st2, R2, q2⟩ => ?_) hpl he
  refine thn (hkw.run pos pins B2 μ2 en m2 σ H2 s2 _ Qx I2 g2 R2 (hx.step st2 R2.mem R.mem.le) q2) fun us3 s3 ⟨vs3, ws3, B3, μ3, m3, H3, I3, g3, rvs3, rws3, st3, R3, l1, l2, q3⟩ => ⟨I3.kIn, ?_⟩
  rw [hks]
  exact run_un hs hf hex F hr I3 g3 R.mem (st2.trans R2.mem st3 R.mem.le) R3 hx (hb.to s3 us us3 I3.kIn (by rw [← rvs.length, rws.len]; exact l1) (by rw [← rvs3.length, rws3.len]; exact l2)) (hb.rel rvs rvs3) (hre B3 μ3 vs ws vs3 ws3 (rws.to st3.same st3.pre) rws3) q3
theorem u_call0 (hs : X.stack = X.env :: X.outer) (hf : X.env.frame = some X.env.locals) (hex : X.ex = []) (G : GU X.prog X.w X.K X.mg X.base k x ps sp) (hr : Room k X.A)
    (hg : Gl X x := by rfl) (hdb : (x == ("__debug__" : Str)) = false := by decide) : UE X E (.Call (.Name x p) [] [] pos) (tCal sp tN) := by
  refine ⟨fun pins B μ en m σ H s Q Qx I g R hx ht => ?_⟩
  obtain ⟨f, fd, hm, hk, hb, F⟩ := G.ex
  refine wpAny_Call_Name_kw (u_look I g (ld_glob I.asl hg hm ⟨rfl, rfl⟩ hdb) fun s1 I1 g1 => ?_)
  refine PySem.W.callWith_K0 I1.kIn hk ?_
  exact run_un hs hf hex F hr I1 g1 R.mem .refl R hx (us' := [] ++ []) (vs := []) (ws := []) (hb s1 [] I1.kIn (F.len _ _ _ _ ht)) .nil .nil ht
def tGCalR (sp : SpG) (n : Nat) (gW : List W → List W → List W) (ta : DTA) : DGE := fun en m Q Qx => ta en m (fun ws m1 => ws.length = n ∧ ∃ its oe, sp (gW [] ws) its oe ∧ Q its oe m1) Qx
theorem ge_callR (G : GGk X.prog X.w X.K X.mg X.base k x ks gV ps spg) (hre : Reo X.K gV gW) (hr : Room k X.A) (ha : DK X E kws tK)
    (hg : Gl X x := by rfl) (hall : (backToKw pos (keywordEach kws X.env)).all (·.1.isSome) = true := by rfl) (hks : (backToKw pos (keywordEach kws X.env)).filterMap (·.1) = ks := by rfl)
    (hdb : (x == ("__debug__" : Str)) = false := by decide) (hpl : ((backTo pos (starEach [] X.env)).any (·.1) || (backToKw pos (keywordEach kws X.env)).any (·.1.isNone)) = false := by rfl) : GE X E k (.Call (.Name x p) [] kws pos) (tGCalR spg ks.length gW tK) := by
  refine ⟨fun pins B μ en m σ H s Q Qx I R hx lw ht => ?_⟩
  obtain ⟨f, fd, g, hm, hk, hb, F⟩ := G.ex
  obtain ⟨t1, p1, k1⟩ := ha.ex
  have w := k1 B μ en m σ H _ Qx (fun vs H' => ∃ B' μ' m' ws, Stp B μ m H B' μ' m' H' ∧ Rel X.K B' μ' en m' σ H' ∧ RWs X.K B' μ' vs ws ∧ ws.length = ks.length ∧ ∃ its oe, spg (gW [] ws) its oe ∧ Q its oe m') R hx ht fun B' μ' m' H' ws vs st r rw q => ⟨B', μ', m', ws, st, r, rw, q⟩
  refine wpAny_Call_Name_kw (wpAny_mono (lift_slp I.bare (ld_glob (E := X.xe) I.asl hg hm (Q := fun v s' => v = .ref f ∧ s' = asleep s) ⟨rfl, rfl⟩ hdb)) (fun u s1 ⟨s0, ⟨e1, e0⟩, sl⟩ => ?_) fun _ _ z => z)
  subst e1 e0
  refine PySem.W.callWith_KW0 (h₀ := X.base) I.ok.mod.kin hk hall (wpAny_fz (sl_fz I.bare sl) (wpAny_mono (lift_slq sl (p1.run pos pins (asleep s) σ H _ I.asl w)) (fun us s2 ⟨s3, ⟨vs, H1, I3, rv, B', μ', m', ws, st, r', rws, hl, its, oe, hsp, q⟩, sl2⟩ fz => ?_) fun _ _ z _ => z)) hpl
  have I2 : Inv X pins σ H1 s2 := sl2.inv I3
  refine ⟨I2.kIn, ?_⟩
  rw [hks]
  refine wpAny_call (codeAny_mono (F.run X rfl rfl rfl rfl rfl pins σ H1 s2 B' μ' m' ⟨[], ks.zip us⟩ (g [] us) (gV [] vs) (gW [] ws) its oe hr I2 r'.mem (hb.to s2 [] us I2.kIn rfl (by rw [← rv.length, rws.len]; exact hl)) (hb.rel .nil rv) (hre B' μ' [] [] vs ws .nil rws) hsp fun a h => Nat.lt_of_lt_of_le (lw a (sl2.ld h)) fz.hp) fun r s' ⟨a, er, gm, kp⟩ => ?_)
  subst er
  exact ⟨a, B', μ', m', H1, its, oe, rfl, st, r', gm.weak fz.gn, sl2.kp.trans kp, q⟩
end
/-- two keywords, the second first -/
def gR2 {α : Type} (_vs ws : List α) : List α := match ws with | [a, b] => [b, a] | _ => []
theorem Reo.r2 {K : Frag} : Reo K gR2 gR2 := fun _ _ _ _ _ _ _ r => by
  unfold gR2
  cases r with
  | nil => exact .nil
  | cons a r =>
    cases r with
    | nil => exact .nil
    | cons b r =>
      cases r with
      | nil => exact .cons b (.cons a .nil)
      | cons _ _ => exact .nil
theorem vals_r2 {zs ms : List V} {ws mv : List Value} (_ : Vals ms mv) (r : Vals zs ws) : Vals (gR2 ms zs) (gR2 mv ws) := by
  unfold gR2
  cases r with
  | nil => exact .nil
  | cons a r =>
    cases r with
    | nil => exact .nil
    | cons b r =>
      cases r with
      | nil => exact .cons b (.cons a .nil)
      | cons _ _ => exact .nil
/-- all keywords in order -/
def gK {α : Type} (_vs ws : List α) : List α := ws
theorem Reo.gK {K : Frag} : Reo K gK gK := fun _ _ _ _ _ _ _ r => r
end Fs
set_option Elab.async false
set_option linter.all false
set_option maxRecDepth 100000
set_option maxHeartbeats 8000000
namespace Fs
open PySem PySem.Spec PyProof.Rows L2
section
variable {P : Program} {w : World} {K : Frag} {mg : Str → Option Value} {base : Heap} {x : Str} {st : Stmt} {dfl dv : List V} {ps : List Str} {k : Nat}
/-- a generator def, wherever it stands -/
abbrev GFo (P : Program) (w : World) (K : Frag) (mg : Str → Option Value) (base : Heap) (k : Nat) (x : Str) (st : Stmt) (dfl : List V) (ps : List Str) (sp : SpG) : Prop := ∀ f fd, FunD K x x (defArgs st) (defBody st) (defScope st) dfl [] f fd → GnOk P w K mg base k f fd ps sp
abbrev UFo (P : Program) (w : World) (K : Frag) (mg : Str → Option Value) (base : Heap) (k : Nat) (x : Str) (st : Stmt) (dfl : List V) (ps : List Str) (sp : SpD) : Prop := ∀ f fd, FunD K x x (defArgs st) (defBody st) (defScope st) dfl [] f fd → UnOk P w K mg base k f fd ps sp
theorem Gsd.b0 (G : Gs K mg x st) (hb : ∀ (kV doc pm : Value) (an : Option Addr) (cdv ct : Value) (us : List Value), us.length = ps.length → bindArgs (PySem.W.fnOf x x (defArgs st) (defBody st) (defScope st) .none kV doc pm an cdv ct) ⟨us, []⟩ = pure (ps.zip us)) :
    ∃ f fd, mg x = some (.ref f) ∧ PySem.W.keepIn K (.ref f) = true ∧ Binds K fd ps [] ∧ FunD K x x (defArgs st) (defBody st) (defScope st) [] [] f fd := by
  obtain ⟨f, fd, a, D⟩ := G
  exact ⟨f, fd, a, D.kp, D.bindsN hb, D⟩
theorem Gsd.b1 (G : Gsd K mg x st dfl []) (n j : Nat) (hd : dfl ≠ []) (hn : n + (dfl.length - j) = ps.length) (hv : dfl.drop j = dv)
    (h : ∀ (T : Addr) (kV doc pm : Value) (an : Option Addr) (cdv ct : Value) (us its : List Value), us.length = n → its.length = dfl.length →
      ∃ k, bindArgs (PySem.W.fnOf x x (defArgs st) (defBody st) (defScope st) (.ref T) kV doc pm an cdv ct) ⟨us, []⟩ = seqItems? (.ref T) >>= k ∧ k (some its.toArray) = pure (ps.zip (us ++ its.drop j))) :
    ∃ f fd ds, mg x = some (.ref f) ∧ PySem.W.keepIn K (.ref f) = true ∧ Vals dv ds ∧ Binds K fd ps ds ∧ FunD K x x (defArgs st) (defBody st) (defScope st) dfl [] f fd := by
  obtain ⟨f, fd, a, D⟩ := G
  obtain ⟨ds, v, b⟩ := D.binds1 n j hd hn h
  subst hv
  exact ⟨f, fd, ds, a, D.kp, v, b, D⟩
theorem Gsd.k1 (G : Gsd K mg x st dfl []) (n : Nat) (ks : List Str) (g : {α : Type} → List α → List α → List α → List α) (hd : dfl ≠ [])
    (hrel : ∀ {vs ds zs : List V} {us its ws : List Value}, Vals vs us → Vals ds its → Vals zs ws → Vals (g vs ds zs) (g us its ws))
    (h : ∀ (T : Addr) (kV doc pm : Value) (an : Option Addr) (cdv ct : Value) (us its ws : List Value), us.length = n → its.length = dfl.length → ws.length = ks.length →
      ∃ k, bindArgs (PySem.W.fnOf x x (defArgs st) (defBody st) (defScope st) (.ref T) kV doc pm an cdv ct) ⟨us, ks.zip ws⟩ = seqItems? (.ref T) >>= k ∧ k (some its.toArray) = pure (ps.zip (g us its ws))) :
    ∃ f fd gg, mg x = some (.ref f) ∧ PySem.W.keepIn K (.ref f) = true ∧ KBn K fd ps n ks gg (fun vs zs => g vs dfl zs) ∧ FunD K x x (defArgs st) (defBody st) (defScope st) dfl [] f fd := by
  obtain ⟨f, fd, a, D⟩ := G
  have kp := D.kp
  have DD := D
  obtain ⟨oc, od, dV, kV, doc, pm, an, cdv, ct, osl, rfl, lk, hcd, hD, hK⟩ := D.ex
  rcases hD with ⟨e, _⟩ | ⟨_, T, o, its, m, rfl, lT, oT, rT⟩
  · exact absurd e hd
  refine ⟨f, _, fun us ws => g us its ws, a, kp, ⟨fun s us ws X l1 l2 => ?_, fun r1 r2 => hrel r1 rT r2⟩, DD⟩
  obtain ⟨k, e1, e2⟩ := h T kV doc pm an cdv ct us its ws l1 rT.length.symm l2
  exact BindsTo.of_looks fun M => by
    rw [e1]
    exact looks_items X lT oT (.of_pure e2)
theorem Gsd.k0 (G : Gs K mg x st) (n : Nat) (ks : List Str) (g : {α : Type} → List α → List α → List α)
    (hrel : ∀ {vs zs : List V} {us ws : List Value}, Vals vs us → Vals zs ws → Vals (g vs zs) (g us ws))
    (hb : ∀ (kV doc pm : Value) (an : Option Addr) (cdv ct : Value) (us ws : List Value), us.length = n → ws.length = ks.length → bindArgs (PySem.W.fnOf x x (defArgs st) (defBody st) (defScope st) .none kV doc pm an cdv ct) ⟨us, ks.zip ws⟩ = pure (ps.zip (g us ws))) :
    ∃ f fd gg, mg x = some (.ref f) ∧ PySem.W.keepIn K (.ref f) = true ∧ KBn K fd ps n ks gg (fun vs zs => g vs zs) ∧ FunD K x x (defArgs st) (defBody st) (defScope st) [] [] f fd := by
  obtain ⟨f, fd, a, D⟩ := G
  have kp := D.kp
  have DD := D
  obtain ⟨oc, od, dV, kV, doc, pm, an, cdv, ct, osl, rfl, lk, hcd, hD, hK⟩ := D.ex
  rcases hD with ⟨_, rfl⟩ | ⟨e, _⟩
  · exact ⟨f, _, fun us ws => g us ws, a, kp, ⟨fun s us ws _ l1 l2 => BindsTo.of_eq (hb kV doc pm an cdv ct us ws l1 l2), fun r1 r2 => hrel r1 r2⟩, DD⟩
  · exact absurd rfl e
end
theorem UnOk.any2 {P : Program} {w : World} {K : Frag} {mg : Str → Option Value} {base : Heap} {k : Nat} {f : Addr} {fd : FuncData} {ps : List Str} {sp : Bool → SpD} {sp' : SpD} (h1 : UnOk P w K mg base k f fd ps (sp true)) (h2 : UnOk P w K mg base k f fd ps (sp false)) (h : ∀ ws m Q Qx, sp' ws m Q Qx → ∃ o, sp o ws m Q Qx) : UnOk P w K mg base k f fd ps sp' := by
  refine ⟨fun ws m Q Qx q => ?_, fun A outer s H args us vs ws B μ m Q Qx E hr e0 g M hb r rw hx q => ?_⟩
  · obtain ⟨o, q⟩ := h ws m Q Qx q
    cases o with
    | true => exact h1.len ws m Q Qx q
    | false => exact h2.len ws m Q Qx q
  · obtain ⟨o, q⟩ := h ws m Q Qx q
    cases o with
    | true => exact h1.run A outer s H args us vs ws B μ m Q Qx E hr e0 g M hb r rw hx q
    | false => exact h2.run A outer s H args us vs ws B μ m Q Qx E hr e0 g M hb r rw hx q
theorem UnOk.weak {P : Program} {w : World} {K : Frag} {mg : Str → Option Value} {base : Heap} {k : Nat} {f : Addr} {fd : FuncData} {ps : List Str} {sp sp' : SpD} (h1 : UnOk P w K mg base k f fd ps sp) (h : ∀ ws m Q Qx, sp' ws m Q Qx → sp ws m Q Qx) : UnOk P w K mg base k f fd ps sp' :=
  ⟨fun ws m Q Qx q => h1.len ws m Q Qx (h _ _ _ _ q), fun A outer s H args us vs ws B μ m Q Qx E hr e0 g M hb r rw hx q => h1.run A outer s H args us vs ws B μ m Q Qx E hr e0 g M hb r rw hx (h _ _ _ _ q)⟩
abbrev s_walk : Stmt := top 3
abbrev N_walk : List Str := ["frame", "depth", "inner"]
abbrev P_walk : List Str := ["frame", "depth"]
theorem sc_walk : GScope N_walk P_walk (defScope s_walk) := ⟨rfl, rfl, rfl, by decide +kernel, rfl, by decide +kernel, by decide +kernel⟩
def spWalk : Nat → SpG
  | 0, _, _, _ => False
  | n + 1, ws, its, oe => ∃ (t : Fr) (d : Int), ws = [.v (encF t), .v (.int d)] ∧ okT n t ∧ its = allT n t d ∧ oe = none
theorem flat_lt {d : D} (h : flatA d = true) : LTD d := by
  cases d <;> first | trivial | cases h
theorem parts_lt : ∀ {ds : List D} {as : List (D × D)}, (∀ d ∈ ds, LTD d) → (∀ a ∈ as, flatA a.1 = true ∧ flatA a.2 = true) → LTDs (partsD ds as)
  | [], _, _, _ => trivial
  | _ :: _, [], _, _ => trivial
  | d :: ds, a :: as, h1, h2 => ⟨⟨h1 d List.mem_cons_self, flat_lt (h2 a List.mem_cons_self).1, flat_lt (h2 a List.mem_cons_self).2, trivial⟩, parts_lt (fun e he => h1 e (List.mem_cons_of_mem _ he)) fun b hb => h2 b (List.mem_cons_of_mem _ hb)⟩
theorem ltds_of : ∀ {ds : List D}, (∀ d ∈ ds, LTD d) → LTDs ds
  | [], _ => trivial
  | d :: ds, h => ⟨h d List.mem_cons_self, ltds_of fun e he => h e (List.mem_cons_of_mem _ he)⟩
theorem enc_lt : ∀ {n : Nat} {t : Fr}, okT n t → LTD (encF t)
  | _, .name _, _ => trivial
  | _, .gap _ _, _ => ⟨trivial, trivial, trivial, trivial⟩
  | _, .hole, _ => ⟨trivial, trivial⟩
  | n + 1, .pad _ _ _ _ t, h => ⟨trivial, trivial, trivial, trivial, trivial, enc_lt (n := n) h, trivial⟩
  | n + 1, .clip _ _ t, h => ⟨trivial, trivial, trivial, enc_lt (n := n) h, trivial⟩
  | n + 1, .grid _ ts, h => ⟨trivial, trivial, ltds_of fun d hd => by
      rw [encs_map] at hd
      obtain ⟨t, ht, rfl⟩ := List.mem_map.mp hd
      exact enc_lt (h.2.2 t ht)⟩
  | n + 1, .line _ ts as, h => ⟨trivial, parts_lt (fun d hd => by
      rw [encs_map] at hd
      obtain ⟨t, ht, rfl⟩ := List.mem_map.mp hd
      exact enc_lt (h.2.2.2.2 t ht)) h.2.2.2.1⟩
  | 0, .pad _ _ _ _ _, h => h.elim
  | 0, .clip _ _ _, h => h.elim
  | 0, .grid _ _, h => h.elim
  | 0, .line _ _ _, h => h.elim
theorem gg_walk {P : Program} {w : World} {K : Frag} {mg : Str → Option Value} {base : Heap} {k : Nat} {sp : SpG} (G : Gsd K mg "walk" s_walk [.int 1] []) (F : GFo P w K mg base k "walk" s_walk [.int 1] P_walk sp) : GG P w K mg base k "walk" P_walk [] sp := by
  obtain ⟨f, fd, ds, a, b, v, c, D⟩ := G.b1 (ps := P_walk) (dv := []) 2 1 (by simp) rfl rfl (fun T kV doc pm an cdv ct us its l1 l2 => match us, its, l1, l2 with | [_, _], [_], _, _ => ⟨_, rfl, rfl⟩)
  exact ⟨f, fd, [], ds, a, b, v, fun _ => .nil, c, F f fd D⟩
theorem gg_walk1 {P : Program} {w : World} {K : Frag} {mg : Str → Option Value} {base : Heap} {k : Nat} {sp : SpG} (G : Gsd K mg "walk" s_walk [.int 1] []) (F : GFo P w K mg base k "walk" s_walk [.int 1] P_walk sp) : GG P w K mg base k "walk" P_walk [.int 1] sp := by
  obtain ⟨f, fd, ds, a, b, v, c, D⟩ := G.b1 (ps := P_walk) (dv := [.int 1]) 1 0 (by simp) rfl rfl (fun T kV doc pm an cdv ct us its l1 l2 => match us, its, l1, l2 with | [_], [_], _, _ => ⟨_, rfl, rfl⟩)
  exact ⟨f, fd, [.int 1], ds, a, b, v, fun _ => .cons (.int 1) .nil, c, F f fd D⟩
section
variable {P : Program} {w : World} {K : Frag} {mg : Str → Option Value} {base : Heap}
theorem walk_loop {n : Nat} {a b : Option W} {N : NG} {k : Int} {rest : List D} {sp : SpG} (hsp : ∀ t d, okT n t → sp [.v (encF t), .v (.int d)] (allT n t d) none) (hlt : EnLT [a, b, none]) (hb : b = some (.v (.int k))) : ∀ {us : List Fr} {c : Option W} {its : List D}, (∀ u ∈ us, okT n u) → EnLT [a, b, c] → its = (us.map fun u => allT n u (k + 1)).flatten ++ rest → (∀ c', EnLT [a, b, c'] → N.nx [a, b, c'] rest) →
    sGL (gN 2) (tGThen (tGFrom (tGCal sp [] (tCn (tV 2) (tCn (tO2 (oL addD) (tV 1) (tK (.int 1))) tN)))) tG0) (us.map encF) [a, b, c] its N
  | [], c, its, _, lt, e, h => by
    subst e
    exact h c lt
  | u :: us, c, its, hu, lt, e, h => by
    subst e
    subst hb
    have lt2 : EnLT [a, some (.v (.int k)), some (.v (encF u))] := fun i x e => by
      match i, e with
      | 0, e => exact hlt 0 x e
      | 1, e => exact hlt 1 x e
      | 2, e => cases e; exact ⟨_, rfl, enc_lt (hu u List.mem_cons_self)⟩
    refine ⟨rfl, lt2, ?_⟩
    refine ⟨_, _, hsp u (k + 1) (hu u List.mem_cons_self), rfl, (us.map fun u => allT n u (k + 1)).flatten ++ rest, ?_, fun _ => ?_, fun _ z => nomatch z⟩
    · simp only [List.map_cons, List.flatten_cons, List.append_assoc, List.append_eq]
    · exact walk_loop hsp hlt rfl (fun v hv => hu v (List.mem_cons_of_mem _ hv)) lt2 rfl h
theorem fo_walk (m_n : True) (G : Gsd K mg "walk" s_walk [.int 1] []) (g_inside_of : Gd P w K mg base (L2.CX P w) 1 "inside_of" P_inside_of (lift K spIns)) : ∀ N : Nat, GFo P w K mg base (3 * N) "walk" s_walk [.int 1] P_walk (spWalk N)
  | 0 => fun f fd D => ⟨fun _ _ _ h => h.elim, fun _ _ _ _ _ _ _ _ _ _ _ _ _ _ _ _ _ _ _ _ _ _ _ _ _ h => h.elim⟩
  | n + 1 => fun f fd D => by
    have ih := gg_walk G (fo_walk m_n G g_inside_of n)
    refine gn_of (k := 3 * n + 2) D sc_walk ?_ ?_ ?_ ?_ ?_
    · rintro ws its oe ⟨t, d, rfl, _⟩
      rfl
    · rintro ws its oe ⟨t, d, rfl, ht, _⟩ w hw
      simp only [List.mem_cons, List.not_mem_nil, or_false] at hw
      rcases hw with rfl | rfl
      · exact ⟨_, rfl, enc_lt ht⟩
      · exact ⟨_, rfl, trivial⟩
    · rintro ws its oe ⟨t, d, rfl, _, _, rfl⟩
      exact .none
    · rintro cdv A outer n0 pn a g ws its oe hr ⟨t, d, rfl, ht, rfl, rfl⟩
      refine ⟨_, gss_cons (gs_yield (fun E s Z => d_tup (da_cons (dv 0) (da_cons (dv 1) da_nil))))
        (gss_cons (gs_for (fun E s Z => d_call g_inside_of (hr.mono (by omega)) (passE takesG) (da_cons (dv 0) da_nil)) (fun E s Z => dg_name (i := 2) sc_walk.nd rfl (.inl rfl))
          (gss_cons (gs_from (k0 := 3 * n) (fun E s Z => ge_call ih (hr.mono (by omega)) (da_cons (dv 2) (da_cons (d_op o_add (dv 1) d_int) da_nil))) (Room.in1 (Room.in1 hr))) gss_nil))
        gss_nil), ?_⟩
      have s2 : 2 ≤ sizeLine := by rw [sizeLine_eq]; decide
      have lt0 : EnLT [some (.v (encF t)), some (.v (.int d)), none] := fun i x e => by
        match i, e with
        | 0, e => cases e; exact ⟨_, rfl, enc_lt ht⟩
        | 1, e => cases e; exact ⟨_, rfl, trivial⟩
        | 2, e => cases e
      cases n with
      | zero =>
        refine ⟨s2, rfl, .tup [encF t, .int d], [], rfl, ⟨enc_lt ht, trivial, trivial⟩, rfl, ?_⟩
        refine ⟨0, t, rfl, ht, rfl, _, rfl, ?_, ?_⟩
        · rw [ins_zero ht]; trivial
        · rw [ins_zero ht]
          exact ⟨rfl, rfl⟩
      | succ n =>
        refine ⟨s2, rfl, .tup [encF t, .int d], _, rfl, ⟨enc_lt ht, trivial, trivial⟩, rfl, ?_⟩
        refine ⟨n + 1, t, rfl, ht, rfl, _, rfl, ltds_of fun e he => ?_, ?_⟩
        · obtain ⟨u, hu, rfl⟩ := List.mem_map.mp he
          exact enc_lt (ok_ins ht u hu)
        · exact walk_loop (n := n) (rest := []) (fun t' d' h => ⟨t', d', rfl, h, rfl, rfl⟩) lt0 rfl (ok_ins ht) lt0 (List.append_nil _).symm fun c' lt' => ⟨rfl, rfl⟩
    · exact fun n => rfl
end
end Fs
set_option Elab.async false
set_option linter.all false
set_option maxRecDepth 100000
set_option maxHeartbeats 8000000
namespace Fs
open PySem PySem.Spec PyProof.Rows L2
def leT (a b : Str) : Prop := a.cps.toList ≤ b.cps.toList
theorem leT_anti {a b : Str} (h : leT a b) (k : leT b a) : a = b := by
  have z : a.cps.toList = b.cps.toList := List.le_antisymm h k
  cases a with | mk x => cases b with | mk y => exact congrArg Str.mk (Array.toList_inj.mp z)
theorem rising_leT : ∀ (l : List Str) (p : Str), risingS p l = true → (∀ x ∈ l, leT p x) ∧ l.Pairwise leT
  | [], p, _ => ⟨(fun _ h => nomatch h), List.Pairwise.nil⟩
  | x :: r, p, h => by
    have h : (!ltCps x.cps.toList p.cps.toList && risingS x r) = true := h
    simp only [Bool.and_eq_true, Bool.not_eq_true'] at h
    have px : leT p x := by
      have h1 := h.1
      rw [PyProof.Rows.ltCps_eq] at h1
      exact List.not_lt.mp (of_decide_eq_false h1)
    obtain ⟨h1, h2⟩ := rising_leT r x h.2
    refine ⟨fun y hy => ?_, List.pairwise_cons.mpr ⟨h1, h2⟩⟩
    rcases List.mem_cons.mp hy with rfl | hy
    · exact px
    · exact List.le_trans px (h1 y hy)
theorem sorted_leT : ∀ {l : List Str}, sortedS l = true → l.Pairwise leT
  | [], _ => List.Pairwise.nil
  | x :: r, h => List.pairwise_cons.mpr (rising_leT r x h)
theorem perm_leT : ∀ {xs ys : List Str}, xs.Pairwise leT → ys.Pairwise leT → xs.Perm ys → xs = ys
  | [], ys, _, _, h => (List.nil_perm.mp h).symm
  | x :: xs, [], _, _, h => absurd (List.perm_nil.mp h) (by simp)
  | x :: xs, y :: ys, px, py, h => by
    obtain ⟨p1, p2⟩ := List.pairwise_cons.mp px
    obtain ⟨q1, q2⟩ := List.pairwise_cons.mp py
    have e : x = y := by
      rcases List.mem_cons.mp (h.mem_iff.mp (List.mem_cons_self ..)) with z | z
      · exact z
      · rcases List.mem_cons.mp (h.mem_iff.mpr (List.mem_cons_self ..)) with w | w
        · exact w.symm
        · exact leT_anti (p1 y w) (q1 x z)
    subst e
    rw [perm_leT p2 q2 (List.Perm.cons_inv h)]
/-- sorted in two ways is the same -/
theorem srt_same {xs ys zs : List Str} (h1 : ys.Perm xs) (s1 : sortedS ys = true) (h2 : zs.Perm xs) (s2 : sortedS zs = true) : ys = zs := perm_leT (sorted_leT s1) (sorted_leT s2) (h1.trans h2.symm)
theorem max_same {ns : List Int} {a b : Int} (a1 : a ∈ ns) (a2 : ∀ y, y ∈ ns → y ≤ a) (b1 : b ∈ ns) (b2 : ∀ y, y ∈ ns → y ≤ b) : a = b := Int.le_antisymm (b2 a a1) (a2 b b1)
theorem txtL_map : ∀ {xs : List Str} {Q : List Str → Prop}, Q xs → txtL (xs.map D.str) Q
  | [], _, q => q
  | x :: xs, Q, q => txtL_map (xs := xs) (Q := fun ys => Q (x :: ys)) q
/-- the names in a frame, in order -/
def nmT : Nat → Fr → List Str
  | _, .name x => [x]
  | 0, _ => []
  | n + 1, t => ((insT t).map (nmT n)).flatten
/-- the depths in a frame -/
def dpT : Nat → Fr → Int → List Int
  | 0, _, k => [k]
  | n + 1, t, k => k :: ((insT t).map fun u => dpT n u (k + 1)).flatten
def isNm : D → Bool
  | .tup (.str _ :: _) => true
  | _ => false
def fstT : D → D
  | .tup (x :: _) => x
  | _ => .non
def sndT : D → D
  | .tup (_ :: x :: _) => x
  | _ => .non
theorem all_item : ∀ {n : Nat} {t : Fr} {k : Int} {d : D}, d ∈ allT n t k → ∃ u j, d = .tup [encF u, .int j]
  | 0, t, k, d, h => ⟨t, k, by simpa [allT] using h⟩
  | n + 1, t, k, d, h => by
    rcases List.mem_cons.mp h with rfl | h
    · exact ⟨t, k, rfl⟩
    · obtain ⟨l, hl, hd⟩ := List.mem_flatten.mp h
      obtain ⟨u, _, rfl⟩ := List.mem_map.mp hl
      exact all_item hd
theorem enc_name {t : Fr} (h : ∀ x, t ≠ .name x) : isNm (.tup [encF t, k]) = false := by
  cases t <;> first | rfl | exact absurd rfl (h _)
theorem all_names : ∀ {n : Nat} {t : Fr} {k : Int}, ((allT n t k).filter isNm).map fstT = (nmT n t).map D.str
  | 0, t, k => by
    cases t <;> rfl
  | n + 1, t, k => by
    have ih : ((((insT t).map fun u => allT n u (k + 1)).flatten).filter isNm).map fstT = (((insT t).map (nmT n)).flatten).map D.str := by
      rw [List.filter_flatten, List.map_flatten, List.map_flatten, List.map_map, List.map_map, List.map_map]
      congr 1
      refine List.map_congr_left fun u _ => ?_
      exact all_names
    cases t with
    | name x => rfl
    | gap a b => exact ih
    | hole => exact ih
    | pad a b c d t => exact ih
    | clip a b t => exact ih
    | grid k ts => exact ih
    | line w ts as => exact ih
theorem all_depths : ∀ {n : Nat} {t : Fr} {k : Int}, (allT n t k).map sndT = (dpT n t k).map D.int
  | 0, t, k => rfl
  | n + 1, t, k => by
    show D.int k :: (((insT t).map fun u => allT n u (k + 1)).flatten).map sndT = D.int k :: (((insT t).map fun u => dpT n u (k + 1)).flatten).map D.int
    rw [List.map_flatten, List.map_flatten, List.map_map, List.map_map]
    congr 2
    exact List.map_congr_left fun u _ => all_depths
theorem dp_pos {n : Nat} {t : Fr} {k : Int} : 0 < (dpT n t k).length := by
  cases n <;> exact Nat.succ_pos _
theorem dp_len {n : Nat} {t : Fr} {k : Int} : (dpT n t k).length = (allT n t k).length := by
  have z := congrArg List.length (all_depths (n := n) (t := t) (k := k))
  rw [List.length_map, List.length_map] at z
  exact z.symm
/-- deeper than it need be -/
theorem all_more : ∀ {n N : Nat} {t : Fr} {k : Int}, okT n t → n ≤ N → allT N t k = allT n t k
  | 0, 0, t, k, _, _ => rfl
  | 0, N + 1, t, k, h, _ => by
    show _ :: _ = _
    rw [ins_zero h]
    rfl
  | n + 1, N + 1, t, k, h, l => by
    show _ :: _ = _ :: _
    congr 2
    exact List.map_congr_left fun u hu => all_more (ok_ins h u hu) (Nat.le_of_succ_le_succ l)
theorem frs_nm {α : Type} {f : α → D} {h : α → List Str} {n : Nat} {C : Fr → Prop} : ∀ {gs : List α}, (∀ g ∈ gs, ∃ t, f g = encF t ∧ C t ∧ ∀ N, n ≤ N → nmT N t = h g) → ∃ ts : List Fr, gs.map f = encs ts ∧ ts.length = gs.length ∧ (∀ t ∈ ts, C t) ∧ ∀ N, n ≤ N → ts.map (nmT N) = gs.map h
  | [], _ => ⟨[], rfl, rfl, (fun _ h => by cases h), fun _ _ => rfl⟩
  | g :: gs, hh => by
    obtain ⟨t, e, c, nm⟩ := hh g List.mem_cons_self
    obtain ⟨ts, h1, h2, h3, h4⟩ := frs_nm (gs := gs) fun g hg => hh g (List.mem_cons_of_mem _ hg)
    refine ⟨t :: ts, ?_, by rw [List.length_cons, List.length_cons, h2], (fun u hu => ?_), fun N hN => ?_⟩
    · show f g :: gs.map f = encF t :: encs ts
      rw [e, h1]
    · rcases List.mem_cons.mp hu with rfl | hu
      · exact c
      · exact h3 u hu
    · rw [List.map_cons, List.map_cons, nm N hN, h4 N hN]
theorem nm_up {n N : Nat} {t : Fr} {ns : List Str} (h : n + 1 ≤ N) (ht : ∀ x, t ≠ .name x) (k : ∀ M, n ≤ M → ((insT t).map (nmT M)).flatten = ns) : nmT N t = ns := by
  match N, h with
  | M + 1, h =>
    cases t with
    | name x => exact absurd rfl (ht x)
    | _ => exact k M (Nat.le_of_succ_le_succ h)
/-- a drawn frame, with its names -/
theorem tree_nm {n : Nat} {names : List Str} {d : D} (h : TreeR n names d) : (∀ x ∈ names, x.length ≤ 600) → ∃ t, d = encF t ∧ okT n t ∧ (∀ N, noHole N t) ∧ ∀ N, n ≤ N → nmT N t = names := by
  induction h with
  | gap n a b _ _ => exact fun _ => ⟨.gap a b, rfl, by cases n <;> trivial, no_in (fun _ h => by cases h) rfl, fun N _ => by cases N <;> rfl⟩
  | name n x => exact fun hx => ⟨.name x, rfl, by cases n <;> exact hx x (by simp), no_in (fun _ h => by cases h) rfl, fun N _ => by cases N <;> rfl⟩
  | pad n ns a b c d t _ _ _ _ _ ih =>
    intro hx
    obtain ⟨u, rfl, hu, hN, nm⟩ := ih hx
    exact ⟨.pad a b c d u, rfl, hu, no_in (fun v hv => by rw [List.mem_singleton.mp hv]; exact hN) rfl, fun N hN => nm_up hN (fun _ z => by cases z) fun M hM => by show (nmT M u ++ []) = ns; rw [List.append_nil, nm M hM]⟩
  | clip n ns a b t _ _ _ ih =>
    intro hx
    obtain ⟨u, rfl, hu, hN, nm⟩ := ih hx
    exact ⟨.clip a b u, rfl, hu, no_in (fun v hv => by rw [List.mem_singleton.mp hv]; exact hN) rfl, fun N hN => nm_up hN (fun _ z => by cases z) fun M hM => by show (nmT M u ++ []) = ns; rw [List.append_nil, nm M hM]⟩
  | grid n k gs _ h2 h26 _ ih =>
    intro hx
    obtain ⟨ts, h1, hl, ho, nm⟩ := frs_nm (gs := gs) (f := (·.2)) (h := (·.1)) (n := n) (C := fun t => okT n t ∧ ∀ N, noHole N t) fun g hg => by
      obtain ⟨t, a, b, c, d⟩ := ih g hg fun x hxg => hx x (List.mem_flatMap.mpr ⟨g, hg, hxg⟩)
      exact ⟨t, a, ⟨b, c⟩, d⟩
    refine ⟨.grid k ts, ?_, ⟨by omega, by omega, fun t h => (ho t h).1⟩, no_in (fun v hv => (ho v hv).2) rfl, fun N hN => nm_up hN (fun _ z => by cases z) fun M hM => ?_⟩
    · show D.tup (_ :: _ :: gs.map (·.2)) = D.tup (_ :: _ :: encs ts)
      rw [h1]
    · show (ts.map (nmT M)).flatten = _
      rw [nm M hM, List.flatMap_def]
  | pile n gs h2 h26 _ _ ih =>
    intro hx
    obtain ⟨ts, h1, hl, ho, nm⟩ := frs_nm (gs := gs) (f := (·.1.2)) (h := (·.1.1)) (n := n) (C := fun t => okT n t ∧ ∀ N, noHole N t) fun g hg => by
      obtain ⟨t, a, b, c, d⟩ := ih g hg fun x hxg => hx x (List.mem_flatMap.mpr ⟨g, hg, hxg⟩)
      exact ⟨t, a, ⟨b, c⟩, d⟩
    refine ⟨.line "pile" ts (gs.map fun g => (.str g.2.1, .str g.2.2)), ?_, ⟨.inr (.inr rfl), by rw [List.length_map]; exact hl.symm, by omega, fun a ha => ?_, fun t h => (ho t h).1⟩, no_in (fun v hv => (ho v hv).2) rfl, fun N hN => nm_up hN (fun _ z => by cases z) fun M hM => ?_⟩
    · show D.tup (_ :: _) = D.tup (_ :: partsD (encs ts) _)
      rw [← h1, parts_map]
      rfl
    · obtain ⟨g, _, rfl⟩ := List.mem_map.mp ha
      exact ⟨rfl, rfl⟩
    · show (ts.map (nmT M)).flatten = _
      rw [nm M hM, List.flatMap_def]
  | line n w gs hw h2 h26 _ _ ih =>
    intro hx
    obtain ⟨ts, h1, hl, ho, nm⟩ := frs_nm (gs := gs) (f := (·.1.2)) (h := (·.1.1)) (n := n) (C := fun t => okT n t ∧ ∀ N, noHole N t) fun g hg => by
      obtain ⟨t, a, b, c, d⟩ := ih g hg fun x hxg => hx x (List.mem_flatMap.mpr ⟨g, hg, hxg⟩)
      exact ⟨t, a, ⟨b, c⟩, d⟩
    refine ⟨.line w ts (gs.map fun g => (.str g.2.1, .int g.2.2)), ?_, ⟨?_, by rw [List.length_map]; exact hl.symm, by omega, fun a ha => ?_, fun t h => (ho t h).1⟩, no_in (fun v hv => (ho v hv).2) rfl, fun N hN => nm_up hN (fun _ z => by cases z) fun M hM => ?_⟩
    · show D.tup (_ :: _) = D.tup (_ :: partsD (encs ts) _)
      rw [← h1, parts_map]
      rfl
    · rcases hw with rfl | rfl
      · exact .inl rfl
      · exact .inr (.inl rfl)
    · obtain ⟨g, _, rfl⟩ := List.mem_map.mp ha
      exact ⟨rfl, rfl⟩
    · show (ts.map (nmT M)).flatten = _
      rw [nm M hM, List.flatMap_def]
theorem all_fit : ∀ {n : Nat} {t : Fr} {k : Int}, okT n t → ∀ d ∈ allT n t k, fitD (2 * n + 3) d := by
  have one : ∀ {n : Nat} {t : Fr} {k : Int}, okT n t → fitD (2 * n + 3) (.tup [encF t, .int k]) := fun {n t k} h => by
    refine ⟨by show 2 < 2 ^ 20; decide, fun e he => ?_⟩
    simp only [List.mem_cons, List.not_mem_nil, or_false] at he
    rcases he with rfl | rfl
    · exact enc_fit h
    · exact flat_fit (k := 2 * n + 1) (d := .int k) rfl
  intro n
  induction n with
  | zero =>
    intro t k h d hd
    rw [List.mem_singleton.mp hd]
    exact one h
  | succ n ih =>
    intro t k h d hd
    rcases List.mem_cons.mp hd with rfl | hd
    · exact one h
    · obtain ⟨l, hl, hd⟩ := List.mem_flatten.mp hd
      obtain ⟨u, hu, rfl⟩ := List.mem_map.mp hl
      exact fit_more (ih (ok_ins h u hu) d hd) (by omega)
theorem lcL_id {g : DTG} {te : DTE} {en : En} {m : Me} {its : List D} {Q : W → Me → Prop} (hl : its.length ≤ sizeLine) (h : ∀ d (Qt : W → Me → Prop), Qt (.v d) m → g (.v d) en m fun en1 m1 => te en1 m1 Qt noX) (q : Q (.v (.lst its)) m) : lcL g tYs te en its [] m Q :=
  lcL_map id (by simpa using hl) (fun d Qt _ hq => h d Qt hq) (by rw [List.map_id]; exact q)
end Fs
set_option Elab.async false
set_option linter.all false
set_option maxRecDepth 100000
set_option maxHeartbeats 8000000
namespace Fs
open PySem PySem.Spec PyProof.Rows L2
theorem gn_any {P : Program} {w : World} {K : Frag} {mg : Str → Option Value} {base : Heap} {k N : Nat} {f : Addr} {fd : FuncData} {ps : List Str} {sp : Nat → SpG} (h : ∀ n, n ≤ N → GnOk P w K mg base k f fd ps (sp n)) : GnOk P w K mg base k f fd ps (fun ws its oe => ∃ n, n ≤ N ∧ sp n ws its oe) :=
  ⟨fun ws its oe ⟨n, hn, q⟩ => (h n hn).len ws its oe q, fun X e1 e2 e3 e4 e5 pins σ H s B μ m args us vs ws its oe hr I M hb hv hw ⟨n, hn, q⟩ lw => (h n hn).run X e1 e2 e3 e4 e5 pins σ H s B μ m args us vs ws its oe hr I M hb hv hw q lw⟩
section
variable {P : Program} {w : World} {K : Frag} {mg : Str → Option Value} {base : Heap}
/-- walk, any frame of at most N levels -/
def spWalkA (N : Nat) : SpG := fun ws its oe => ∃ n, n ≤ N ∧ spWalk (n + 1) ws its oe
theorem fo_walkA (G : Gsd K mg "walk" s_walk [.int 1] []) (g_inside_of : Gd P w K mg base (L2.CX P w) 1 "inside_of" P_inside_of (lift K spIns)) (N : Nat) : GFo P w K mg base (3 * N + 3) "walk" s_walk [.int 1] P_walk (spWalkA N) := fun f fd D =>
  gn_any (sp := fun n => spWalk (n + 1)) fun n hn => (fo_walk trivial G g_inside_of (n + 1) f fd D).mono (by omega)
theorem walk_at {N n : Nat} {t : Fr} {d : Int} (h : okT n t) (l : n ≤ N) : spWalkA N [.v (encF t), .v (.int d)] (allT n t d) none := ⟨n, l, t, d, rfl, h, rfl, rfl⟩
abbrev s_things_of : Stmt := top 4
abbrev N_things_of : List Str := ["frame", "inner", "depth"]
abbrev P_things_of : List Str := ["frame"]
abbrev O_things_of_0 : List (Str × Nat) := [("inner", 1), ("depth", 2)]
theorem sc_things_of : FnScope N_things_of P_things_of (defScope s_things_of) := ⟨rfl, rfl, rfl, by decide +kernel, rfl, by decide +kernel, by decide +kernel⟩
/-- things_of: a datum, or an own list -/
def spThings (N : Nat) : SpD := fun ws m Q _ => ∃ (o : Bool) (n : Nat) (t : Fr), ws = [.v (encF t)] ∧ n ≤ N ∧ okT n t ∧ (allT n t 1).length ≤ sizeLine ∧ (nmT n t).length < 64 ∧ ∀ ys : List Str, ys.Perm (nmT n t) → sortedS ys = true → if o = true then Q (.loc m.length) (m ++ [.lst (ys.map .str)]) else Q (.v (.lst (ys.map .str))) m
theorem walk_names {te : DTE} {tt : DTT} {en : En} {m : Me} {Q : W → Me → Prop} {n : Nat} {t : Fr} {g : DTG} (hz : (allT n t 1).length ≤ sizeLine) (h : ∀ (u : Fr) (j : Int) (Qt : W → Me → Prop) (Qn : Me → Prop), ((∃ x, u = .name x) → Qt (.v (encF u)) m) → ((∀ x, u ≠ .name x) → Qn m) → g (.v (.tup [encF u, .int j])) en m fun en1 m1 => tt en1 m1 (fun b m2 => if b = true then te en1 m2 Qt noX else Qn m2) noX) (q : Q (.v (.lst ((nmT n t).map .str))) m) :
    lcL g tt te en (allT n t 1) [] m Q := by
  refine lcL_filter isNm fstT (by simpa using hz) (fun d Qt Qn hd h1 h2 => ?_) (by rw [all_names]; exact q)
  obtain ⟨u, j, rfl⟩ := all_item hd
  refine h u j Qt Qn (fun ⟨x, hx⟩ => ?_) fun hx => h2 (enc_name hx)
  subst hx
  exact h1 rfl
theorem fo_things_of (m_sorted : mg "sorted" = none) (m_isinstance : mg "isinstance" = none) (m_str : mg "str" = none) {N k : Nat} (gg_walk_1 : GG P w K mg base k "walk" P_walk [.int 1] (spWalkA N)) : UFo P w K mg base (k + 2) "things_of" s_things_of [] P_things_of (spThings N) := fun f fd D => by
  refine UnOk.any2 (sp := fun o ws m Q _ => ∃ (n : Nat) (t : Fr), ws = [.v (encF t)] ∧ n ≤ N ∧ okT n t ∧ (allT n t 1).length ≤ sizeLine ∧ (nmT n t).length < 64 ∧ ∀ ys : List Str, ys.Perm (nmT n t) → sortedS ys = true → if o = true then Q (.loc m.length) (m ++ [.lst (ys.map .str)]) else Q (.v (.lst (ys.map .str))) m) (un_of true D sc_things_of ?_ ?_) (un_of false D sc_things_of ?_ ?_) fun ws m Q Qx ⟨o, h⟩ => ⟨o, h⟩
  · rintro ws m Q Qx ⟨n, t, rfl, _⟩
    rfl
  · intro cdv A outer s H hr E
    refine ⟨_, (uss_one (us_ret (u_srtO rfl m_sorted (ua_cons (u_lcG (own := O_things_of_0) rfl sc_things_of.nd (fun _ => (ge_call gg_walk_1 (hr.mono (by omega)) (da_cons (dv 0) da_nil))) (hr.mono (by omega)) (blkOk_by (own := O_things_of_0) (N := N_things_of) (sc := defScope s_things_of) (by decide +kernel)) (fun _ _ _ _ _ => (dg_tup (n := 2) rfl (dgs_cons (dg_name (i := 1) sc_things_of.nd rfl (.inl rfl)) (dgs_cons (dg_name (i := 2) sc_things_of.nd rfl (.inl rfl)) dgs_nil)))) (fun _ _ _ _ _ => (dts_one (dt_val (d_isi m_isinstance (da_cons (dv 1) (da_cons (d_ty (n := "str") m_str (by decide +kernel)) da_nil)))))) (fun _ _ _ _ _ => (dv 1))) ua_nil)))), fun ws m Q Qx h => ?_⟩
    obtain ⟨n, t, rfl, hn, ht, hz, hl, q⟩ := h
    refine ⟨_, _, walk_at ht hn, rfl, walk_names hz (fun u j Qt Qn h1 h2 => ?_) ⟨_, rfl, txtL_map ⟨hl, fun ys h1 h2 => q ys h1 h2⟩⟩⟩
    cases u with
    | name x => exact ⟨rfl, rfl, h1 ⟨x, rfl⟩⟩
    | _ => exact ⟨rfl, rfl, h2 fun _ z => by cases z⟩
  · rintro ws m Q Qx ⟨n, t, rfl, _⟩
    rfl
  · intro cdv A outer s H hr E
    refine ⟨_, (uss_one (us_ret (u_srt rfl m_sorted (ua_cons (u_lcG (own := O_things_of_0) rfl sc_things_of.nd (fun _ => (ge_call gg_walk_1 (hr.mono (by omega)) (da_cons (dv 0) da_nil))) (hr.mono (by omega)) (blkOk_by (own := O_things_of_0) (N := N_things_of) (sc := defScope s_things_of) (by decide +kernel)) (fun _ _ _ _ _ => (dg_tup (n := 2) rfl (dgs_cons (dg_name (i := 1) sc_things_of.nd rfl (.inl rfl)) (dgs_cons (dg_name (i := 2) sc_things_of.nd rfl (.inl rfl)) dgs_nil)))) (fun _ _ _ _ _ => (dts_one (dt_val (d_isi m_isinstance (da_cons (dv 1) (da_cons (d_ty (n := "str") m_str (by decide +kernel)) da_nil)))))) (fun _ _ _ _ _ => (dv 1))) ua_nil)))), fun ws m Q Qx h => ?_⟩
    obtain ⟨n, t, rfl, hn, ht, hz, hl, q⟩ := h
    refine ⟨_, _, walk_at ht hn, rfl, walk_names hz (fun u j Qt Qn h1 h2 => ?_) (txtL_map ⟨hl, fun ys h1 h2 => ⟨List.prefix_refl _, q ys h1 h2⟩⟩)⟩
    cases u with
    | name x => exact ⟨rfl, rfl, h1 ⟨x, rfl⟩⟩
    | _ => exact ⟨rfl, rfl, h2 fun _ z => by cases z⟩
abbrev s_count_parts : Stmt := top 5
abbrev N_count_parts : List Str := ["frame"]
abbrev P_count_parts : List Str := ["frame"]
theorem sc_count_parts : FnScope N_count_parts P_count_parts (defScope s_count_parts) := ⟨rfl, rfl, rfl, by decide +kernel, rfl, by decide +kernel, by decide +kernel⟩
def spCount (N : Nat) : SpD := fun ws m Q _ => ∃ (n : Nat) (t : Fr), ws = [.v (encF t)] ∧ n ≤ N ∧ okT n t ∧ (allT n t 1).length ≤ sizeLine ∧ Q (.v (.int (allT n t 1).length)) m
theorem fo_count_parts (m_len : mg "len" = none) (m_list : mg "list" = none) {N k : Nat} (gg_walk_1 : GG P w K mg base k "walk" P_walk [.int 1] (spWalkA N)) : UFo P w K mg base (k + 2) "count_parts" s_count_parts [] P_count_parts (spCount N) := fun f fd D => by
  refine un_of false D sc_count_parts ?_ ?_
  · rintro ws m Q Qx ⟨n, t, rfl, _⟩
    rfl
  · intro cdv A outer s H hr E
    refine ⟨_, (uss_one (us_ret (u_len m_len (ua_cons (u_listG rfl rfl rfl rfl (fun _ => (ge_call gg_walk_1 (hr.mono (by omega)) (da_cons (dv 0) da_nil))) (hr.mono (by omega)) m_list) ua_nil)))), fun ws m Q Qx h => ?_⟩
    obtain ⟨n, t, rfl, hn, ht, hz, q⟩ := h
    exact ⟨_, _, walk_at ht hn, hz, fun _ => ⟨List.prefix_refl _, q⟩, fun _ z => nomatch z⟩
abbrev s_depth_of : Stmt := top 6
abbrev N_depth_of : List Str := ["frame", "inner", "depth"]
abbrev P_depth_of : List Str := ["frame"]
abbrev O_depth_of_0 : List (Str × Nat) := [("inner", 1), ("depth", 2)]
theorem sc_depth_of : FnScope N_depth_of P_depth_of (defScope s_depth_of) := ⟨rfl, rfl, rfl, by decide +kernel, rfl, by decide +kernel, by decide +kernel⟩
def spDepth (N : Nat) : SpD := fun ws m Q _ => ∃ (n : Nat) (t : Fr), ws = [.v (encF t)] ∧ n ≤ N ∧ okT n t ∧ (allT n t 1).length ≤ sizeLine ∧ ∀ d, d ∈ dpT n t 1 → (∀ y, y ∈ dpT n t 1 → y ≤ d) → Q (.v (.int d)) m
theorem walk_depths {te : DTE} {en : En} {m : Me} {Q : W → Me → Prop} {n : Nat} {t : Fr} {g : DTG} {k : Int} (hz : (allT n t k).length ≤ sizeLine) (h : ∀ (u : Fr) (j : Int) (Qt : W → Me → Prop), Qt (.v (.int j)) m → g (.v (.tup [encF u, .int j])) en m fun en1 m1 => te en1 m1 Qt noX) (q : Q (.v (.lst ((dpT n t k).map .int))) m) :
    lcL g tYs te en (allT n t k) [] m Q := by
  refine lcL_map sndT (by simpa using hz) (fun d Qt hd h1 => ?_) (by rw [all_depths]; exact q)
  obtain ⟨u, j, rfl⟩ := all_item hd
  exact h u j Qt h1
theorem fo_depth_of (m_max : mg "max" = none) {N k : Nat} (gg_walk_1 : GG P w K mg base k "walk" P_walk [.int 1] (spWalkA N)) : UFo P w K mg base (k + 2) "depth_of" s_depth_of [] P_depth_of (spDepth N) := fun f fd D => by
  refine un_of false D sc_depth_of ?_ ?_
  · rintro ws m Q Qx ⟨n, t, rfl, _⟩
    rfl
  · intro cdv A outer s H hr E
    refine ⟨_, (uss_one (us_ret (u_maxL rfl m_max (ua_cons (u_lcG (own := O_depth_of_0) rfl sc_depth_of.nd (fun _ => (ge_call gg_walk_1 (hr.mono (by omega)) (da_cons (dv 0) da_nil))) (hr.mono (by omega)) (blkOk_by (own := O_depth_of_0) (N := N_depth_of) (sc := defScope s_depth_of) (by decide +kernel)) (fun _ _ _ _ _ => (dg_tup (n := 2) rfl (dgs_cons (dg_name (i := 1) sc_depth_of.nd rfl (.inl rfl)) (dgs_cons (dg_name (i := 2) sc_depth_of.nd rfl (.inl rfl)) dgs_nil)))) (fun _ _ _ _ _ => dts_nil) (fun _ _ _ _ _ => (dv 2))) ua_nil)))), fun ws m Q Qx h => ?_⟩
    obtain ⟨n, t, rfl, hn, ht, hz, q⟩ := h
    exact ⟨_, _, walk_at ht hn, rfl, walk_depths hz (fun u j Qt h1 => ⟨rfl, h1⟩) (intsD_map _ ⟨dp_pos, fun d h1 h2 => ⟨List.prefix_refl _, q d h1 h2⟩⟩)⟩
end
theorem gu0 {P : Program} {w : World} {K : Frag} {mg : Str → Option Value} {base : Heap} {k : Nat} {x : Str} {st : Stmt} {ps : List Str} {sp : SpD} (G : Gs K mg x st) (F : UFo P w K mg base k x st [] ps sp)
    (hb : ∀ (kV doc pm : Value) (an : Option Addr) (cdv ct : Value) (us : List Value), us.length = ps.length → bindArgs (PySem.W.fnOf x x (defArgs st) (defBody st) (defScope st) .none kV doc pm an cdv ct) ⟨us, []⟩ = pure (ps.zip us)) : GU P w K mg base k x ps sp := by
  obtain ⟨f, fd, a, b, c, D⟩ := G.b0 hb
  exact ⟨f, fd, a, b, c, F f fd D⟩
theorem ggk_walk {P : Program} {w : World} {K : Frag} {mg : Str → Option Value} {base : Heap} {k : Nat} {sp : SpG} (G : Gsd K mg "walk" s_walk [.int 1] []) (F : GFo P w K mg base k "walk" s_walk [.int 1] P_walk sp) : GGk P w K mg base k "walk" ["depth", "frame"] gR2 P_walk sp := by
  obtain ⟨f, fd, g, a, b, c, D⟩ := G.k1 (ps := P_walk) 0 ["depth", "frame"] (fun us _ ws => gR2 us ws) (by simp) (fun r1 _ r3 => vals_r2 r1 r3) (fun T kV doc pm an cdv ct us its ws l1 l2 l3 => match us, its, ws, l1, l2, l3 with | [], [_], [_, _], _, _, _ => ⟨_, rfl, rfl⟩)
  exact ⟨f, fd, g, a, b, c, F f fd D⟩
theorem guk_depth {P : Program} {w : World} {K : Frag} {mg : Str → Option Value} {base : Heap} {k : Nat} {sp : SpD} (G : Gs K mg "depth_of" s_depth_of) (F : UFo P w K mg base k "depth_of" s_depth_of [] P_depth_of sp) : GUk P w K mg base k "depth_of" 0 ["frame"] gK P_depth_of sp := by
  obtain ⟨f, fd, g, a, b, c, D⟩ := G.k0 (ps := P_depth_of) 0 ["frame"] (fun us ws => gK us ws) (fun _ r => r) (fun kV doc pm an cdv ct us ws l1 l2 => match us, ws, l1, l2 with | [], [_], _, _ => rfl)
  exact ⟨f, fd, g, a, b, c, F f fd D⟩
end Fs
set_option Elab.async false
set_option linter.all false
set_option maxRecDepth 100000
set_option maxHeartbeats 8000000
namespace Fs
open PySem PySem.Spec PyProof.Rows L2
def besP (al : Str) (wt : Int) (d : D) : D := .tup [d, .str al, .int wt]
def besD (word : Str) (ds : List D) (al : Str) (wt : Int) : D := .tup (.str word :: ds.map (besP al wt))
def spBesD (word : Str) : SpD := fun ws m Q _ => ∃ (al : Str) (wt : Int) (ds : List D), ws = [.v (.str al), .v (.int wt), .v (.tup ds)] ∧ ds.length ≤ 1000 ∧ Q (.v (besD word ds al wt)) m
def gSwp {α : Type} (ws _mv : List α) : List α := match ws with | [a, b] => [b, a] | _ => []
theorem vals_swp {zs mz : List V} {ws mv : List Value} (r : Vals zs ws) (_ : Vals mz mv) : Vals (gSwp zs mz) (gSwp ws mv) := by
  unfold gSwp
  cases r with
  | nil => exact .nil
  | cons a r =>
    cases r with
    | nil => exact .nil
    | cons b r =>
      cases r with
      | nil => exact .cons b (.cons a .nil)
      | cons _ _ => exact .nil
theorem rws_swp {K : Frag} {B : Hp} {μ : List Addr} {zs : List V} {ws : List W} (r : RWs K B μ zs ws) {mz : List V} {mw : List W} : RWs K B μ (gSwp zs mz) (gSwp ws mw) := by
  unfold gSwp
  cases r with
  | nil => exact .nil
  | cons a r =>
    cases r with
    | nil => exact .nil
    | cons b r =>
      cases r with
      | nil => exact .cons b (.cons a .nil)
      | cons _ _ => exact .nil
/-- called without keywords, with align, with weight, with both -/
structure BesD (P : Program) (w : World) (K : Frag) (mg : Str → Option Value) (base : Heap) (x word : Str) : Prop where
  k0 : GsK P w K mg base 2 x [] (liftS K (fun _ => [.v (.str "start"), .v (.int 0)]) (spBesD word))
  kA : GsK P w K mg base 2 x ["align"] (liftS K (fun zs => zs ++ [.v (.int 0)]) (spBesD word))
  kW : GsK P w K mg base 2 x ["weight"] (liftS K (fun zs => .v (.str "start") :: zs) (spBesD word))
  kB : GsK P w K mg base 2 x ["weight", "align"] (liftS K (fun zs => gSwp zs []) (spBesD word))
  kC : GsK P w K mg base 2 x ["align", "weight"] (liftS K (fun zs => zs) (spBesD word))
theorem startStr {K : Frag} {B : Hp} {μ : List Addr} : RW K B μ (.str "start") (.v (.str "start")) := RW.d (.str (by decide +kernel))
theorem lcL_part {te : DTE} {g : DTG} {en : En} {m : Me} {ds : List D} {Q : W → Me → Prop} {al : Str} {wt : Int} (hl : ds.length ≤ 1000) (h : ∀ d (Qt : W → Me → Prop), d ∈ ds → Qt (.v (besP al wt d)) m → g (.v d) en m fun en1 m1 => te en1 m1 Qt noX) (k : Q (.v (.lst (ds.map (besP al wt)))) m) : lcL g tYs te en ds [] m Q :=
  lcL_map (besP al wt) (by rw [sizeLine_eq]; show 0 + _ ≤ _; omega) h k
section
variable {P : Program} {w : World} {K : Frag} {mg : Str → Option Value} {base : Heap}
abbrev s_side_by_side : Stmt := top 7
abbrev N_side_by_side : List Str := ["align", "weight", "frames", "frame"]
abbrev P_side_by_side : List Str := ["align", "weight", "frames"]
abbrev O_side_by_side_0 : List (Str × Nat) := [("frame", 3)]
theorem sc_side_by_side : FnScope N_side_by_side P_side_by_side (defScope s_side_by_side) := ⟨rfl, rfl, rfl, by decide +kernel, rfl, by decide +kernel, by decide +kernel⟩
theorem bes_side_by_side (G : Gsd K mg "side_by_side" s_side_by_side [] [("align", .str "start"), ("weight", .int 0)]) : BesD P w K mg base "side_by_side" "row" := by
  obtain ⟨f, fd, mf, FD⟩ := G
  have bd : ∀ (f : Addr) (cdv : Value) (A : Around) (outer : List Env) (s : Shared) (H : Hp), Room 1 (A.deeper (envOfC "side_by_side" (defScope s_side_by_side) s.heap.objs.size f cdv)) →
      ∃ T, DSs (cxOf CX0 P w K mg base N_side_by_side "side_by_side" (defScope s_side_by_side) f cdv A outer s H E0).nox E0 (defBody s_side_by_side) T ∧ ∀ ws m Qd Qx, spBesD "row" ws m Qd Qx → T (startE N_side_by_side ws) m (defN m Qd Qx) := fun f cdv A outer s H hr => by
    refine ⟨_, (dss_one (ds_ret (d_tup (da_cons d_str (da_star (d_lc (own := O_side_by_side_0) rfl sc_side_by_side.nd (di_seq (dv 2)) (blkOk_by (own := O_side_by_side_0) (N := N_side_by_side) (sc := defScope s_side_by_side) (by decide +kernel)) (fun _ _ _ _ _ => (dg_name (i := 3) sc_side_by_side.nd rfl (.inl rfl))) (fun _ _ _ _ _ => dts_nil) (fun _ _ _ _ _ => (d_tup (da_cons (dv 3) (da_cons (dv 0) (da_cons (dv 1) da_nil)))))) da_nil))))), fun ws m Qd Qx h => ?_⟩
    obtain ⟨al, wt, ds, rfl, hl, q⟩ := h
    refine lcL_part (al := al) (wt := wt) hl (fun d Qt hd hq => ?_) ?_
    · exact ⟨by show 3 ≤ sizeLine; decide, hq⟩
    · refine oDs_star ⟨?_, List.prefix_refl _, ?_⟩
      · show ((ds.map (besP al wt)) ++ []).length + 1 ≤ _
        rw [List.append_nil, List.length_map, sizeLine_eq]
        omega
      · rw [List.append_nil]
        exact q
  refine ⟨⟨f, mf, FD.kp, ?_⟩, ⟨f, mf, FD.kp, ?_⟩, ⟨f, mf, FD.kp, ?_⟩, ⟨f, mf, FD.kp, ?_⟩, ⟨f, mf, FD.kp, ?_⟩⟩
  · exact fnk_d FD (by simp) sc_side_by_side [] [("align", .str "start"), ("weight", .int 0)] (fun q h => h) (fun _ mv => mv) (fun _ => [.v (.str "start"), .v (.int 0)]) (fun _ r => r) (fun _ _ => rfl) (fun _ _ _ _ _ => .cons startStr (.cons (RW.d (.int 0)) .nil)) (fun D doc pm an cdv ct us ws mv l1 l2 => match ws, mv, l1, l2 with | [], [a, b], _, _ => (by cases us <;> exact KwTo.one rfl rfl (KwTo.one rfl rfl rfl))) bd
  · exact fnk_d FD (by simp) sc_side_by_side ["align"] [("weight", .int 0)] (fun q h => by simp at h; simp [h]) (fun ws mv => ws ++ mv) (fun zs => zs ++ [.v (.int 0)]) (fun r1 r2 => r1.append r2) (fun zs l => by obtain ⟨a, rfl⟩ := len1d l; rfl) (fun _ _ _ _ r => r.append (.cons (RW.d (.int 0)) .nil)) (fun D doc pm an cdv ct us ws mv l1 l2 => match ws, mv, l1, l2 with | [a], [b], _, _ => (by cases us <;> exact KwTo.one rfl rfl rfl)) bd
  · exact fnk_d FD (by simp) sc_side_by_side ["weight"] [("align", .str "start")] (fun q h => by simp at h; simp [h]) (fun ws mv => mv ++ ws) (fun zs => .v (.str "start") :: zs) (fun r1 r2 => r2.append r1) (fun zs l => by obtain ⟨a, rfl⟩ := len1d l; rfl) (fun _ _ _ _ r => .cons startStr r) (fun D doc pm an cdv ct us ws mv l1 l2 => match ws, mv, l1, l2 with | [a], [b], _, _ => (by cases us <;> exact KwTo.one rfl rfl rfl)) bd
  · exact fnk_d FD (by simp) sc_side_by_side ["weight", "align"] [] (fun q h => by simp at h) (fun ws mv => gSwp ws mv) (fun zs => gSwp zs []) (fun r1 r2 => vals_swp r1 r2) (fun zs l => by obtain ⟨a, b, rfl⟩ : ∃ a b, zs = [a, b] := (match zs, l with | [a, b], _ => ⟨a, b, rfl⟩); rfl) (fun _ _ _ _ r => rws_swp r) (fun D doc pm an cdv ct us ws mv l1 l2 => match ws, mv, l1, l2 with | [a, b], [], _, _ => (by cases us <;> exact rfl)) bd
  · exact fnk_d FD (by simp) sc_side_by_side ["align", "weight"] [] (fun q h => by simp at h) (fun ws _ => ws) (fun zs => zs) (fun r1 _ => r1) (fun zs l => by obtain ⟨a, b, rfl⟩ : ∃ a b, zs = [a, b] := (match zs, l with | [a, b], _ => ⟨a, b, rfl⟩); rfl) (fun _ _ _ _ r => r) (fun D doc pm an cdv ct us ws mv l1 l2 => match ws, mv, l1, l2 with | [a, b], [], _, _ => (by cases us <;> exact rfl)) bd
abbrev s_stacked : Stmt := top 8
abbrev N_stacked : List Str := ["align", "weight", "frames", "frame"]
abbrev P_stacked : List Str := ["align", "weight", "frames"]
abbrev O_stacked_0 : List (Str × Nat) := [("frame", 3)]
theorem sc_stacked : FnScope N_stacked P_stacked (defScope s_stacked) := ⟨rfl, rfl, rfl, by decide +kernel, rfl, by decide +kernel, by decide +kernel⟩
theorem bes_stacked (G : Gsd K mg "stacked" s_stacked [] [("align", .str "start"), ("weight", .int 0)]) : BesD P w K mg base "stacked" "column" := by
  obtain ⟨f, fd, mf, FD⟩ := G
  have bd : ∀ (f : Addr) (cdv : Value) (A : Around) (outer : List Env) (s : Shared) (H : Hp), Room 1 (A.deeper (envOfC "stacked" (defScope s_stacked) s.heap.objs.size f cdv)) →
      ∃ T, DSs (cxOf CX0 P w K mg base N_stacked "stacked" (defScope s_stacked) f cdv A outer s H E0).nox E0 (defBody s_stacked) T ∧ ∀ ws m Qd Qx, spBesD "column" ws m Qd Qx → T (startE N_stacked ws) m (defN m Qd Qx) := fun f cdv A outer s H hr => by
    refine ⟨_, (dss_one (ds_ret (d_tup (da_cons d_str (da_star (d_lc (own := O_stacked_0) rfl sc_stacked.nd (di_seq (dv 2)) (blkOk_by (own := O_stacked_0) (N := N_stacked) (sc := defScope s_stacked) (by decide +kernel)) (fun _ _ _ _ _ => (dg_name (i := 3) sc_stacked.nd rfl (.inl rfl))) (fun _ _ _ _ _ => dts_nil) (fun _ _ _ _ _ => (d_tup (da_cons (dv 3) (da_cons (dv 0) (da_cons (dv 1) da_nil)))))) da_nil))))), fun ws m Qd Qx h => ?_⟩
    obtain ⟨al, wt, ds, rfl, hl, q⟩ := h
    refine lcL_part (al := al) (wt := wt) hl (fun d Qt hd hq => ?_) ?_
    · exact ⟨by show 3 ≤ sizeLine; decide, hq⟩
    · refine oDs_star ⟨?_, List.prefix_refl _, ?_⟩
      · show ((ds.map (besP al wt)) ++ []).length + 1 ≤ _
        rw [List.append_nil, List.length_map, sizeLine_eq]
        omega
      · rw [List.append_nil]
        exact q
  refine ⟨⟨f, mf, FD.kp, ?_⟩, ⟨f, mf, FD.kp, ?_⟩, ⟨f, mf, FD.kp, ?_⟩, ⟨f, mf, FD.kp, ?_⟩, ⟨f, mf, FD.kp, ?_⟩⟩
  · exact fnk_d FD (by simp) sc_stacked [] [("align", .str "start"), ("weight", .int 0)] (fun q h => h) (fun _ mv => mv) (fun _ => [.v (.str "start"), .v (.int 0)]) (fun _ r => r) (fun _ _ => rfl) (fun _ _ _ _ _ => .cons startStr (.cons (RW.d (.int 0)) .nil)) (fun D doc pm an cdv ct us ws mv l1 l2 => match ws, mv, l1, l2 with | [], [a, b], _, _ => (by cases us <;> exact KwTo.one rfl rfl (KwTo.one rfl rfl rfl))) bd
  · exact fnk_d FD (by simp) sc_stacked ["align"] [("weight", .int 0)] (fun q h => by simp at h; simp [h]) (fun ws mv => ws ++ mv) (fun zs => zs ++ [.v (.int 0)]) (fun r1 r2 => r1.append r2) (fun zs l => by obtain ⟨a, rfl⟩ := len1d l; rfl) (fun _ _ _ _ r => r.append (.cons (RW.d (.int 0)) .nil)) (fun D doc pm an cdv ct us ws mv l1 l2 => match ws, mv, l1, l2 with | [a], [b], _, _ => (by cases us <;> exact KwTo.one rfl rfl rfl)) bd
  · exact fnk_d FD (by simp) sc_stacked ["weight"] [("align", .str "start")] (fun q h => by simp at h; simp [h]) (fun ws mv => mv ++ ws) (fun zs => .v (.str "start") :: zs) (fun r1 r2 => r2.append r1) (fun zs l => by obtain ⟨a, rfl⟩ := len1d l; rfl) (fun _ _ _ _ r => .cons startStr r) (fun D doc pm an cdv ct us ws mv l1 l2 => match ws, mv, l1, l2 with | [a], [b], _, _ => (by cases us <;> exact KwTo.one rfl rfl rfl)) bd
  · exact fnk_d FD (by simp) sc_stacked ["weight", "align"] [] (fun q h => by simp at h) (fun ws mv => gSwp ws mv) (fun zs => gSwp zs []) (fun r1 r2 => vals_swp r1 r2) (fun zs l => by obtain ⟨a, b, rfl⟩ : ∃ a b, zs = [a, b] := (match zs, l with | [a, b], _ => ⟨a, b, rfl⟩); rfl) (fun _ _ _ _ r => rws_swp r) (fun D doc pm an cdv ct us ws mv l1 l2 => match ws, mv, l1, l2 with | [a, b], [], _, _ => (by cases us <;> exact rfl)) bd
  · exact fnk_d FD (by simp) sc_stacked ["align", "weight"] [] (fun q h => by simp at h) (fun ws _ => ws) (fun zs => zs) (fun r1 _ => r1) (fun zs l => by obtain ⟨a, b, rfl⟩ : ∃ a b, zs = [a, b] := (match zs, l with | [a, b], _ => ⟨a, b, rfl⟩); rfl) (fun _ _ _ _ r => r) (fun D doc pm an cdv ct us ws mv l1 l2 => match ws, mv, l1, l2 with | [a, b], [], _, _ => (by cases us <;> exact rfl)) bd
end
end Fs
set_option Elab.async false
set_option linter.all false
set_option maxRecDepth 100000
set_option maxHeartbeats 8000000
namespace Fs
open PySem PySem.Spec PyProof.Rows L2
section
variable {P : Program} {w : World} {K : Frag} {mg : Str → Option Value} {base : Heap}
abbrev s__law_things : Stmt := top 20
abbrev N__law_things : List Str := ["_law_frame_z", "_law_pair"]
abbrev P__law_things : List Str := ["_law_frame_z"]
abbrev O__law_things_0 : List (Str × Nat) := [("_law_pair", 1)]
theorem sc__law_things : FnScope N__law_things P__law_things (defScope s__law_things) := ⟨rfl, rfl, rfl, by decide +kernel, rfl, by decide +kernel, by decide +kernel⟩
def spLThings : SpD := fun ws m Q _ => ∃ (t : Fr), ws = [.v (encF t)] ∧ okT 4 t ∧ (nmT 4 t).length < 64 ∧ ∀ ys : List Str, ys.Perm (nmT 4 t) → sortedS ys = true → Q (.v (.lst (ys.map .str))) m
theorem len4 {t : Fr} {k : Int} (h : okT 4 t) : (allT 4 t k).length ≤ sizeLine := by
  have := all_len (k := k) h
  rw [sizeLine_eq]
  omega
theorem dd__law_things (G : Gs K mg "_law_things" s__law_things) (m_sorted : mg "sorted" = none) (g__law_all : Gd P w K mg base (L2.CX P w) 6 "_law_all" P__law_all (lift K (spAll 5))) (m_isinstance : mg "isinstance" = none) (m_str : mg "str" = none) : Gd P w K mg base (L2.CX P w) 7 "_law_things" P__law_things (lift K spLThings) := by
  refine Fo.gd (fo_d sc__law_things (fun ws m Q Qx h => ?_) (fun f cdv A outer s H E hr => ⟨_, (dss_one (ds_ret (d_srt rfl m_sorted (da_cons (d_lc (own := O__law_things_0) rfl sc__law_things.nd (di_seq (d_call g__law_all (hr.mono (by omega)) (passE (takes_of rfl rfl rfl rfl)) (da_cons (dv 0) (da_cons d_int da_nil)))) (blkOk_by (own := O__law_things_0) (N := N__law_things) (sc := defScope s__law_things) (by decide +kernel)) (fun _ _ _ _ _ => (dg_name (i := 1) sc__law_things.nd rfl (.inl rfl))) (fun _ _ _ _ _ => (dts_one (dt_val (d_isi m_isinstance (da_cons (d_ix (dv 1) d_int) (da_cons (d_ty (n := "str") m_str (by decide +kernel)) da_nil)))))) (fun _ _ _ _ _ => (d_ix (dv 1) d_int))) da_nil)))), fun ws m Qd Qx h => ?_⟩) [] []) G (fun _ _ _ _ _ _ us hl => match us, hl with | [_], _ => rfl)
  · obtain ⟨_, rfl, _⟩ := h
    rfl
  · obtain ⟨t, rfl, ht, hl, q⟩ := h
    refine ⟨t, 1, rfl, ht, walk_names (len4 ht) (fun u j Qt Qn h1 h2 => ?_) (txtL_map ⟨hl, fun ys a b => ⟨List.prefix_refl _, q ys a b⟩⟩)⟩
    cases u with
    | name x => exact ⟨_, rfl, rfl, _, rfl, h1 ⟨x, rfl⟩⟩
    | _ => exact ⟨_, rfl, rfl, h2 fun _ z => by cases z⟩
abbrev s__law_tower : Stmt := top 21
abbrev N__law_tower : List Str := ["_law_found", "_law_k"]
abbrev P__law_tower : List Str := []
theorem sc__law_tower : FnScope N__law_tower P__law_tower (defScope s__law_tower) := ⟨rfl, rfl, rfl, by decide +kernel, rfl, by decide +kernel, by decide +kernel⟩
def towF : Nat → Fr
  | 0 => .name "a"
  | n + 1 => .pad 0 0 n 0 (towF n)
def spTower : SpD := fun ws m Q _ => ws = [] ∧ Q (.v (encF (towF 11))) m
theorem dd__law_tower (G : Gs K mg "_law_tower" s__law_tower) (m_range : mg "range" = none) : Gd P w K mg base (L2.CX P w) 1 "_law_tower" P__law_tower (lift K spTower) := by
  refine Fo.gd (fo_d sc__law_tower (fun ws m Q Qx h => ?_) (fun f cdv A outer s H E hr => ⟨_, (dss_cons (ds_set (i := 0) sc__law_tower.nd rfl (.inl rfl) d_str)
    (dss_cons (ds_for (passes_of rfl) rfl (di_range1 m_range (da_cons d_int da_nil)) (dg_name (i := 1) sc__law_tower.nd rfl (.inl rfl))
      (dss_one (ds_set (i := 0) sc__law_tower.nd rfl (.inl rfl) (d_tup (da_cons d_str (da_cons d_int (da_cons d_int (da_cons (dv 1) (da_cons d_int (da_cons (dv 0) da_nil))))))))))
    (dss_one (ds_ret (dv 0))))), fun ws m Qd Qx h => ?_⟩) [] []) G (fun _ _ _ _ _ _ us hl => match us, hl with | [], _ => rfl)
  · obtain ⟨rfl, _⟩ := h
    rfl
  · obtain ⟨rfl, q⟩ := h
    have s6 : 6 ≤ sizeLine := by rw [sizeLine_eq]; decide
    refine ⟨by decide, by decide, ?_⟩
    refine sFor0 (fun i en m' => ∃ v, en = [some (.v (encF (towF i))), v] ∧ m' = m) ⟨none, rfl, rfl⟩ ?_ ?_
    · rintro j d en m' N' hd ⟨v, rfl, rfl⟩ r1 r2 r3 hn
      obtain rfl : d = .int j := by
        have z := hd
        unfold rngD at z
        rw [List.getElem?_map] at z
        obtain ⟨i, hi, rfl⟩ := Option.map_eq_some_iff.mp z
        obtain ⟨_, rfl⟩ := List.getElem?_eq_some_iff.mp hi
        simp
      exact ⟨s6, (hn _ _ ⟨_, rfl, rfl⟩).1⟩
    · rintro en m' ⟨v, rfl, rfl⟩
      exact ⟨List.prefix_refl _, q⟩
theorem nameN_len3 {stem : Str} {first at_ k : Nat} (h : stem.length ≤ 3) : (nameN stem first at_ k).length ≤ 10 := by
  unfold nameN
  split
  · rw [Str.length_append, Str.length_append]
    have : (abcAt k).length = 1 := rfl
    have : ("z" : Str).length = 1 := rfl
    have : ("q" : Str).length = 1 := rfl
    omega
  · unfold rawN
    rw [Str.length_append, Str.length_append]
    have : (abcAt ((first + 5 * k) % 26)).length = 1 := rfl
    have := slice_len stem none (some (at_ : Int))
    have := slice_len stem (some (at_ : Int)) none
    omega
theorem ok_tow : ∀ n : Nat, okT n (towF n)
  | 0 => (by decide : (1 : Nat) ≤ 600)
  | n + 1 => ok_tow n
theorem ok_law {f : Addr} {fd : FuncData} (FL : FunD K "law" "law" (defArgs s_law) (defBody s_law) (defScope s_law) [] [] f fd) (hb : ∀ (s : Shared) (v : Value), BindsTo s fd ⟨[v], []⟩ [("_law_script", v)])
    (g__law_bag : Gd P w K mg base CX0 1 "_law_bag" P__law_bag (spBag K)) (m_range : mg "range" = none) (m_len : mg "len" = none) (m_list : mg "list" = none) (m_max : mg "max" = none) (g__law_names : Gd P w K mg base (L2.CX P w) 2 "_law_names" P__law_names (lift K spNamesD)) (g__law_pull : Gd P w K mg base (L2.CX P w) 1 "_law_pull" P__law_pull (lift K spPullD)) (g__law_tree : Gd P w K mg base (L2.CX P w) 8 "_law_tree" P__law_tree (lift K (spTreeU 4))) (g__law_align : Gd P w K mg base (L2.CX P w) 3 "_law_align" P__law_align (lift K spAlignD)) (g__law_of : Gd P w K mg base (L2.CX P w) 2 "_law_of" P__law_of (lift K spOfD))
    (g__law_all : Gd P w K mg base (L2.CX P w) 6 "_law_all" P__law_all (lift K (spAll 5))) (g__law_same : Gd P w K mg base (L2.CX P w) 17 "_law_same" P__law_same (lift K (spSameD 16))) (g__law_things : Gd P w K mg base (L2.CX P w) 7 "_law_things" P__law_things (lift K spLThings)) (g__law_tower : Gd P w K mg base (L2.CX P w) 1 "_law_tower" P__law_tower (lift K spTower)) (gr : BesD P w K mg base "side_by_side" "row") (gc : BesD P w K mg base "stacked" "column")
    (gg_walk_1 : GG P w K mg base 36 "walk" P_walk [.int 1] (spWalkA 11)) (gk_walk_0_depth_frame : GGk P w K mg base 36 "walk" ["depth", "frame"] gR2 P_walk (spWalkA 11)) (gu_things_of : GU P w K mg base (38) "things_of" P_things_of (spThings 11)) (gu_count_parts : GU P w K mg base (38) "count_parts" P_count_parts (spCount 11)) (gu_depth_of : GU P w K mg base (38) "depth_of" P_depth_of (spDepth 11)) (guk_depth_of_0_frame : GUk P w K mg base (38) "depth_of" 0 ["frame"] gK P_depth_of (spDepth 11)) :
    LawOk P w K mg base 63 f := by
  refine law_ok (k := 42) (nn := 9) FL sc_law ⟨rfl, by decide, by decide⟩ rfl hb fun cdv s H a ns hr hS hl => ⟨⟨_, ps_set (i := 1) sc_law.nd rfl (.inl rfl) (pe_g g__law_bag (hr.mono (by omega)) pass0 (pa_cons (pv 0) pa_nil)), ?_⟩, _, (uss_cons (us_forI rfl (ui_di fun _ => (di_range1 m_range (da_cons d_int da_nil))) (fun _ => (dg_name (i := 2) sc_law.nd rfl (.inl rfl)))
      (uss_cons (us fun _ => (ds_set (i := 3) sc_law.nd rfl (.inl rfl) (d_call g__law_tree (hr.mono (by omega)) (passE (takes_of rfl rfl rfl rfl)) (da_cons (dv 1) (da_cons (d_call g__law_names (hr.mono (by omega)) (passE (takes_of rfl rfl rfl rfl)) (da_cons (dv 1) (da_cons (d_call g__law_pull (hr.mono (by omega)) (passE (takes_of rfl rfl rfl rfl)) (da_cons (dv 1) (da_cons d_int da_nil))) da_nil))) (da_cons (d_op o_add d_int (d_call g__law_pull (hr.mono (by omega)) (passE (takes_of rfl rfl rfl rfl)) (da_cons (dv 1) (da_cons d_int da_nil)))) da_nil))))))
      (uss_cons (us fun _ => (ds_if (dt_cmp (o_eq (u64 hr)) (d_call g__law_pull (hr.mono (by omega)) (passE (takes_of rfl rfl rfl rfl)) (da_cons (dv 1) (da_cons d_int da_nil))) d_int (nomark _))
        (dss_one (ds_set (i := 3) sc_law.nd rfl (.inl rfl) (d_tup (da_cons d_str (da_cons (d_tup (da_cons (d_tup (da_cons d_str da_nil)) (da_cons (d_call g__law_align (hr.mono (by omega)) (passE (takes_of rfl rfl rfl rfl)) (da_cons (dv 1) da_nil)) (da_cons (d_call g__law_align (hr.mono (by omega)) (passE (takes_of rfl rfl rfl rfl)) (da_cons (dv 1) da_nil)) da_nil)))) (da_cons (d_tup (da_cons (dv 3) (da_cons d_str (da_cons d_str da_nil)))) da_nil))))))
        dss_nil))
      (uss_cons (us fun _ => (ds_set (i := 4) sc_law.nd rfl (.inl rfl) (d_call g__law_all (hr.mono (by omega)) (passE (takes_of rfl rfl rfl rfl)) (da_cons (dv 3) (da_cons d_int da_nil)))))
      (uss_cons (us_if (ut_not (ut_val (u_callF rfl rfl rfl g__law_same (hr.mono (by omega)) (ua_cons (u_lcG (own := O_law_0) rfl sc_law.nd (fun _ => (ge_call gg_walk_1 (hr.mono (by omega)) (da_cons (dv 3) da_nil))) (hr.mono (by omega)) (blkOk_by (own := O_law_0) (N := N_law) (sc := defScope s_law) (by decide +kernel)) (fun _ _ _ _ _ => (dg_name (i := 10) sc_law.nd rfl (.inl rfl))) (fun _ _ _ _ _ => dts_nil) (fun _ _ _ _ _ => (dv 10))) (ua_cons (ue fun _ => (dv 4)) ua_nil)))))
        (uss_one (us fun _ => (ds_ret d_bl)))
        uss_nil)
      (uss_cons (us fun _ => (ds_set (i := 5) sc_law.nd rfl (.inl rfl) (d_call g__law_of (hr.mono (by omega)) (passE (takes_of rfl rfl rfl rfl)) (da_cons (dv 1) (da_cons (d_lst (da_cons d_int (da_cons d_int (da_cons d_int (da_cons d_int da_nil))))) da_nil)))))
      (uss_cons (us_if (ut_not (ut_val (u_callF rfl rfl rfl g__law_same (hr.mono (by omega)) (ua_cons (u_lcG (own := O_law_1) rfl sc_law.nd (fun _ => (ge_callR gk_walk_0_depth_frame Reo.r2 (hr.mono (by omega)) (dk_cons (dv 5) (dk_cons (dv 3) dk_nil)))) (hr.mono (by omega)) (blkOk_by (own := O_law_1) (N := N_law) (sc := defScope s_law) (by decide +kernel)) (fun _ _ _ _ _ => (dg_name (i := 10) sc_law.nd rfl (.inl rfl))) (fun _ _ _ _ _ => dts_nil) (fun _ _ _ _ _ => (dv 10))) (ua_cons (ue fun _ => (d_call g__law_all (hr.mono (by omega)) (passE (takes_of rfl rfl rfl rfl)) (da_cons (dv 3) (da_cons (dv 5) da_nil)))) ua_nil)))))
        (uss_one (us fun _ => (ds_ret d_bl)))
        uss_nil)
      (uss_cons (us_asg (u_lst (ua_cons (u_call rfl rfl rfl gu_things_of (hr.mono (by omega)) (ua fun _ => (da_cons (dv 3) da_nil))) (ua_cons (u_call rfl rfl rfl gu_count_parts (hr.mono (by omega)) (ua fun _ => (da_cons (dv 3) da_nil))) (ua_cons (u_callR0 rfl rfl rfl guk_depth_of_0_frame Reo.gK (hr.mono (by omega)) (uk fun _ => (dk_cons (dv 3) dk_nil))) ua_nil)))) (fun _ => (dg_name (i := 6) sc_law.nd rfl (.inl rfl))))
      (uss_cons (us fun _ => (ds_if (dt_not (dt_val (d_call g__law_same (hr.mono (by omega)) (passE (takes_of rfl rfl rfl rfl)) (da_cons (dv 6) (da_cons (d_lst (da_cons (d_call g__law_things (hr.mono (by omega)) (passE (takes_of rfl rfl rfl rfl)) (da_cons (dv 3) da_nil)) (da_cons (d_len m_len (da_cons (dv 4) da_nil)) (da_cons (d_maxL rfl m_max (da_cons (d_lc (own := O_law_2) rfl sc_law.nd (di_seq (dv 4)) (blkOk_by (own := O_law_2) (N := N_law) (sc := defScope s_law) (by decide +kernel)) (fun _ _ _ _ _ => (dg_name (i := 10) sc_law.nd rfl (.inl rfl))) (fun _ _ _ _ _ => dts_nil) (fun _ _ _ _ _ => (d_ix (dv 10) d_int))) da_nil)) da_nil)))) da_nil)))))
        (dss_one (ds_ret d_bl))
        dss_nil))
      (uss_cons (us_expr (u_app (u_call rfl rfl rfl gu_things_of (hr.mono (by omega)) (ua fun _ => (da_cons (dv 3) da_nil))) (ua fun _ => (da_cons d_str da_nil))))
      (uss_one (us_if (UW.ut (uw_and (ut_cmp (fun _ => (o_in (u65 hr))) (ue fun _ => d_str) (u_call rfl rfl rfl gu_things_of (hr.mono (by omega)) (ua fun _ => (da_cons (dv 3) da_nil))) (by rfl)) (uw_and1 (ut fun _ => (dt_cmp (o_notin (u65 hr)) d_str (d_call g__law_things (hr.mono (by omega)) (passE (takes_of rfl rfl rfl rfl)) (da_cons (dv 3) da_nil)) (by rfl))))))
        (uss_one (us fun _ => (ds_ret d_bl)))
        uss_nil))))))))))))
    (uss_cons (us fun _ => (ds_set (i := 7) sc_law.nd rfl (.inl rfl) (d_call0 g__law_tower (hr.mono (by omega)) (passE (takes_of rfl rfl rfl rfl)))))
    (uss_cons (us_if (ut_cmp (fun _ => (o_ne (u64 hr))) (u_lst (ua_cons (u_call rfl rfl rfl gu_depth_of (hr.mono (by omega)) (ua fun _ => (da_cons (dv 7) da_nil))) (ua_cons (u_call rfl rfl rfl gu_count_parts (hr.mono (by omega)) (ua fun _ => (da_cons (dv 7) da_nil))) (ua_cons (u_call rfl rfl rfl gu_things_of (hr.mono (by omega)) (ua fun _ => (da_cons (dv 7) da_nil))) (ua_cons (u_len m_len (ua_cons (u_listG rfl rfl rfl rfl (fun _ => (ge_call gg_walk_1 (hr.mono (by omega)) (da_cons (dv 7) da_nil))) (hr.mono (by omega)) m_list) ua_nil)) ua_nil))))) (ue fun _ => (d_lst (da_cons d_int (da_cons d_int (da_cons (d_lst (da_cons d_str da_nil)) (da_cons d_int da_nil)))))) (nomark _))
      (uss_one (us fun _ => (ds_ret d_bl)))
      uss_nil)
    (uss_cons (us fun _ => (ds_par (i := 8) (j := 9) rfl sc_law.nd rfl rfl (by decide) rfl rfl (da_cons (d_callSp gr.k0 (hr.mono (by omega)) (da_cons d_str (da_cons d_str (da_cons d_str (da_cons d_str (da_cons d_str da_nil)))))) (da_cons (d_callS0 gc.k0 (hr.mono (by omega))) da_nil)) (by rfl)))
    (uss_cons (us_asg (u_lst (ua_cons (u_call rfl rfl rfl gu_things_of (hr.mono (by omega)) (ua fun _ => (da_cons (dv 8) da_nil))) (ua_cons (u_call rfl rfl rfl gu_count_parts (hr.mono (by omega)) (ua fun _ => (da_cons (dv 8) da_nil))) (ua_cons (u_call rfl rfl rfl gu_depth_of (hr.mono (by omega)) (ua fun _ => (da_cons (dv 8) da_nil))) (ua_cons (u_lcG (own := O_law_3) rfl sc_law.nd (fun _ => (ge_call gg_walk_1 (hr.mono (by omega)) (da_cons (dv 8) da_nil))) (hr.mono (by omega)) (blkOk_by (own := O_law_3) (N := N_law) (sc := defScope s_law) (by decide +kernel)) (fun _ _ _ _ _ => (dg_name (i := 10) sc_law.nd rfl (.inl rfl))) (fun _ _ _ _ _ => dts_nil) (fun _ _ _ _ _ => (dv 10))) ua_nil))))) (fun _ => (dg_name (i := 6) sc_law.nd rfl (.inl rfl))))
    (uss_cons (us fun _ => (ds_set (i := 4) sc_law.nd rfl (.inl rfl) (d_lst (da_cons (d_lst (da_cons d_str (da_cons d_str (da_cons d_str (da_cons d_str (da_cons d_str da_nil)))))) (da_cons d_int (da_cons d_int (da_cons (d_lst (da_cons (d_tup (da_cons (dv 8) (da_cons d_int da_nil))) (da_cons (d_tup (da_cons d_str (da_cons d_int da_nil))) (da_cons (d_tup (da_cons d_str (da_cons d_int da_nil))) (da_cons (d_tup (da_cons d_str (da_cons d_int da_nil))) (da_cons (d_tup (da_cons d_str (da_cons d_int da_nil))) (da_cons (d_tup (da_cons d_str (da_cons d_int da_nil))) da_nil))))))) da_nil)))))))
    (uss_cons (us fun _ => (ds_if (dt_not (dt_val (d_call g__law_same (hr.mono (by omega)) (passE (takes_of rfl rfl rfl rfl)) (da_cons (dv 6) (da_cons (dv 4) da_nil)))))
      (dss_one (ds_ret d_bl))
      dss_nil))
    (uss_cons (us_if (ut_not (ut_val (u_callF rfl rfl rfl g__law_same (hr.mono (by omega)) (ua_cons (u_lst (ua_cons (u_call rfl rfl rfl gu_things_of (hr.mono (by omega)) (ua fun _ => (da_cons (dv 9) da_nil))) (ua_cons (u_call rfl rfl rfl gu_count_parts (hr.mono (by omega)) (ua fun _ => (da_cons (dv 9) da_nil))) (ua_cons (u_call rfl rfl rfl gu_depth_of (hr.mono (by omega)) (ua fun _ => (da_cons (dv 9) da_nil))) ua_nil)))) (ua_cons (ue fun _ => (d_lst (da_cons (d_lst da_nil) (da_cons d_int (da_cons d_int da_nil))))) ua_nil)))))
      (uss_one (us fun _ => (ds_ret d_bl)))
      uss_nil)
    (uss_one (us_ret (u_and (u_cmp (fun _ => (o_eq (u64 hr))) (u_lcG (own := O_law_4) rfl sc_law.nd (fun _ => (ge_call gg_walk_1 (hr.mono (by omega)) (da_cons d_str da_nil))) (hr.mono (by omega)) (blkOk_by (own := O_law_4) (N := N_law) (sc := defScope s_law) (by decide +kernel)) (fun _ _ _ _ _ => (dg_name (i := 10) sc_law.nd rfl (.inl rfl))) (fun _ _ _ _ _ => dts_nil) (fun _ _ _ _ _ => (dv 10))) (ue fun _ => (d_lst (da_cons (d_tup (da_cons d_str (da_cons d_int da_nil))) da_nil))) (nomark _)) (u_one (u_cmp (fun _ => (o_eq (u64 hr))) (u_call rfl rfl rfl gu_things_of (hr.mono (by omega)) (ua fun _ => (da_cons (d_tup (da_cons d_str (da_cons d_int (da_cons d_int da_nil)))) da_nil))) (ue fun _ => (d_lst da_nil)) (nomark _)))))))))))))), ?_⟩
  · intro D h
    exact ⟨_, rfl, a, ns, rfl, hS, fun p l H1 np s1 B1 => h p l H1 B1⟩
  have ln := sizeLine_eq
  have s1 : 1 ≤ sizeLine := by omega
  have s2 : 2 ≤ sizeLine := by omega
  have s3 : 3 ≤ sizeLine := by omega
  have s4 : 4 ≤ sizeLine := by omega
  have s5 : 5 ≤ sizeLine := by omega
  have s6 : 6 ≤ sizeLine := by omega
  refine ⟨by decide, by decide, ?_⟩
  refine sFor0 (fun i en m => ∃ v2 v3 v4 v5 v6 more, en = [none, some (.loc 0), v2, v3, v4, v5, v6, none, none, none, none] ∧ m = MO.bag :: more) ⟨none, none, none, none, none, [], rfl, rfl⟩ ?_ ?_
  · rintro j d en m N' hd ⟨v2, v3, v4, v5, v6, more, rfl, rfl⟩ r1 r2 r3 hn
    refine ⟨0, 5, rfl, rfl, by decide, by decide, fun r r0 r1' => ?_⟩
    obtain ⟨rn, rfl⟩ : ∃ x : Nat, r = x := ⟨r.toNat, by omega⟩
    refine ⟨0, rn, rfl, rfl, by omega, fun stem first at_ h1 h2 h3 h4 => ?_⟩
    obtain ⟨zs, hzs⟩ : ∃ zs, zs = namesN stem first at_ rn := ⟨_, rfl⟩
    rw [← hzs]
    have zl : zs.length = rn := by
      rw [hzs]
      unfold namesN
      rw [List.length_map, List.length_range]
    have zb : ∀ z ∈ zs, z.length ≤ 600 := fun z hz => by
      rw [hzs] at hz
      obtain ⟨k, _, rfl⟩ := List.mem_map.mp hz
      exact Nat.le_trans (nameN_len3 h1) (by decide)
    refine ⟨0, 2, rfl, rfl, by decide, by decide, fun dd d0 d1 => ?_⟩
    obtain ⟨dn, rfl⟩ : ∃ x : Nat, dd = x := ⟨dd.toNat, by omega⟩
    have e2 : (1 : Int) + (dn : Int) = ((dn + 2 : Nat) : Int) - 1 := by omega
    refine ⟨dn + 2, by omega, 0, zs, ?_, rfl, by omega, fun z => by omega, fun dt ht0 => ?_⟩
    · show [W.loc 0, W.v (D.lst (zs.map D.str)), W.v (D.int (1 + (dn : Int)))] = _
      rw [e2]
    obtain ⟨t, rfl, ht1, hN, nm⟩ := tree_nm ht0 zb
    have ht : okT 3 t := ok_to ht1 (by omega)
    have nm3 : nmT 3 t = zs := nm 3 (by omega)
    clear ht0 ht1
    dsimp only
    refine dseq (fun en' m' => ∃ (t : Fr), en' = [none, some (.loc 0), some (.v d), some (.v (encF t)), v4, v5, v6, none, none, none, none] ∧ m' = MO.bag :: more ∧ okT 4 t ∧ nmT 4 t = zs) (fun N1 e1 e2 h => ?_) ?_
    · refine ⟨0, 3, rfl, rfl, by decide, by decide, fun c c0 c1 => ?_⟩
      refine ⟨rfl, rfl, Nat.zero_le _, Nat.zero_le _, ?_⟩
      refine iteB (fun hc => ?_) (fun hc => ?_)
      · refine ⟨s1, 0, rfl, rfl, fun a1 ha1 => ⟨0, rfl, rfl, fun a2 ha2 => ⟨s3, s3, s3, ?_⟩⟩⟩
        refine h _ _ ⟨.line "pile" [.hole, t] [(.str a1, .str a2), (.str "fill", .str "end")], rfl, rfl, ⟨.inr (.inr rfl), rfl, by show 2 ≤ 26; decide, fun a ha => ?_, fun u hu => ?_⟩, ?_⟩
        · simp only [List.mem_cons, List.not_mem_nil, or_false] at ha
          rcases ha with rfl | rfl <;> exact ⟨rfl, rfl⟩
        · simp only [List.mem_cons, List.not_mem_nil, or_false] at hu
          rcases hu with rfl | rfl
          · trivial
          · exact ht
        · show nmT 3 .hole ++ (nmT 3 t ++ []) = zs
          rw [nm3, List.append_nil]
          rfl
      · exact h _ _ ⟨t, rfl, rfl, ok_to ht (by decide), nm 4 (by omega)⟩
    · rintro _ _ ⟨z, rfl, rfl, hz, nz⟩
      have lz : ∀ k, (allT 4 z k).length ≤ sizeLine := fun k => len4 hz
      have fz : ∀ k, fitD 16 (.lst (allT 4 z k)) := fun k => ⟨Nat.lt_of_le_of_lt (all_len hz) (by decide), fun d hd => fit_more (all_fit hz d hd) (by decide)⟩
      have zn : (nmT 4 z).length < 64 := by rw [nz]; omega
      refine ⟨z, 1, rfl, hz, ?_⟩
      refine ⟨_, _, walk_at hz (by decide), rfl, lcL_id (lz 1) (fun _ _ hq => hq) ⟨_, rfl, fz 1, ?_⟩⟩
      refine ⟨s4, 0, _, [.int 2, .int 7, .int 8, .int 100], rfl, rfl, .inl rfl, by simp, Nat.lt_of_le_of_lt (show 4 ≤ 4 by decide) (by decide), fun q0 hq0 => ?_⟩
      obtain ⟨q, rfl⟩ : ∃ q : Int, q0 = .int q := by
        simp only [List.mem_cons, List.not_mem_nil, or_false] at hq0
        rcases hq0 with rfl | rfl | rfl | rfl <;> exact ⟨_, rfl⟩
      refine ⟨rfl, _, _, walk_at hz (by decide), rfl, lcL_id (lz q) (fun _ _ hq => hq) ⟨z, q, rfl, hz, _, rfl, fz q, ?_⟩⟩
      refine ⟨false, 4, z, rfl, by decide, hz, lz 1, zn, fun ys y1 y2 => ?_⟩
      refine ⟨4, z, rfl, by decide, hz, lz 1, ?_⟩
      refine ⟨rfl, rfl, 4, z, rfl, by decide, hz, lz 1, fun dm m1 m2 => ⟨s3, ?_⟩⟩
      refine ⟨z, rfl, hz, zn, fun ys2 w1 w2 => ?_⟩
      obtain rfl := srt_same y1 y2 w1 w2
      dsimp only [tCn, tN, tCa, Fs.c1, lenD, tV, En.get, List.set, tLcD, tIt, iterD, oD, look, List.getElem?_cons_succ, List.getElem?_cons_zero, Option.getD_some, Nat.reduceSub]
      refine walk_depths (n := 4) (t := z) (k := 1) (lz 1) (fun u j Qt h1 => ⟨_, rfl, h1⟩) (intsD_map _ ⟨dp_pos, fun dm2 n1 n2 => ?_⟩)
      obtain rfl := max_same m1 m2 n1 n2
      have yl : ys.length < 64 := by rw [y1.length_eq]; exact zn
      have yb : ∀ y ∈ ys, y.length ≤ 600 := fun y hy => zb y (nz ▸ y1.mem_iff.mp hy)
      refine ⟨s3, _, rfl, ⟨by show 3 < 2 ^ 20; decide, fun e he => ?_⟩, ?_⟩
      · simp only [List.mem_cons, List.not_mem_nil, or_false] at he
        rcases he with rfl | rfl | rfl
        · refine ⟨by rw [List.length_map]; omega, fun e he => ?_⟩
          obtain ⟨y, hy, rfl⟩ := List.mem_map.mp he
          exact fit_more (enc_fit (n := 0) (t := .name y) (yb y hy)) (by decide)
        · rfl
        · rfl
      refine ⟨true, 4, z, rfl, by decide, hz, lz 1, zn, fun us u1 u2 => ⟨lstAt_last trivial, lstAt_last ⟨?_, ?_⟩⟩⟩
      · rw [List.length_map, u1.length_eq]
        omega
      refine ⟨false, 4, z, rfl, by decide, hz, lz 1, zn, fun vs v1 v2 => ?_⟩
      refine ⟨rfl, plain_strs vs, Nat.zero_le _, by rw [dep_strs]; decide, ?_⟩
      refine iteB (fun c1 => ?_) (fun c1 => ?_)
      · refine ⟨z, rfl, hz, zn, fun xs x1 x2 => ?_⟩
        obtain rfl := srt_same v1 v2 x1 x2
        refine ⟨rfl, plain_strs vs, Nat.zero_le _, by rw [dep_strs]; decide, ?_⟩
        refine ite_no ?_ ?_
        · show (!_) = false
          have c1 : List.any _ _ = true := c1
          rw [c1]
          rfl
        · exact (hn _ _ ⟨_, _, _, _, _, _, rfl, rfl⟩).1
      · exact (hn _ _ ⟨_, _, _, _, _, _, rfl, rfl⟩).1
  · rintro en m ⟨v2, v3, v4, v5, v6, more, rfl, rfl⟩
    refine ⟨rfl, ?_⟩
    have l11 : ∀ k, (allT 11 (towF 11) k).length ≤ sizeLine := fun k => by
      rw [show (allT 11 (towF 11) k).length = 12 from rfl, sizeLine_eq]
      decide
    have ot := ok_tow 11
    have oc : okT 1 (.line "column" [] []) := ⟨.inr (.inl rfl), rfl, Nat.zero_le _, fun _ h => (nomatch h), fun _ h => (nomatch h)⟩
    refine ⟨11, towF 11, rfl, by decide, ot, l11 1, fun dm m1 m2 => ?_⟩
    obtain rfl : dm = 12 := max_same m1 m2 (by decide) (by decide)
    refine ⟨11, towF 11, rfl, by decide, ot, l11 1, ?_⟩
    refine ⟨false, 11, towF 11, rfl, by decide, ot, l11 1, by decide, fun ys y1 y2 => ?_⟩
    obtain rfl : ys = (["a"] : List Str) := List.perm_singleton.mp y1
    refine ⟨_, _, walk_at ot (by decide), l11 1, fun _ => ?_, fun _ z => nomatch z⟩
    refine ⟨s4, s1, s4, rfl, rfl, by decide, by decide, ?_⟩
    refine ⟨rfl, s5, "start", 0, [.str "a", .str "b", .str "c", .str "d", .str "e"], rfl, by decide, ?_⟩
    refine ⟨rfl, Nat.zero_le _, "start", 0, [], rfl, by decide, ?_⟩
    obtain ⟨wF, ew⟩ : ∃ t : Fr, t = .line "row" [.name "a", .name "b", .name "c", .name "d", .name "e"] [(.str "start", .int 0), (.str "start", .int 0), (.str "start", .int 0), (.str "start", .int 0), (.str "start", .int 0)] := ⟨_, rfl⟩
    have ow : okT 1 wF := by
      subst ew
      refine ⟨.inl rfl, rfl, by show 5 ≤ 26; decide, fun a h => ?_, fun v h => ?_⟩
      · simp only [List.mem_cons, List.not_mem_nil, or_false, or_self] at h
        subst h
        exact ⟨rfl, rfl⟩
      · simp only [List.mem_cons, List.not_mem_nil, or_false] at h
        rcases h with rfl | rfl | rfl | rfl | rfl <;> exact (by decide : (1 : Nat) ≤ 600)
    have lw : (allT 1 wF 1).length ≤ sizeLine := by subst ew; exact s6
    refine ⟨false, 1, wF, by subst ew; rfl, by decide, ow, lw, by subst ew; decide, fun ys y1 y2 => ?_⟩
    obtain rfl : ys = (["a", "b", "c", "d", "e"] : List Str) := srt_same y1 y2 (by subst ew; exact List.Perm.refl _) (by decide +kernel)
    refine ⟨1, wF, by subst ew; rfl, by decide, ow, lw, ?_⟩
    refine ⟨1, wF, by subst ew; rfl, by decide, ow, lw, fun dm m1 m2 => ?_⟩
    obtain rfl : dm = 2 := max_same m1 m2 (by subst ew; decide) (by subst ew; decide)
    have w5 := enc_fit ow
    refine ⟨_, _, ⟨1, by decide, wF, 1, by subst ew; rfl, ow, rfl, rfl⟩, rfl, lcL_id lw (fun _ _ hq => hq) ⟨s4, ?_⟩⟩
    refine ⟨s5, s2, s2, s2, s2, s2, s2, s6, s4, ?_⟩
    subst ew
    refine ⟨_, rfl, ⟨by show 4 < 2 ^ 20; decide, fun e he => ?_⟩, ?_⟩
    · simp only [List.mem_cons, List.not_mem_nil, or_false] at he
      rcases he with rfl | rfl | rfl | rfl
      · refine ⟨by show 5 < 2 ^ 20; decide, fun e he => ?_⟩
        simp only [List.map_cons, List.map_nil, List.mem_cons, List.not_mem_nil, or_false] at he
        rcases he with rfl | rfl | rfl | rfl | rfl <;> rfl
      · rfl
      · rfl
      · exact ⟨by show 6 < 2 ^ 20; decide, fun e he => fit_more (all_fit ow e he) (by decide)⟩
    refine ⟨false, 1, .line "column" [] [], rfl, by decide, oc, s1, by decide, fun ys y1 y2 => ?_⟩
    obtain rfl : ys = ([] : List Str) := List.perm_nil.mp y1
    refine ⟨1, .line "column" [] [], rfl, by decide, oc, s1, ?_⟩
    refine ⟨1, .line "column" [] [], rfl, by decide, oc, s1, fun dm m1 m2 => ?_⟩
    obtain rfl : dm = 1 := max_same m1 m2 (by decide) (by decide)
    refine ⟨s3, Nat.zero_le _, s3, _, rfl, ⟨by show 3 < 2 ^ 20; decide, fun e he => ?_⟩, ?_⟩
    · simp only [List.mem_cons, List.not_mem_nil, or_false] at he
      rcases he with rfl | rfl | rfl
      · exact ⟨by show 0 < 2 ^ 20; decide, fun e he => by cases he⟩
      · rfl
      · rfl
    have oa : okT 0 (.name "a") := (by decide : (1 : Nat) ≤ 600)
    refine ⟨_, _, walk_at (n := 0) (t := .name "a") (d := 1) oa (by decide), rfl, lcL_id s1 (fun _ _ hq => hq) ⟨s2, s1, rfl, rfl, by decide, by decide, ?_⟩⟩
    refine ⟨s3, false, 0, .gap 0 0, rfl, by decide, trivial, s1, by decide, fun ys y1 y2 => ?_⟩
    obtain rfl : ys = ([] : List Str) := List.perm_nil.mp y1
    exact ⟨Nat.zero_le _, rfl, rfl, by decide, by decide, rfl⟩
end
end Fs
set_option Elab.async false
set_option linter.all false
set_option maxRecDepth 100000
set_option maxHeartbeats 0
namespace Fs
open PySem PySem.Spec PyProof.Rows L2
def fn : List He.DefD := [dD "inside_of" s_inside_of, dD "things_of" s_things_of, dD "count_parts" s_count_parts, dD "depth_of" s_depth_of, dD "_law_bag" s__law_bag, dD "_law_pull" s__law_pull, dD "_law_of" s__law_of, dD "_law_same" s__law_same, dD "_law_names" s__law_names, dD "_law_align" s__law_align, dD "_law_number" s__law_number, dD "_law_tree" s__law_tree, dD "_law_inner" s__law_inner, dD "_law_all" s__law_all, dD "_law_things" s__law_things, dD "_law_tower" s__law_tower, dD "law" s_law, ⟨("side_by_side", none), "side_by_side", "side_by_side", defArgs s_side_by_side, defBody s_side_by_side, defScope s_side_by_side, [], [("align", .str "start"), ("weight", .int 0)]⟩, ⟨("stacked", none), "stacked", "stacked", defArgs s_stacked, defBody s_stacked, defScope s_stacked, [], [("align", .str "start"), ("weight", .int 0)]⟩, ⟨("walk", none), "walk", "walk", defArgs s_walk, defBody s_walk, defScope s_walk, [.int 1], []⟩]
def fa : List He.Fa := [.glo "inside_of", .glo "things_of", .glo "count_parts", .glo "depth_of", .glo "_law_bag", .glo "_law_pull", .glo "_law_of", .glo "_law_same", .glo "_law_names", .glo "_law_align", .glo "_law_number", .glo "_law_tree", .glo "_law_inner", .glo "_law_all", .glo "_law_things", .glo "_law_tower", .glo "law", .glo "NUMBERS", .glo "side_by_side", .glo "stacked", .glo "walk", .free "int", .free "list", .free "len", .free "isinstance", .free "tuple", .free "all", .free "range", .free "dict", .free "bool", .free "str", .free "sorted", .free "max"]
def exB (K : Frag) : Bool := (dictU K (He.ga K "NUMBERS") numsK)
abbrev R : PySem.W.OpenRow := PySem.W.OpenLaw.row PySem.Challenge.rw_framesure_k05_frames_walked
def tf : List He.Defn := []
def tsL : List He.Tab := [(fun K => He.ga K "NUMBERS", ["pad", "clip", "grid"])]
abbrev hk : PySem.W.Hook := He.hookX 6 fa fn tsL tf exB
def ob (s : PySem.W.SharedT) : He.AlX := He.obsX 6 fa fn tsL tf exB (HandSHeadRun.getT s)
theorem ob_eq (s : PySem.W.SharedT) : ob s = hk.obs s.abs := He.obsX_eq (HandSHeadRun.getT_eq s)
def loose : List Str := (["NUMBERS", "inside_of", "walk", "things_of", "count_parts", "depth_of", "side_by_side", "stacked", "_law_bag", "_law_pull", "_law_of", "_law_same", "_law_names", "_law_align", "_law_number", "_law_tree", "_law_inner", "_law_all", "_law_things", "_law_tower"] : List Str)
theorem run (w : World) : HandSHeadRun.RunEq R (PySem.W.view R.prog [22]) hk ob 8000 loose w := by
  refine PySem.W.byRow2 "special-get-raises" (P := fun w => HandSHeadRun.RunEq R (PySem.W.view R.prog [22]) hk ob 8000 loose w) (fun w => ?_) (fun w => ?_) w
  · intro os
    kernel_rfl
  · intro os
    kernel_rfl
theorem facts {P : Program} {w : World} {K : Frag} {h : Heap} {mg : Str → Option Value} {f : Addr} (X : K.In h) (G : h.Ns mainGlobals mg) (hfa : mg ("law" : Str) = some (.ref f)) (c : He.SaysX fa fn tsL tf exB w h K) :
    ∀ base : Heap, K.In base → base.Ns mainGlobals mg → LawOk P w K mg base 63 f := by
  have d := c.t.d
  obtain ⟨fd, FL⟩ := d.def_ 16 (d := dD "law" s_law) rfl
  have e := hfa.symm.trans (He.glo_ok X G (d.fact 16 (f := .glo "law") rfl))
  cases e
  have b := FunD.bindsA (ps := ["_law_script"]) FL fun _ _ _ _ _ _ us hl => match us, hl with | [_], _ => rfl
  replace b : ∀ (s : Shared) (v : Value), BindsTo s fd ⟨[v], []⟩ [("_law_script", v)] := fun s v => b s [v] rfl
  intro base _ _
  have G_inside_of := gs_of X G d 0 0 "inside_of" s_inside_of rfl rfl
  have G_things_of := gs_of X G d 1 1 "things_of" s_things_of rfl rfl
  have G_count_parts := gs_of X G d 2 2 "count_parts" s_count_parts rfl rfl
  have G_depth_of := gs_of X G d 3 3 "depth_of" s_depth_of rfl rfl
  have G__law_bag := gs_of X G d 4 4 "_law_bag" s__law_bag rfl rfl
  have G__law_pull := gs_of X G d 5 5 "_law_pull" s__law_pull rfl rfl
  have G__law_of := gs_of X G d 6 6 "_law_of" s__law_of rfl rfl
  have G__law_same := gs_of X G d 7 7 "_law_same" s__law_same rfl rfl
  have G__law_names := gs_of X G d 8 8 "_law_names" s__law_names rfl rfl
  have G__law_align := gs_of X G d 9 9 "_law_align" s__law_align rfl rfl
  have G__law_number := gs_of X G d 10 10 "_law_number" s__law_number rfl rfl
  have G__law_tree := gs_of X G d 11 11 "_law_tree" s__law_tree rfl rfl
  have G__law_inner := gs_of X G d 12 12 "_law_inner" s__law_inner rfl rfl
  have G__law_all := gs_of X G d 13 13 "_law_all" s__law_all rfl rfl
  have G__law_things := gs_of X G d 14 14 "_law_things" s__law_things rfl rfl
  have G__law_tower := gs_of X G d 15 15 "_law_tower" s__law_tower rfl rfl
  have c_NUMBERS := He.glo_ok X G (d.fact 17 (f := .glo "NUMBERS") rfl)
  have c_side_by_side := He.glo_ok X G (d.fact 18 (f := .glo "side_by_side") rfl)
  have c_stacked := He.glo_ok X G (d.fact 19 (f := .glo "stacked") rfl)
  have c_walk := He.glo_ok X G (d.fact 20 (f := .glo "walk") rfl)
  have m_int := free_of X G d 21 "int" rfl
  have m_list := free_of X G d 22 "list" rfl
  have m_len := free_of X G d 23 "len" rfl
  have m_isinstance := free_of X G d 24 "isinstance" rfl
  have m_tuple := free_of X G d 25 "tuple" rfl
  have m_all := free_of X G d 26 "all" rfl
  have m_range := free_of X G d 27 "range" rfl
  have m_dict := free_of X G d 28 "dict" rfl
  have m_bool := free_of X G d 29 "bool" rfl
  have m_str := free_of X G d 30 "str" rfl
  have m_sorted := free_of X G d 31 "sorted" rfl
  have m_max := free_of X G d 32 "max" rfl
  have x1 := c.more
  unfold exB at x1
  obtain ⟨fdR, FR⟩ := d.def_ 17 rfl
  obtain ⟨fdS, FS⟩ := d.def_ 18 rfl
  obtain ⟨fdW, FW⟩ := d.def_ 19 rfl
  obtain ⟨esN, nN, DN⟩ := c.t.tab 0 rfl
  have gBag := ok__law_bag (P := P) (w := w) (base := base) G__law_bag m_int m_list
  have gPull := pullD (ok__law_pull (P := P) (w := w) (base := base) G__law_pull m_int m_len)
  have gOf := dd__law_of G__law_of gPull m_len
  have gSame := dd__law_same (P := P) (w := w) (base := base) G__law_same m_isinstance m_tuple m_list m_all m_range m_len m_dict m_int m_bool m_str 16
  have gNames := dd__law_names G__law_names gPull m_range m_int
  have gAlign := dd__law_align G__law_align gOf
  have gNumber := dd__law_number G__law_number gOf gPull
  have gTree := dd__law_treeU G__law_tree m_range m_len m_tuple m_int gNumber gPull gOf gAlign 4
  have gIn := dd_inside_of (P := P) (w := w) (base := base) G_inside_of m_isinstance m_str DN x1 c_NUMBERS
  have gLIn := dd__law_inner (P := P) (w := w) (base := base) G__law_inner m_isinstance m_str m_list m_len
  have gAll := dd__law_all G__law_all gLIn 5 (by decide)
  have gLT := dd__law_things G__law_things m_sorted gAll m_isinstance m_str
  have gTow := dd__law_tower (P := P) (w := w) (base := base) G__law_tower m_range
  have GW : Gsd K mg "walk" s_walk [.int 1] [] := ⟨_, fdW, c_walk, FW⟩
  have fW := fo_walkA GW gIn 11
  have g1 := gg_walk1 GW fW
  have g2 := ggk_walk GW fW
  have uT := gu0 G_things_of (fo_things_of m_sorted m_isinstance m_str g1) fun _ _ _ _ _ _ us hl => match us, hl with | [_], _ => rfl
  have uC := gu0 G_count_parts (fo_count_parts m_len m_list g1) fun _ _ _ _ _ _ us hl => match us, hl with | [_], _ => rfl
  have fD := fo_depth_of m_max g1
  have uD := gu0 G_depth_of fD fun _ _ _ _ _ _ us hl => match us, hl with | [_], _ => rfl
  have uDk := guk_depth G_depth_of fD
  exact ok_law FL b gBag m_range m_len m_list m_max gNames gPull gTree gAlign gOf gAll gSame gLT gTow (bes_side_by_side ⟨_, fdR, c_side_by_side, FR⟩) (bes_stacked ⟨_, fdS, c_stacked, FS⟩) g1 g2 uT uC uD uDk
end Fs
open PySem PySem.W PySem.Calls PyProof.Rows
theorem PySem.Challenge.cw_framesure_k05_frames_walked_holds : PySem.Challenge.rw_framesure_k05_frames_walked.Holds := by
  w_on; o_law
  refine Fs.head0 (r := OpenLaw.row PySem.Challenge.rw_framesure_k05_frames_walked) (q := view (OpenLaw.row PySem.Challenge.rw_framesure_k05_frames_walked).prog [22]) (H := Fs.hk) (ob := Fs.ob) (M := 8000) (loose := Fs.loose) (d := HandSHeadRun.topDef (OpenLaw.row PySem.Challenge.rw_framesure_k05_frames_walked).prog 22) (kwd := []) Fs.ob_eq
    (by kernel_rfl) (fun s => by kernel_rfl) Fs.run (by kernel_rfl) (by kernel_rfl) (by kernel_rfl) (by rfl) (by first | assumption | decide +kernel) (by decide +kernel) ⟨rfl, rfl, rfl, rfl, rfl, by decide +kernel⟩ ?hw ?hc
  case hw => w_witness2
  case hc =>
    refine Fs.walk0 (l := PySem.Challenge.rw_framesure_k05_frames_walked) (n := 63) rfl (by decide) (by kernel_rfl) ?F
    intro w mg fa h Y G hmg0
    obtain ⟨K, KX, c⟩ := Y
    have hmg : mg ("law" : PySem.Str) = some (.ref fa) := by
      have e : (HandSHeadRun.topDef (OpenLaw.row PySem.Challenge.rw_framesure_k05_frames_walked).prog 22).name = ("law" : PySem.Str) := by kernel_rfl
      rw [← e]
      exact hmg0
    exact ⟨K, KX, Fs.facts (P := (PySem.Challenge.rw_framesure_k05_frames_walked).prog) (w := w) KX G hmg c⟩
