import PyProof.Rows.All
import Wide.All
import OpenK.AllK
import Wide.FinOn
import KE.KStateDown
import HandS.ForMost
import HandS.Exc
import HandS.WordsExc
import HandS.Defaults
import HandS.IsInst
import HandS.Wide
import HandS.Flow
import HandS.Walk
import HandS.Head0
import HandS.Head1
import HandS.Head2
import HandS.HeadEnd
import HandS.HeadHook1
import HandS.HeadHook2
import HandS.HeadHook3
import HandS.HeadHook4
import HandS.SetFor
import HandS.SetTxt0
import HandS.SetKeys
import HandS.Lambda
import HandS.ExcInit
import HandS.DictComp
import HandS.TupAny
import HandS.Deep
import HandS.Strs
import HandS.Small
import HandS.FStr
import HandS.RaiseMore
import HandS.Codes
import HandS.Star
import HandS.TryOnly
import HandS.More
import HandS.SetBool
import HandS.TupSets
import HandS.Dict
import HandS.Iter
import KE.KOpsOwn
import OpenK.KOps
import OpenK.KMeth
import KE.KEqDict
import HandS.MakeKw
import HandS.ClsMeth
import HandS.Finally
import PyProof.InstNe
import PyProof.Rows.PlainNe
import KE.KStar
import HandS.Style
import PySem.Challenge.RW_framesure_k18_lines_of_expressions
set_option Elab.async false
set_option linter.all false
set_option maxRecDepth 100000
set_option maxHeartbeats 8000000
namespace Fs
open PySem PySem.Spec PyProof.Rows L2
abbrev Frag := PySem.W.Frag
/-! ### heaps -/
theorem same_new {H : Hp} {p : Addr} (h : H p = none) (o : HO) : Same H (upd H p o) := fun b u q => by
  rw [upd_ne (ne_of_none q h)]
  exact q
theorem Same.tup {K : Frag} {H H' : Hp} {a : Addr} {xs : List V} (e : Same H H') (h : SqT K H a xs) : SqT K H' a xs := by
  rcases h with (h | ⟨o, h⟩) | h
  · exact .inl (.inl (e _ _ h))
  · exact .inl (.inr ⟨o, e _ _ h⟩)
  · exact .inr h
/-- readings that ask more -/
theorem pe_of {X : Cx} {e : Expr} {t t' : TE} (h : PE X e t) (k : ∀ σ H Q, t' σ H Q → t σ H Q) : PE X e t' := ⟨fun pins s σ H Q I q => h.run pins s σ H Q I (k σ H Q q)⟩
/-- a list of readings, made to grow with what is wanted -/
def upA (t : TA) : TA := fun σ H K => ∃ K0 : List V → Hp → Prop, t σ H K0 ∧ ∀ vs H1, K0 vs H1 → K vs H1
theorem pa_up {X : Cx} {es : List Expr} {t : TA} (h : PA X es t) : PA X es (upA t) := ⟨fun pos pins s σ H Q I ⟨K0, q, k⟩ => thn (h.run pos pins s σ H K0 I q) fun us s1 ⟨vs, H1, I1, r, z⟩ => ⟨vs, H1, I1, r, k _ _ z⟩⟩
/-- a new list, the heap behind it a letter -/
def tLstN (t : TA) : TE := fun σ H Q => t σ H fun xs H1 => xs.length ≤ sizeLine ∧ ∀ p H', H1 p = none → Same H1 H' → H' p = some (.lst xs) → Q (.ref p) H'
theorem pe_lstN {X : Cx} {es : List Expr} {t : TA} {pos : Pos} (h : PA X es t) : PE X (.List es pos) (tLstN t) :=
  pe_of (pe_lst (pa_up h)) fun σ H Q q => ⟨_, q, fun xs H1 z => ⟨z.1, fun p np => z.2 p _ np (same_new np _) upd_same⟩⟩
/-- a new tuple -/
def tTupN (t : TA) : TE := fun σ H Q => t σ H fun xs H1 => xs.length ≤ sizeLine ∧ ∀ p H', H1 p = none → Same H1 H' → H' p = some (.tup xs) → Q (.ref p) H'
theorem pe_tupN {X : Cx} {es : List Expr} {t : TA} {x1 : Nat} {pos : Pos} (h : PA X es t) : PE X (.Tuple es x1 pos) (tTupN t) :=
  pe_of (pe_tup (pa_up h)) fun σ H Q q => ⟨_, q, fun xs H1 z => ⟨z.1, fun p np => z.2 p _ np (same_new np _) upd_same⟩⟩
/-- what holds between a statement and the rest -/
theorem seq_cut {t u : TS} {D : Ends} {σ : L2.St} {H : Hp} (M : L2.St → Hp → Prop) (ht : ∀ N : L2.St → Hp → Prop, (∀ σ' H', M σ' H' → N σ' H') → t { D with nx := N } σ H) (hu : ∀ σ' H', M σ' H' → u D σ' H') : tSeq t u D σ H := ht (u D) hu
theorem atI_i {α : Type} {xs : List α} {i : Int} (h0 : 0 ≤ i) (h : i.toNat < xs.length) : atI xs i = some xs[i.toNat] := by
  have q := atI_nat (xs := xs) (j := i.toNat) (List.getElem?_eq_getElem h)
  rw [Int.toNat_of_nonneg h0] at q
  exact q
/-! ### a global def -/
/-- the def x of the module's top, as it stands, with no defaults -/
structure Gd (P : Program) (w : World) (K : Frag) (mg : Str → Option Value) (base : Heap) (CX : CXT) (k : Nat) (x : Str) (ps : List Str) (sp : Sp) : Prop where
  ex : ∃ f fd, mg x = some (.ref f) ∧ PySem.W.keepIn K (.ref f) = true ∧ Binds K fd ps [] ∧ FnOk P w K mg base CX k f fd ps sp
theorem Gd.mono {P : Program} {w : World} {K : Frag} {mg : Str → Option Value} {base : Heap} {CX : CXT} {j k : Nat} {x : Str} {ps : List Str} {sp : Sp} (G : Gd P w K mg base CX j x ps sp) (h : j ≤ k) : Gd P w K mg base CX k x ps sp := by
  obtain ⟨f, fd, a, b, c, F⟩ := G.ex
  exact ⟨f, fd, a, b, c, F.mono h⟩
theorem Gd.imp {P : Program} {w : World} {K : Frag} {mg : Str → Option Value} {base : Heap} {CX : CXT} {k : Nat} {x : Str} {ps : List Str} {sp sp' : Sp} (G : Gd P w K mg base CX k x ps sp) (h : ∀ vs H Q E, sp' vs H Q E → sp vs H Q E) : Gd P w K mg base CX k x ps sp' := by
  obtain ⟨f, fd, a, b, c, F⟩ := G.ex
  exact ⟨f, fd, a, b, c, F.imp h⟩
/-- the call of such a def -/
theorem pe_g {X : Cx} {CX : CXT} {E : XK} {k : Nat} {x : Str} {ps : List Str} {sp : Sp} {e : Expr} {es : List Expr} {p pos : Pos} {t : TA} (G : Gd X.prog X.w X.K X.mg X.base CX k x ps sp) (hr : Room k X.A) (hx : Passes CX X E) (ha : PA X (e :: es) t)
    (hg : Gl X x := by rfl) (hdb : (x == ("__debug__" : Str)) = false := by decide) (he : starEach (e :: es) X.env = (false, eval e X.env) :: starEach es X.env := by rfl) (hpl : (backTo pos (starEach es X.env)).any (·.1) = false := by rfl) :
    PE X (.Call (.Name x p) (e :: es) [] pos) (tCall sp [] E t) := by
  obtain ⟨f, fd, a, b, c, F⟩ := G.ex
  exact pe_call F hr hg a b c .nil hx ha hdb he hpl
/-- a def of the top keeps its promise wherever it stands: no defaults (dfl, kwd: those it has) -/
def Fo (P : Program) (w : World) (K : Frag) (mg : Str → Option Value) (base : Heap) (CX : CXT) (k : Nat) (x : Str) (st : Stmt) (dfl : List V) (kwd : List (Str × V)) (ps : List Str) (sp : Sp) : Prop :=
  ∀ f fd, FunD K x x (defArgs st) (defBody st) (defScope st) dfl kwd f fd → FnOk P w K mg base CX k f fd ps sp
/-- what stands of a def at the top -/
def Gsd (K : Frag) (mg : Str → Option Value) (x : Str) (st : Stmt) (dfl : List V) (kwd : List (Str × V)) : Prop := ∃ f fd, mg x = some (.ref f) ∧ FunD K x x (defArgs st) (defBody st) (defScope st) dfl kwd f fd
abbrev Gs (K : Frag) (mg : Str → Option Value) (x : Str) (st : Stmt) : Prop := Gsd K mg x st [] []
section
variable {P : Program} {w : World} {K : Frag} {mg : Str → Option Value} {base : Heap} {CX : CXT} {x : Str} {st : Stmt} {dfl : List V} {kwd : List (Str × V)} {N ps : List Str} {k : Nat} {sp : Sp}
theorem fo_ok (S : FnScope N ps (defScope st)) (len : ∀ vs H Q E, sp vs H Q E → vs.length = ps.length)
    (hbody : ∀ (f : Addr) (cdv : Value) (A : Around) (outer : List Env) (s : Shared) (H : Hp) (vs : List V) (Q : VK) (E : XK), Room k (A.deeper (envOfC x (defScope st) s.heap.objs.size f cdv)) → sp vs H Q E →
      ∃ t, PSs (cxOf CX0 P w K mg base N x (defScope st) f cdv A outer s H E).nox (defBody st) t ∧ t { nx := fun _ H' => Q .non H', rt := Q } (start N vs) H) : Fo P w K mg base CX0 (k + 1) x st dfl kwd ps sp := fun f fd F => by
  refine F.ok S len fun cdv A outer s H vs Q E hr h => ?_
  obtain ⟨t, h1, h2⟩ := hbody f cdv A outer s H vs Q E hr h
  exact ⟨t, h1.nox, h2⟩
/-- the same of a def that may raise -/
theorem fo_okX (S : FnScope N ps (defScope st)) (len : ∀ vs H Q E, sp vs H Q E → vs.length = ps.length)
    (hbody : ∀ (f : Addr) (cdv : Value) (A : Around) (outer : List Env) (s : Shared) (H : Hp) (vs : List V) (Q : VK) (E : XK), Room k (A.deeper (envOfC x (defScope st) s.heap.objs.size f cdv)) → sp vs H Q E →
      ∃ t, PSs (cxOf (L2.CX P w) P w K mg base N x (defScope st) f cdv A outer s H E) (defBody st) t ∧ t { nx := fun _ H' => Q .non H', rt := Q } (start N vs) H) : Fo P w K mg base (L2.CX P w) (k + 1) x st dfl kwd ps sp := fun f fd F =>
  F.ok S len (hbody f)
/-- called by position, all parameters given -/
theorem Fo.gd (F : Fo P w K mg base CX k x st [] [] ps sp) (G : Gs K mg x st)
    (hb : ∀ (kV doc pm : Value) (an : Option Addr) (cdv ct : Value) (us : List Value), us.length = ps.length → bindArgs (PySem.W.fnOf x x (defArgs st) (defBody st) (defScope st) .none kV doc pm an cdv ct) ⟨us, []⟩ = pure (ps.zip us)) : Gd P w K mg base CX k x ps sp := by
  obtain ⟨f, fd, a, D⟩ := G
  exact ⟨f, fd, a, D.kp, D.bindsN hb, F f fd D⟩
theorem Gsd.ok (G : Gs K mg x st) (S : FnScope N ps (defScope st)) (len : ∀ vs H Q E, sp vs H Q E → vs.length = ps.length)
    (hb : ∀ (kV doc pm : Value) (an : Option Addr) (cdv ct : Value) (us : List Value), us.length = ps.length → bindArgs (PySem.W.fnOf x x (defArgs st) (defBody st) (defScope st) .none kV doc pm an cdv ct) ⟨us, []⟩ = pure (ps.zip us))
    (hbody : ∀ (f : Addr) (cdv : Value) (A : Around) (outer : List Env) (s : Shared) (H : Hp) (vs : List V) (Q : VK) (E : XK), Room k (A.deeper (envOfC x (defScope st) s.heap.objs.size f cdv)) → sp vs H Q E →
      ∃ t, PSs (cxOf CX0 P w K mg base N x (defScope st) f cdv A outer s H E).nox (defBody st) t ∧ t { nx := fun _ H' => Q .non H', rt := Q } (start N vs) H) : Gd P w K mg base CX0 (k + 1) x ps sp := (fo_ok S len hbody).gd G hb
theorem Gsd.okX (G : Gs K mg x st) (S : FnScope N ps (defScope st)) (len : ∀ vs H Q E, sp vs H Q E → vs.length = ps.length)
    (hb : ∀ (kV doc pm : Value) (an : Option Addr) (cdv ct : Value) (us : List Value), us.length = ps.length → bindArgs (PySem.W.fnOf x x (defArgs st) (defBody st) (defScope st) .none kV doc pm an cdv ct) ⟨us, []⟩ = pure (ps.zip us))
    (hbody : ∀ (f : Addr) (cdv : Value) (A : Around) (outer : List Env) (s : Shared) (H : Hp) (vs : List V) (Q : VK) (E : XK), Room k (A.deeper (envOfC x (defScope st) s.heap.objs.size f cdv)) → sp vs H Q E →
      ∃ t, PSs (cxOf (L2.CX P w) P w K mg base N x (defScope st) f cdv A outer s H E) (defBody st) t ∧ t { nx := fun _ H' => Q .non H', rt := Q } (start N vs) H) : Gd P w K mg base (L2.CX P w) (k + 1) x ps sp := (fo_okX S len hbody).gd G hb
end
/-- a def called with n values by position and the keywords ks -/
structure Gk (P : Program) (w : World) (K : Frag) (mg : Str → Option Value) (base : Heap) (CX : CXT) (k : Nat) (x : Str) (n : Nat) (ks : List Str) (gV : List V → List V → List V) (ps : List Str) (sp : Sp) : Prop where
  ex : ∃ f fd g, mg x = some (.ref f) ∧ PySem.W.keepIn K (.ref f) = true ∧ KBn K fd ps n ks g gV ∧ FnOk P w K mg base CX k f fd ps sp
section
variable {P : Program} {w : World} {K : Frag} {mg : Str → Option Value} {base : Heap} {CX : CXT} {x : Str} {st : Stmt} {dfl : List V} {kwd : List (Str × V)} {N ps : List Str} {k : Nat} {sp : Sp}
theorem Gk.mono {n : Nat} {ks : List Str} {gV : List V → List V → List V} {j : Nat} (G : Gk P w K mg base CX j x n ks gV ps sp) (h : j ≤ k) : Gk P w K mg base CX k x n ks gV ps sp := by
  obtain ⟨f, fd, g, a, b, c, F⟩ := G.ex
  exact ⟨f, fd, g, a, b, c, F.mono h⟩
/-- no defaults: every parameter is written, by position or by name -/
theorem Fo.gk (F : Fo P w K mg base CX k x st [] [] ps sp) (G : Gs K mg x st) (n : Nat) (ks : List Str) (g : {α : Type} → List α → List α → List α)
    (hrel : ∀ {vs zs : List V} {us ws : List Value}, Vals vs us → Vals zs ws → Vals (g vs zs) (g us ws))
    (hb : ∀ (kV doc pm : Value) (an : Option Addr) (cdv ct : Value) (us ws : List Value), us.length = n → ws.length = ks.length → bindArgs (PySem.W.fnOf x x (defArgs st) (defBody st) (defScope st) .none kV doc pm an cdv ct) ⟨us, ks.zip ws⟩ = pure (ps.zip (g us ws))) :
    Gk P w K mg base CX k x n ks (fun vs zs => g vs zs) ps sp := by
  obtain ⟨f, fd, a, D⟩ := G
  refine ⟨f, fd, fun us ws => g us ws, a, D.kp, ?_, F f fd D⟩
  obtain ⟨oc, od, dV, kV, doc, pm, an, cdv, ct, osl, rfl, lk, hcd, hD, hK⟩ := D.ex
  rcases hD with ⟨_, rfl⟩ | ⟨e, _⟩
  · exact ⟨fun s us ws _ l1 l2 => BindsTo.of_eq (hb kV doc pm an cdv ct us ws l1 l2), fun r1 r2 => hrel r1 r2⟩
  · exact absurd rfl e
end
/-- a def called by position, the values dv of its defaults filling up -/
structure Gdd (P : Program) (w : World) (K : Frag) (mg : Str → Option Value) (base : Heap) (CX : CXT) (k : Nat) (x : Str) (ps : List Str) (dv : List V) (sp : Sp) : Prop where
  ex : ∃ f fd ds, mg x = some (.ref f) ∧ PySem.W.keepIn K (.ref f) = true ∧ Vals dv ds ∧ Binds K fd ps ds ∧ FnOk P w K mg base CX k f fd ps sp
section
variable {P : Program} {w : World} {K : Frag} {mg : Str → Option Value} {base : Heap} {CX : CXT} {x : Str} {st : Stmt} {dfl dv : List V} {N ps : List Str} {k : Nat} {sp : Sp}
theorem Gdd.gd (G : Gdd P w K mg base CX k x ps [] sp) : Gd P w K mg base CX k x ps sp := by
  obtain ⟨f, fd, ds, a, b, c, d, e⟩ := G.ex
  cases c
  exact ⟨f, fd, a, b, d, e⟩
/-- n values are written, the defaults behind the first j fill up -/
theorem Fo.gdd (F : Fo P w K mg base CX k x st dfl [] ps sp) (G : Gsd K mg x st dfl []) (n j : Nat) (hd : dfl ≠ []) (hn : n + (dfl.length - j) = ps.length) (hv : dfl.drop j = dv)
    (h : ∀ (T : Addr) (kV doc pm : Value) (an : Option Addr) (cdv ct : Value) (us its : List Value), us.length = n → its.length = dfl.length →
      ∃ k, bindArgs (PySem.W.fnOf x x (defArgs st) (defBody st) (defScope st) (.ref T) kV doc pm an cdv ct) ⟨us, []⟩ = seqItems? (.ref T) >>= k ∧ k (some its.toArray) = pure (ps.zip (us ++ its.drop j))) : Gdd P w K mg base CX k x ps dv sp := by
  obtain ⟨f, fd, a, D⟩ := G
  obtain ⟨ds, v, b⟩ := D.binds1 n j hd hn h
  subst hv
  exact ⟨f, fd, ds, a, D.kp, v, b, F f fd D⟩
/-- with keywords: g puts the positional values, the defaults' values and the keywords' values in order -/
theorem Fo.gkd (F : Fo P w K mg base CX k x st dfl [] ps sp) (G : Gsd K mg x st dfl []) (n : Nat) (ks : List Str) (g : {α : Type} → List α → List α → List α → List α) (hd : dfl ≠ [])
    (hrel : ∀ {vs ds zs : List V} {us its ws : List Value}, Vals vs us → Vals ds its → Vals zs ws → Vals (g vs ds zs) (g us its ws))
    (h : ∀ (T : Addr) (kV doc pm : Value) (an : Option Addr) (cdv ct : Value) (us its ws : List Value), us.length = n → its.length = dfl.length → ws.length = ks.length →
      ∃ k, bindArgs (PySem.W.fnOf x x (defArgs st) (defBody st) (defScope st) (.ref T) kV doc pm an cdv ct) ⟨us, ks.zip ws⟩ = seqItems? (.ref T) >>= k ∧ k (some its.toArray) = pure (ps.zip (g us its ws))) :
    Gk P w K mg base CX k x n ks (fun vs zs => g vs dfl zs) ps sp := by
  obtain ⟨f, fd, a, D⟩ := G
  have FN := F f fd D
  have kp := D.kp
  obtain ⟨oc, od, dV, kV, doc, pm, an, cdv, ct, osl, rfl, lk, hcd, hD, hK⟩ := D.ex
  rcases hD with ⟨e, _⟩ | ⟨_, T, o, its, m, rfl, lT, oT, rT⟩
  · exact absurd e hd
  refine ⟨f, _, fun us ws => g us its ws, a, kp, ⟨fun s us ws X l1 l2 => ?_, fun r1 r2 => hrel r1 rT r2⟩, FN⟩
  obtain ⟨k, e1, e2⟩ := h T kV doc pm an cdv ct us its ws l1 rT.length.symm l2
  exact BindsTo.of_looks fun M => by
    rw [e1]
    exact looks_items X lT oT (.of_pure e2)
end
theorem pe_gd {X : Cx} {CX : CXT} {E : XK} {k : Nat} {x : Str} {ps : List Str} {dv : List V} {sp : Sp} {e : Expr} {es : List Expr} {p pos : Pos} {t : TA} (G : Gdd X.prog X.w X.K X.mg X.base CX k x ps dv sp) (hr : Room k X.A) (hx : Passes CX X E) (ha : PA X (e :: es) t)
    (hg : Gl X x := by rfl) (hdb : (x == ("__debug__" : Str)) = false := by decide) (he : starEach (e :: es) X.env = (false, eval e X.env) :: starEach es X.env := by rfl) (hpl : (backTo pos (starEach es X.env)).any (·.1) = false := by rfl) :
    PE X (.Call (.Name x p) (e :: es) [] pos) (tCall sp dv E t) := by
  obtain ⟨f, fd, ds, a, b, c, d, F⟩ := G.ex
  exact pe_call F hr hg a b d c hx ha hdb he hpl
/-- what a def lets out, on to the caller's own way -/
theorem passE {X : Cx} {E : XK} (tk : Takes X (fun cls d _ H => E cls d H)) : Passes (L2.CX X.prog X.w) X E := passes_call tk fun _ _ _ _ h => h
section
variable {X : Cx} {CX : CXT} {E : XK} {k n : Nat} {x : Str} {ps ks : List Str} {sp : Sp} {e : Expr} {es : List Expr} {kws : List Keyword} {p pos : Pos} {t tk : TA} {gV : List V → List V → List V}
theorem pe_gk (G : Gk X.prog X.w X.K X.mg X.base CX k x n ks gV ps sp) (hr : Room k X.A) (hx : Passes CX X E) (ha : PA X (e :: es) t) (hkw : PK X kws tk) (hg : Gl X x := by rfl)
    (hall : (backToKw pos (keywordEach kws X.env)).all (·.1.isSome) = true := by rfl) (hks : (backToKw pos (keywordEach kws X.env)).filterMap (·.1) = ks := by rfl)
    (hdb : (x == ("__debug__" : Str)) = false := by decide) (he : starEach (e :: es) X.env = (false, eval e X.env) :: starEach es X.env := by rfl)
    (hpl : ((backTo pos (starEach (e :: es) X.env)).any (·.1) || (backToKw pos (keywordEach kws X.env)).any (·.1.isNone)) = false := by rfl) :
    PE X (.Call (.Name x p) (e :: es) kws pos) (tCallN n ks.length sp gV E t tk) := by
  obtain ⟨f, fd, g, a, b, c, F⟩ := G.ex
  exact pe_callN F hr hg a b c hx ha hkw hall hks hdb he hpl
theorem pe_gk0 (G : Gk X.prog X.w X.K X.mg X.base CX k x 0 ks gV ps sp) (hr : Room k X.A) (hx : Passes CX X E) (hkw : PK X kws tk) (hg : Gl X x := by rfl)
    (hall : (backToKw pos (keywordEach kws X.env)).all (·.1.isSome) = true := by rfl) (hks : (backToKw pos (keywordEach kws X.env)).filterMap (·.1) = ks := by rfl)
    (hdb : (x == ("__debug__" : Str)) = false := by decide)
    (hpl : ((backTo pos (starEach [] X.env)).any (·.1) || (backToKw pos (keywordEach kws X.env)).any (·.1.isNone)) = false := by rfl) :
    PE X (.Call (.Name x p) [] kws pos) (tCallN 0 ks.length sp gV E tNil tk) := by
  obtain ⟨f, fd, g, a, b, c, F⟩ := G.ex
  refine ⟨fun pins s σ H Q I h => ?_⟩
  refine wpAny_Call_Name_kw (ld_glob I hg a ?_ hdb)
  refine PySem.W.callWith_KW0 (h₀ := X.base) I.ok.mod.kin b hall ?_ hpl
  refine thn (hkw.run pos pins s σ H _ I h) fun ws s2 ⟨zs, H2, I2, rz, l1, l2, q2⟩ => ⟨I2.kIn, ?_⟩
  rw [hks]
  exact run_fnN (us := []) (vs := []) F hr c hx I2 .nil rz rfl l2 q2
end
/-! ### data -/
mutual
theorem Dp.to {K : Frag} {H H' : Hp} (e : Same H H') : ∀ {v : V} {d : PyData}, Dp K H v d → Dp K H' v d
  | _, _, .non => .non
  | _, _, .bl b => .bl b
  | _, _, .int i => .int i
  | _, _, .str x => .str x
  | _, _, .lst h a => .lst (e.seq h) (DpAll.to e a)
  | _, _, .tup h a => .tup (Same.tup e h) (DpAll.to e a)
theorem DpAll.to {K : Frag} {H H' : Hp} (e : Same H H') : ∀ {vs : List V} {ds : List PyData}, DpAll K H vs ds → DpAll K H' vs ds
  | _, _, .nil => .nil
  | _, _, .cons h t => .cons (Dp.to e h) (DpAll.to e t)
end
theorem DpAll.len {K : Frag} {H : Hp} : ∀ {vs : List V} {ds : List PyData}, DpAll K H vs ds → vs.length = ds.length
  | _, _, .nil => rfl
  | _, _, .cons _ t => congrArg Nat.succ (DpAll.len t)
theorem DpAll.at {K : Frag} {H : Hp} : ∀ {vs : List V} {ds : List PyData} {i : Nat} {d : PyData}, DpAll K H vs ds → ds[i]? = some d → ∃ v, vs[i]? = some v ∧ Dp K H v d
  | _, _, _, _, .nil, e => by simp at e
  | _, _, 0, d, .cons (v := v) h _, e => ⟨v, rfl, by simp at e; subst e; exact h⟩
  | _, _, i + 1, d, .cons _ t, e => by
    obtain ⟨v, h1, h2⟩ := DpAll.at (i := i) (d := d) t (by simpa using e)
    exact ⟨v, by simpa using h1, h2⟩
/-! ### a heap without its bag -/
def Hx (p : Addr) (H : Hp) : Hp := fun b => if b = p then none else H b
theorem Hx.sub {p : Addr} {H : Hp} : Same (Hx p H) H := fun b o e => by
  unfold Hx at e
  split at e
  · cases e
  · exact e
theorem Hx.ne {p b : Addr} {H : Hp} (h : b ≠ p) : Hx p H b = H b := by
  unfold Hx
  rw [if_neg h]
theorem Hx.self {p : Addr} {H : Hp} : Hx p H p = none := by
  unfold Hx
  rw [if_pos rfl]
/-- all but p is as it was -/
abbrev SameX (p : Addr) (H H' : Hp) : Prop := Same (Hx p H) (Hx p H')
theorem SameX.of {p : Addr} {H H' : Hp} (h : ∀ b o, b ≠ p → H b = some o → H' b = some o) : SameX p H H' := fun b o e => by
  by_cases hb : b = p
  · subst hb
    rw [Hx.self] at e
    cases e
  · rw [Hx.ne hb] at e ⊢
    exact h b o hb e
theorem SameX.at {p b : Addr} {H H' : Hp} {o : HO} (h : SameX p H H') (hb : b ≠ p) (e : H b = some o) : H' b = some o := by
  have q := h b o (by rw [Hx.ne hb]; exact e)
  rw [Hx.ne hb] at q
  exact q
theorem SameX.same {p : Addr} {H H' : Hp} (h : Same H H') : SameX p H H' := .of fun b o _ e => h b o e
/-- the bag of the draws -/
structure BagAt (H : Hp) (p l : Addr) : Prop where
  ex : ∃ (i rest seed : Int) (ns : List Int), H p = some (.lst [.ref l, .int i, .int rest, .int seed]) ∧ H l = some (.lst (ns.map V.int)) ∧ 0 ≤ i ∧ 0 ≤ rest ∧ 0 ≤ seed ∧ seed < 2147483647
theorem BagAt.to {H H' : Hp} {p l : Addr} (B : BagAt H p l) (h : Same H H') : BagAt H' p l := by
  obtain ⟨i, r, s, ns, a, b, c⟩ := B.ex
  exact ⟨i, r, s, ns, h _ _ a, h _ _ b, c⟩
def spBag (K : Frag) : Sp := fun vs H Q _ => ∃ (a : Addr) (ns : List Int), vs = [.ref a] ∧ SqL K H a (ns.map V.int) ∧ ∀ p l H', H p = none → Same H H' → BagAt H' p l → Q (.ref p) H'
def spPull : Sp := fun vs H Q _ => ∃ (p l : Addr) (n : Int), vs = [.ref p, .int n] ∧ BagAt H p l ∧ 0 < n ∧ n < 2 ^ 100 ∧ ∀ (r : Int) H', 0 ≤ r → r < n → SameX p H H' → BagAt H' p l → Q (.int r) H'
/-- a list or a tuple -/
def SqA (K : Frag) (H : Hp) (a : Addr) (xs : List V) : Prop := SqL K H a xs ∨ SqT K H a xs
theorem SqA.to {K : Frag} {H H' : Hp} {a : Addr} {xs : List V} (e : Same H H') (h : SqA K H a xs) : SqA K H' a xs := h.elim (fun h => .inl (e.seq h)) fun h => .inr (Same.tup e h)
def spOf (K : Frag) : Sp := fun vs H Q _ => ∃ (p l a : Addr) (xs : List V), vs = [.ref p, .ref a] ∧ BagAt H p l ∧ SqA K (Hx p H) a xs ∧ xs ≠ [] ∧ (xs.length : Int) < 2 ^ 100 ∧ ∀ x ∈ xs, ∀ H', SameX p H H' → BagAt H' p l → Q x H'
end Fs
set_option Elab.async false
set_option linter.all false
set_option maxRecDepth 100000
set_option maxHeartbeats 8000000
namespace Fs
open PySem PySem.Spec PyProof.Rows L2
/-! ### types of data -/
inductive Tg | list | tuple | dict | bool | int | str
def Tg.nm : Tg → String
  | .list => "list" | .tuple => "tuple" | .dict => "dict" | .bool => "bool" | .int => "int" | .str => "str"
def tyD : PyData → String
  | .none => "NoneType" | .bool _ => "bool" | .int _ => "int" | .str _ => "str" | .list _ => "list" | .tuple _ => "tuple" | .dict _ => "dict"
def isT : Tg → PyData → Bool
  | .list, .list _ => true
  | .tuple, .tuple _ => true
  | .dict, .dict _ => true
  | .bool, .bool _ => true
  | .int, .bool _ => true
  | .int, .int _ => true
  | .str, .str _ => true
  | _, _ => false
theorem isT_kit (t : Tg) (d : PyData) : kitB (tyD d) t.nm = some (isT t d) := by
  cases t <;> cases d <;> simp only [tyD, Tg.nm, isT] <;> decide +kernel
theorem SqL.ty {K : Frag} {H : Hp} {a : Addr} {xs : List V} (h : SqL K H a xs) : TyX K H (.ref a) (.type "list") := by
  rcases h with (h | ⟨o, h⟩) | ⟨o, its, n, h1, h2, _⟩
  · exact .base (.lst h)
  · exact .base (.frz h)
  · exact .kList h1 h2
theorem SqT.ty {K : Frag} {H : Hp} {a : Addr} {xs : List V} (h : SqT K H a xs) : TyX K H (.ref a) (.type "tuple") := by
  rcases h with (h | ⟨o, h⟩) | ⟨o, its, n, h1, h2, _⟩
  · exact .base (.tup h)
  · exact .fTuple h
  · exact .kTuple h1 h2
theorem Dp.ty {K : Frag} {H : Hp} {v : V} {d : PyData} (h : Dp K H v d) : TyX K H v (.type (tyD d)) := by
  cases h with
  | non => exact .base .non
  | bl b => exact .base (.bl b)
  | int i => exact .base (.int i)
  | str x => exact .base (.str x)
  | lst h _ => exact SqL.ty h
  | tup h _ => exact SqT.ty h
section
variable {X : Cx}
/-- isinstance(x, T) of data -/
def rIsD (K : Frag) : List V → Hp → VK → Prop := fun xs H Q => ∃ (x : V) (t : Tg) (d : PyData), xs = [x, .ty t.nm] ∧ Dp K H x d ∧ Q (.bl (isT t d)) H
theorem call_isD : CallR X (.builtin "isinstance") (rIsD X.K) := by
  intro pins s σ H xs us Q I r h
  obtain ⟨x, t, d, rfl, hd, q⟩ := h
  exact call_isi pins s σ H _ us Q I r ⟨x, _, _, _, _, rfl, .ty _, Dp.ty hd, kit_ty (isT_kit t d), q⟩
/-- isinstance(x, (S, T)) -/
def rIsD2 (K : Frag) : List V → Hp → VK → Prop := fun xs H Q => ∃ (x : V) (p : Addr) (t u : Tg) (d : PyData), xs = [x, .ref p] ∧ H p = some (.tup [.ty t.nm, .ty u.nm]) ∧ Dp K H x d ∧ Q (.bl (isT t d || isT u d)) H
theorem call_isD2 : CallR X (.builtin "isinstance") (rIsD2 X.K) := by
  intro pins s σ H xs us Q I r h
  obtain ⟨x, p, t, u, d, rfl, hp, hd, q⟩ := h
  refine call_isiT pins s σ H _ us Q I r ⟨x, p, _, _, [.type t.nm, .type u.nm], isT t d || isT u d, rfl, hp, .cons (.ty _) (.cons (.ty _) .nil), Dp.ty hd, ?_, q⟩
  refine kitAny_cons (kit_ty (isT_kit t d)) (fun e => ?_) (fun e => by rw [e]; rfl)
  rw [e, Bool.false_or]
  refine kitAny_cons (kit_ty (isT_kit u d)) (fun e => ?_) (fun e => e)
  rw [e]
  rfl
/-- an item of a list or a tuple -/
def rIxA (K : Frag) : R2 := fun x y H Q => ∃ (a : Addr) (xs : List V) (i : Int) (v : V), x = .ref a ∧ y = .int i ∧ SqA K H a xs ∧ atI xs i = some v ∧ Q v H
theorem ix_any : IxR X (rIxA X.K) := by
  intro value slice pins s σ H x y v u Q I rx ry h
  obtain ⟨a, xs, i, z, rfl, rfl, hs, e, q⟩ := h
  rcases hs with hs | hs
  · exact ix_list value slice pins s σ H _ _ v u Q I rx ry ⟨a, xs, i, z, rfl, rfl, hs, e, q⟩
  · exact ix_tup value slice pins s σ H _ _ v u Q I rx ry ⟨a, xs, i, z, rfl, rfl, hs, e, q⟩
end
theorem ix_anyK {X : Cx} (K : Frag) (hK : X.K = K := by rfl) : IxR X (rIxA K) := by
  subst hK
  exact ix_any
theorem call_isDK {X : Cx} (K : Frag) (hK : X.K = K := by rfl) : CallR X (.builtin "isinstance") (rIsD K) := by
  subst hK
  exact call_isD
/-! ### what a datum is made of -/
/-- the items of a list or a tuple -/
def itemsD : PyData → List PyData
  | .list ds => ds
  | .tuple ds => ds
  | _ => []
theorem depth_at : ∀ {ds : List PyData} {i : Nat} {d : PyData}, ds[i]? = some d → d.depth ≤ PyData.depthAll ds
  | [], _, _, h => by simp at h
  | x :: xs, 0, d, h => by
    simp at h
    subst h
    show x.depth ≤ max x.depth (PyData.depthAll xs)
    omega
  | x :: xs, i + 1, d, h => by
    have ih := depth_at (ds := xs) (i := i) (d := d) (by simpa using h)
    show d.depth ≤ max x.depth (PyData.depthAll xs)
    omega
theorem replicate_more {α : Type} (i : Nat) (x : α) : List.replicate i x ++ [x] = List.replicate (i + 1) x := by
  rw [List.replicate_succ', ]
/-- a list that grows at D, new beside H -/
theorem same_grow {H H' : Hp} {D : Addr} {o : HO} (s : Same H H') (nD : H D = none) : Same H (upd H' D o) := fun c u e => by
  rw [upd_ne (ne_of_none e nD)]
  exact s c u e
theorem all_true (n : Nat) : (List.replicate n true).all id = true := by
  induction n with
  | zero => rfl
  | succ n ih => rw [List.replicate_succ, List.all_cons, ih]; rfl
/-- not deeper than n levels, nowhere wider than a million -/
def Fit : Nat → PyData → Prop
  | 0, _ => False
  | n + 1, d => (itemsD d).length ≤ 1000000 ∧ ∀ e ∈ itemsD d, Fit n e
theorem Fit.mono : ∀ {n m : Nat} {d : PyData}, Fit n d → n ≤ m → Fit m d
  | 0, _, _, h, _ => h.elim
  | n + 1, 0, _, _, h => by omega
  | n + 1, m + 1, d, h, l => ⟨h.1, fun e he => Fit.mono (h.2 e he) (by omega)⟩
/-- both stand for the same datum -/
def spSame (K : Frag) (n : Nat) : Sp := fun vs H Q _ => ∃ (x y : V) (d : PyData), vs = [x, y] ∧ Dp K H x d ∧ Dp K H y d ∧ Fit n d ∧ ∀ H', Same H H' → Q (.bl true) H'
/-- a sequence's items -/
theorem Dp.seq {K : Frag} {H : Hp} {v : V} {d : PyData} (h : Dp K H v d) (e : (isT .list d || isT .tuple d) = true) : ∃ a xs, v = .ref a ∧ SqA K H a xs ∧ DpAll K H xs (itemsD d) := by
  cases h with
  | lst hs ha => exact ⟨_, _, rfl, .inl hs, ha⟩
  | tup hs ha => exact ⟨_, _, rfl, .inr hs, ha⟩
  | non => cases e
  | bl b => cases e
  | int i => cases e
  | str x => cases e
theorem iteB {c : Bool} {A B : Prop} (h1 : c = true → A) (h2 : c = false → B) : if c = true then A else B := by
  cases c with
  | true => exact iteT (h1 rfl)
  | false => exact iteF (h2 rfl)
theorem tYes_of {A B : Hp → Prop} {σ : L2.St} {H : Hp} (h : A H) : tYes σ H fun b H3 => if b = true then A H3 else B H3 := h
theorem ite_of {c : Bool} {A B : Prop} (e : c = true) (h : A) : if c = true then A else B := by
  rw [if_pos e]
  exact h
theorem ite_no {c : Bool} {A B : Prop} (e : c = false) (h : B) : if c = true then A else B := by
  rw [e]
  exact iteF h
/-- a comprehension without tests whose element computes f i and leaves what stood -/
theorem lc_pure {J : It} {n : Nat} {G : Hp → Prop} {Y : Nat → Hp → V → Hp → Prop} (w : Walk J n G Y) {g : TG} {te : TE} {vs : List Nat} {σ : L2.St} {H1 : Hp} {D : Addr} {Qd : Hp → Prop} (f : Nat → V) (nD : H1 D = none) (hn : n ≤ 1000000) (hG : ∀ H, Same H1 H → G H)
    (hY : ∀ i H x H', i < n → Y i H x H' → Same H H')
    (hs : ∀ i x H H' (Kt : V → Hp → Prop), i < n → Same H1 H → Y i H x H' → (∀ H4, Same H' H4 → Kt (f i) H4) → g x (wipe σ vs) H' fun σ2 H2 => wipe σ2 vs = wipe σ vs ∧ te σ2 H2 Kt)
    (hg : ∀ x σ H (A B : L2.St → Hp → Prop), (∀ σ H, A σ H → B σ H) → g x σ H A → g x σ H B)
    (hd : ∀ H, Same H1 H → H D = some (.lst ((List.range n).map f)) → Qd H) :
    ∃ W : Nat → Nat → Hp → Prop, (∃ m, W 0 m (upd H1 D (.lst []))) ∧ ∀ i m H, W i m H →
      (J.stop i H ∧ Qd H) ∨ (J.go i H ∧ ∃ Nx : Hp → Prop, (∀ H', Nx H' → ∃ m', m' < m ∧ W (i + 1) m' H') ∧ ∀ x H', J.yld i H x H' → g x (wipe σ vs) H' fun σ2 H2 => wipe σ2 vs = wipe σ vs ∧ tYes σ2 H2 fun b H3 =>
        if b = true then te σ2 H3 fun y H4 => ∃ acc, H4 D = some (.lst acc) ∧ acc.length < sizeLine ∧ Nx (upd H4 D (.lst (acc ++ [y]))) else Nx H3) := by
  refine lc_it w (fun i H => Same H1 H ∧ H D = some (.lst ((List.range i).map f))) ⟨same_new nD _, upd_same⟩ (fun i H _ ⟨s, _⟩ => hG H s) (fun i x H H' hi ⟨s, hD⟩ y => ?_) (fun H ⟨s, hD⟩ => hd H s hD)
  have z := hs i x H H' (fun y H4 => ∃ acc, H4 D = some (.lst acc) ∧ acc.length < sizeLine ∧ Same H1 (upd H4 D (.lst (acc ++ [y]))) ∧ (upd H4 D (.lst (acc ++ [y]))) D = some (.lst ((List.range (i + 1)).map f))) hi s y (fun H4 s4 => ?_)
  · refine hg _ _ _ _ _ (fun σ2 H2 h => ?_) z
    exact ⟨h.1, tYes_of h.2⟩
  · refine ⟨_, s4 _ _ (hY i H x H' hi y _ _ hD), ?_, same_grow (s.trans ((hY i H x H' hi y).trans s4)) nD, ?_⟩
    · rw [List.length_map, List.length_range, sizeLine_eq]
      omega
    · rw [upd_same, List.range_succ, List.map_append]
      rfl
/-- targets that let more through -/
theorem gName_mono (i : Nat) : ∀ x σ H (A B : L2.St → Hp → Prop), (∀ σ H, A σ H → B σ H) → gName i x σ H A → gName i x σ H B := fun _ _ _ _ _ k h => k _ _ h
theorem YAt_same {xs : List V} {n : Nat} : ∀ i H x H', i < n → YAt xs i H x H' → Same H H' := fun _ _ _ _ _ h => by
  rw [h.1]
  exact Same.refl _
theorem YFn_same {f : Nat → V} {n : Nat} : ∀ i H x H', i < n → YFn f i H x H' → Same H H' := fun _ _ _ _ _ h => by
  rw [h.1]
  exact Same.refl _
theorem bls {n : Nat} {f : Nat → Bool} : ((List.range n).map f).map V.bl = (List.range n).map fun i => V.bl (f i) := by
  rw [List.map_map]
  rfl
/-! ### what never changes: tuples -/
def Imm (H H' : Hp) : Prop := ∀ b xs, Rd H b (.tup xs) → Rd H' b (.tup xs)
theorem Imm.refl (H : Hp) : Imm H H := fun _ _ h => h
theorem Imm.trans {H H1 H2 : Hp} (a : Imm H H1) (b : Imm H1 H2) : Imm H H2 := fun c o h => b c o (a c o h)
theorem Imm.same {H H' : Hp} (s : Same H H') : Imm H H' := fun b xs h => by
  rcases h with h | ⟨o, h⟩
  · exact .inl (s _ _ h)
  · exact .inr ⟨o, s _ _ h⟩
theorem Imm.upd {H : Hp} {D : Addr} {acc : List V} {o : HO} (h : H D = some (.lst acc)) : Imm H (L2.upd H D o) := fun b xs e => by
  have ne : b ≠ D := fun z => by
    subst z
    rcases e with e | ⟨o, e⟩ <;> rw [h] at e <;> cases e
  unfold L2.Rd at e ⊢
  rw [upd_ne ne]
  exact e
theorem Imm.bag {p l : Addr} {H H' : Hp} (s : SameX p H H') (B : BagAt H p l) : Imm H H' := fun b xs e => by
  obtain ⟨i, r, sd, ns, hp, _⟩ := B.ex
  have ne : b ≠ p := fun z => by
    subst z
    rcases e with e | ⟨o, e⟩ <;> rw [hp] at e <;> cases e
  rcases e with e | ⟨o, e⟩
  · exact .inl (s.at ne e)
  · exact .inr ⟨o, s.at ne e⟩
mutual
/-- no list within -/
def noL : PyData → Bool
  | .list _ => false
  | .tuple ds => noLs ds
  | .dict _ => false
  | _ => true
def noLs : List PyData → Bool
  | [] => true
  | d :: ds => noL d && noLs ds
end
theorem Imm.tup {K : Frag} {H H' : Hp} {a : Addr} {xs : List V} (e : Imm H H') (h : SqT K H a xs) : SqT K H' a xs := by
  rcases h with h | h
  · exact .inl (e _ _ h)
  · exact .inr h
mutual
theorem Dp.imm {K : Frag} {H H' : Hp} (e : Imm H H') : ∀ {v : V} {d : PyData}, noL d = true → Dp K H v d → Dp K H' v d
  | _, _, _, .non => .non
  | _, _, _, .bl b => .bl b
  | _, _, _, .int i => .int i
  | _, _, _, .str x => .str x
  | _, _, n, .lst h a => by cases n
  | _, _, n, .tup h a => .tup (Imm.tup e h) (DpAll.imm e n a)
theorem DpAll.imm {K : Frag} {H H' : Hp} (e : Imm H H') : ∀ {vs : List V} {ds : List PyData}, noLs ds = true → DpAll K H vs ds → DpAll K H' vs ds
  | _, _, _, .nil => .nil
  | _, _, n, .cons h t => by
    have n' := Bool.and_eq_true_iff.mp n
    exact .cons (Dp.imm e n'.1 h) (DpAll.imm e n'.2 t)
end
theorem BagAt.ne {H : Hp} {p l D : Addr} (B : BagAt H p l) (h : H D = none) : D ≠ p := fun z => by
  obtain ⟨i, r, sd, ns, hp, _⟩ := B.ex
  rw [z, hp] at h
  cases h
theorem BagAt.neL {H : Hp} {p l D : Addr} (B : BagAt H p l) (h : H D = none) : BagAt (upd H D (.lst [])) p l := B.to (same_new h _)
/-- a comprehension without tests that draws: its element i is some v with R i v -/
theorem lc_draw {J : It} {n : Nat} {G : Hp → Prop} {Y : Nat → Hp → V → Hp → Prop} (w : Walk J n G Y) {g : TG} {te : TE} {vs : List Nat} {σ : L2.St} {H1 : Hp} {D p l : Addr} {Qd : Hp → Prop} (R : Nat → V → Hp → Prop) (B : BagAt H1 p l) (nD : H1 D = none) (hn : n ≤ 1000000)
    (hR : ∀ i v H H', Imm H H' → R i v H → R i v H') (hG : ∀ H, SameX p H1 H → G H) (hY : ∀ i H x H', i < n → Y i H x H' → Same H H')
    (hs : ∀ i x H H' (Kt : V → Hp → Prop), i < n → SameX p H1 H' → BagAt H' p l → Y i H x H' → (∀ v H4, SameX p H' H4 → BagAt H4 p l → R i v H4 → Kt v H4) → g x (wipe σ vs) H' fun σ2 H2 => wipe σ2 vs = wipe σ vs ∧ te σ2 H2 Kt)
    (hg : ∀ x σ H (A B : L2.St → Hp → Prop), (∀ σ H, A σ H → B σ H) → g x σ H A → g x σ H B)
    (hd : ∀ H ys, SameX p H1 H → BagAt H p l → H D = some (.lst ys) → ys.length = n → (∀ i v, ys[i]? = some v → R i v H) → Qd H) :
    ∃ W : Nat → Nat → Hp → Prop, (∃ m, W 0 m (upd H1 D (.lst []))) ∧ ∀ i m H, W i m H →
      (J.stop i H ∧ Qd H) ∨ (J.go i H ∧ ∃ Nx : Hp → Prop, (∀ H', Nx H' → ∃ m', m' < m ∧ W (i + 1) m' H') ∧ ∀ x H', J.yld i H x H' → g x (wipe σ vs) H' fun σ2 H2 => wipe σ2 vs = wipe σ vs ∧ tYes σ2 H2 fun b H3 =>
        if b = true then te σ2 H3 fun y H4 => ∃ acc, H4 D = some (.lst acc) ∧ acc.length < sizeLine ∧ Nx (upd H4 D (.lst (acc ++ [y]))) else Nx H3) := by
  have nDp := B.ne nD
  refine lc_it w (fun i H => SameX p H1 H ∧ BagAt H p l ∧ ∃ ys, H D = some (.lst ys) ∧ ys.length = i ∧ ∀ j v, ys[j]? = some v → R j v H) ⟨SameX.same (same_new nD _), B.neL nD, [], upd_same, rfl, fun j v e => by simp at e⟩ (fun i H _ ⟨s, _⟩ => hG H s) (fun i x H H' hi ⟨s, BH, ys, hD, hl, hr⟩ y => ?_) (fun H ⟨s, BH, ys, hD, hl, hr⟩ => hd H ys s BH hD hl hr)
  have sy := hY i H x H' hi y
  have z := hs i x H H' (fun y H4 => ∃ acc, H4 D = some (.lst acc) ∧ acc.length < sizeLine ∧ SameX p H1 (upd H4 D (.lst (acc ++ [y]))) ∧ BagAt (upd H4 D (.lst (acc ++ [y]))) p l ∧ ∃ ys, (upd H4 D (.lst (acc ++ [y]))) D = some (.lst ys) ∧ ys.length = i + 1 ∧ ∀ j v, ys[j]? = some v → R j v (upd H4 D (.lst (acc ++ [y])))) hi (s.trans (SameX.same sy)) (BH.to sy) y (fun v H4 s4 B4 r4 => ?_)
  · refine hg _ _ _ _ _ (fun σ2 H2 h => ?_) z
    exact ⟨h.1, tYes_of h.2⟩
  · have h4 : H4 D = some (.lst ys) := s4.at nDp (sy _ _ hD)
    refine ⟨ys, h4, by rw [hl, sizeLine_eq]; omega, SameX.of fun b o hb e => ?_, ?_, ys ++ [v], upd_same, by rw [List.length_append, hl]; rfl, fun j u e => ?_⟩
    · rw [upd_ne (ne_of_none e nD)]
      exact s4.at hb ((SameX.same sy).at hb (s.at hb e))
    · obtain ⟨a, b, c, ns, hp, hls, k⟩ := B4.ex
      obtain ⟨a', b', c', ns', hp', hl', _⟩ := B.ex
      refine ⟨a, b, c, ns, ?_, ?_, k⟩
      · rw [upd_ne (fun z => nDp z.symm)]
        exact hp
      · rw [upd_ne (ne_of_none hl' nD)]
        exact hls
    · have I1 : Imm H (upd H4 D (.lst (ys ++ [v]))) := (Imm.same sy).trans ((Imm.bag s4 (BH.to sy)).trans (Imm.upd h4))
      by_cases hj : j < ys.length
      · rw [List.getElem?_append_left hj] at e
        exact hR _ _ _ _ I1 (hr _ _ e)
      · have ej : j = ys.length := by
          have := (List.getElem?_eq_some_iff.mp e).1
          rw [List.length_append, List.length_singleton] at this
          omega
        subst ej
        rw [List.getElem?_append_right (Nat.le_refl _), Nat.sub_self] at e
        have e2 : v = u := Option.some.inj e
        subst e2
        rw [hl]
        exact hR _ _ _ _ (Imm.upd h4) r4
theorem at_z {K : Frag} {H : Hp} {a : Addr} {xs : List V} (h : H a = some (.lst xs)) : SqL K H a xs := .inl (.inl h)
theorem cutN (xs : List V) (n : Nat) : cutV xs none (some (n : Int)) = xs.take n := by
  unfold cutV
  rw [HT.sIx_none, HT.sIx_nat]
  show List.take (min n xs.length - 0) xs = _
  rw [Nat.sub_zero]
  by_cases h : n ≤ xs.length
  · rw [Nat.min_eq_left h]
  · rw [Nat.min_eq_right (by omega), List.take_of_length_le (Nat.le_refl _), List.take_of_length_le (by omega)]
/-- law's promise: True -/
def spLaw (K : Frag) : Sp := fun vs H Q _ => ∃ (a : Addr) (ns : List Int), vs = [.ref a] ∧ SqL K H a (ns.map V.int) ∧ ns.length ≤ 63 ∧ ∀ H', Q (.bl true) H'
abbrev dD (x : Str) (st : Stmt) : He.DefD := ⟨(x, none), x, x, defArgs st, defBody st, defScope st, [], []⟩
theorem gs_of {fa : List He.Fa} {fn : List He.DefD} {K : Frag} {h : Heap} {mg : Str → Option Value} (X : K.In h) (G : h.Ns mainGlobals mg) (c : He.SaysD fa fn K) (i j : Nat) (x : Str) (st : Stmt) (hi : fn[i]? = some (dD x st)) (hj : fa[j]? = some (.glo x)) : Gs K mg x st := by
  obtain ⟨fd, F⟩ := c.def_ i hi
  exact ⟨_, fd, He.glo_ok X G (c.fact j hj), F⟩
theorem free_of {fa : List He.Fa} {fn : List He.DefD} {K : Frag} {h : Heap} {mg : Str → Option Value} (X : K.In h) (G : h.Ns mainGlobals mg) (c : He.SaysD fa fn K) (j : Nat) (x : Str) (hj : fa[j]? = some (.free x)) : mg x = none := He.free_ok X G (c.fact j hj)
end Fs
set_option Elab.async false
set_option linter.all false
set_option maxRecDepth 100000
set_option maxHeartbeats 8000000
namespace Fs
open PySem PySem.Spec PyProof.Rows L2
def top (i : Nat) : Stmt := PySem.Challenge.pw_framesure_k18_lines_of_expressions.main.body.getD i (.Pass ⟨0, 0, 0, 0⟩)
end Fs
set_option Elab.async false
set_option linter.all false
set_option maxRecDepth 100000
set_option maxHeartbeats 8000000
namespace Fs
open PySem PySem.Spec PyProof.Rows L2
section
open PySem.Froz
/-- the set at a holds the texts l -/
def TxR (P : Program) (w : World) (h : Heap) (a : Addr) (l : List Str) : Prop :=
  ∃ (es : Array (Int × Value)) (ep : Nat) (t : SetTable), h.get? a = some (sObj "set" (es, ep, t)) ∧ TxOk P w (es, ep, t) l ∧ Ris t.place.toList ∧ (w.params.followText "set-order" = true ∨ t.led = true)
theorem TxR.at {P : Program} {w : World} {h h' : Heap} {a : Addr} {l : List Str} (R : TxR P w h a l) (k : ∀ o, h.get? a = some o → h'.get? a = some o) : TxR P w h' a l := by
  obtain ⟨es, ep, t, ho, r⟩ := R
  exact ⟨es, ep, t, k _ ho, r⟩
theorem addTx_ris {h : Int} {v : Value} {D : SD} (r : Ris D.2.2.place.toList) : Ris (addTx h v D).2.2.place.toList ∧ (addTx h v D).2.2.led = D.2.2.led := by
  have r1 := layNew_ris D.2.2 D.1 h v r
  have l1 := layNew_led D.2.2 D.1 h v
  unfold addTx
  generalize layNew D.2.2 D.1 h v = Z at r1 l1 ⊢
  obtain ⟨es1, t1, wd, gv⟩ := Z
  dsimp only at r1 l1 ⊢
  have r2 : Ris (if t1.plain = true then { t1 with plain := false } else t1).place.toList ∧ (if t1.plain = true then { t1 with plain := false } else t1).led = D.2.2.led := by
    split
    · exact ⟨r1, l1⟩
    · exact ⟨r1, l1⟩
  generalize (if t1.plain = true then { t1 with plain := false } else t1) = t2 at r2 ⊢
  unfold tailTx
  split
  · exact ⟨relayAll_ris t2 es1 _, (relayAll_led t2 es1 _).trans r2.2⟩
  · exact r2
def insS (l : List Str) (k : Str) : List Str := if k ∈ l then l else k :: l
theorem insS_le (l : List Str) (k : Str) : (insS l k).length ≤ l.length + 1 := by
  unfold insS
  split <;> simp
section
variable {P : Program} {w : World} {A : Around} {E : Value → Shared → Prop} {s : Shared}
theorem txr_add {a : Addr} {l : List Str} {k : Str} {u : Tok} {Q : Bool → Shared → Prop} (R : TxR P w s.heap a l) (hb : l.length + 1 < scanBound)
    (h : ∀ b h', Heap.SameBut a s.heap h' → TxR P w h' a (insS l k) → Q b { s with heap := h' }) : wpAny (model P w) A (setAddHashed a (.str k u) (hashStr w k)) Q E s := by
  obtain ⟨es, ep, t, ho, F, r, hl⟩ := R
  by_cases c : k ∈ l
  · have hd : (sObj "set" (es, ep, t)).data = .set es ep t := rfl
    have hf : t.fits es.size = true := F.fit
    have hel : ElemsOf (strKind P w) es.toList := F.el
    have hsz : es.size = l.length := F.sz
    have hb0 : es.size < scanBound := by omega
    have hkey : (strKind P w).is k (.str k u) = true := is_str k u
    unfold setAddHashed setAddHashedIn
    refine wpAny_holding (wpAny_bind (wpAny_setState_of ho hd hf ?_))
    dsimp only
    rw [byScan_of rfl hb0 hel]
    simp only [↓reduceIte]
    unfold setAddByScan
    refine wpAny_bind ?_
    refine wpAny_bind (wpAny_rule ?_)
    refine wpAny_bind (wpAny_setScan_of (knd := strKind P w) (k := k) hkey ho hd hf hel ?_)
    cases hfi : List.findIdx? (fun e => (strKind P w).is k e.2) es.toList with
    | some j =>
      refine wpAny_pure (wpAny_pure ?_)
      refine h _ s.heap (Heap.SameBut.refl a s.heap) ⟨es, ep, t, ho, ?_, r, hl⟩
      unfold insS
      rw [if_pos c]
      exact F
    | none =>
      obtain ⟨e, he, q⟩ := (F.mem k).mp c
      have z := List.findIdx?_eq_none_iff.mp hfi e he
      rw [q] at z
      cases z
  · refine add_x ho F c hb ?_
    obtain ⟨r2, l2⟩ := addTx_ris (h := hashStr w k) (v := .str k u) (D := (es, ep, t)) r
    refine h true _ (Heap.SameBut.update s.heap a _) ⟨_, _, _, get_upd _ ho rfl, ?_, r2, hl.imp id fun z => l2.trans z⟩
    unfold insS
    rw [if_neg c]
    exact add_ok u F
end
section
variable {prog : Program} {w : World} {A : Around} {R : Result → Shared → Prop} {I : Addr} {fp wr : List Addr} {G : Array GenState → Array GenState → Prop} {n : Nat} {P : Nat → Value → Prop} {St : Nat → Shared → Prop}
/-- the update walks the texts ks -/
theorem tset_walk (W : WalksS prog w A.in1 I fp wr G n P St) (S : Addr) (hSf : S ∉ fp) (ks : List Str) (hn : ks.length = n) (hval : ∀ i v, P i v → ∃ k u, ks[i]? = some k ∧ v = .str k u) (hb : n + 1 < scanBound) :
    ∀ (m i : Nat) (s : Shared) (l : List Str), n - i = m → i ≤ n → St i s → l.length ≤ i → TxR prog w s.heap S l →
      (∀ s', Moved (S :: wr) G s s' → TxR prog w s'.heap S ((ks.drop i).foldl insS l) → R (.ok (.ret .none)) s') →
      codeAny (model prog w) A (.builtin "set.update.loop" ⟨[.ref S, .ref I], []⟩) R s := by
  have off : S ∉ wr := fun z => hSf (W.sub _ z)
  have more : ∀ b ∈ wr, b ∈ S :: wr := fun b z => List.mem_cons_of_mem _ z
  intro m
  induction m with
  | zero =>
    intro i s l hm hi hst hl hS hR
    obtain rfl : i = n := by omega
    refine codeAny_builtin PyProof.Rows.F.entry_set_update_loop ?_
    rw [Around.under_plainId PyProof.Rows.F.plain_set_update_loop _]
    show wpAny _ A.in1 (pyNext (.ref I) >>= _) _ _ s
    refine wpAny_bind (W.done s _ _ hst fun s' mv => ?_)
    show wpAny _ A.in1 (ret Value.none) _ _ s'
    refine wpAny_pure (hR s' (mv.mono more) ?_)
    rw [List.drop_of_length_le (by omega)]
    exact hS.at fun o e => mv.heap S _ off e
  | succ m ih =>
    intro i s l hm hi hst hl hS hR
    have lt : i < n := by omega
    refine codeAny_builtin PyProof.Rows.F.entry_set_update_loop ?_
    rw [Around.under_plainId PyProof.Rows.F.plain_set_update_loop _]
    show wpAny _ A.in1 (pyNext (.ref I) >>= _) _ _ s
    refine wpAny_bind (W.item i s _ _ lt hst fun v s' hP hst' mv => ?_)
    obtain ⟨k, u, hk, rfl⟩ := hval i v hP
    have hS1 : TxR prog w s'.heap S l := hS.at fun o e => mv.heap S _ off e
    show wpAny _ A.in1 (holding [Value.str k u] (setAdd S (.str k u)) >>= _) _ _ s'
    refine wpAny_bind (wpAny_holding ?_)
    unfold setAdd
    refine wpAny_holding ?_
    refine wpAny_bind ((strKind prog w).pyHash (k := k) (is_str k u) ?_)
    refine txr_add (s := { s' with toks := s'.toks + 1 }) hS1 (by omega) fun b h2 sb hS2 => ?_
    have ed : ks.drop i = k :: ks.drop (i + 1) := by
      obtain ⟨h, e⟩ := List.getElem?_eq_some_iff.mp hk
      rw [← e]
      exact List.drop_eq_getElem_cons h
    rw [ed] at hR
    refine wpAny_pure ⟨plainId_quiet PyProof.Rows.F.plain_set_update_loop _, ih (i + 1) _ (insS l k) (by omega) lt (W.frame _ s' _ _ hst' (Nat.le_succ _) fun b z o e => ?_) (Nat.le_trans (insS_le l k) (by omega)) hS2 fun s3 mv3 hS4 => hR s3 ?_ hS4⟩
    · rw [sb.2 b fun c => hSf (c ▸ z)]
      exact e
    · refine Moved.trans W.gtrans ((mv.mono more).then_heap (Nat.le_succ _) fun b o z e => ?_) mv3
      rw [sb.2 b fun c => z (c ▸ List.mem_cons_self)]
      exact e
end
section
variable {prog : Program} {w : World} {A : Around} {E : Value → Shared → Prop} {s : Shared}
theorem txt_at {ks : List Str} {its : List Value} (r : Vals (ks.map V.str) its) : ∀ (i : Nat) (v : Value), its[i]? = some v → ∃ k u, ks[i]? = some k ∧ v = .str k u := fun i v e => by
  have hl := r.length
  rw [List.length_map] at hl
  obtain ⟨h, _⟩ := List.getElem?_eq_some_iff.mp e
  have hi : i < ks.length := by omega
  obtain ⟨u, hu, ru⟩ := r.get (i := i) (x := V.str ks[i]) (by simp [hi])
  rw [e] at hu
  cases hu
  obtain ⟨t, rfl⟩ := ru
  exact ⟨ks[i], t, by simp [hi], rfl⟩
set_option maxHeartbeats 3200000 in
theorem call_set_txt {l : Addr} {items : Array Value} {ks : List Str} {Q : Value → Shared → Prop} (hh : A.handled = none) (hl : s.heap.IsList l items) (hi : Vals (ks.map V.str) items.toList) (hb : ks.length + 1 < scanBound)
    (h : ∀ (h2 : Heap) (tk : Nat), TxR prog w h2 s.heap.objs.size (ks.foldl insS []) → (∀ b o, b < s.heap.objs.size → s.heap.get? b = some o → h2.get? b = some o) → Q (.ref s.heap.objs.size) { s with heap := h2, toks := tk }) :
    wpAny (model prog w) A (call (.type "set") [.ref l]) Q E s := by
  have hsz : ks.length = items.size := by
    have z := hi.length
    rw [List.length_map, Array.length_toList] at z
    exact z
  obtain ⟨c, tl, hmro⟩ := PySem.F.called_set.mro
  have hmade := PySem.F.called_set.made
  have hsub := PySem.F.called_set.sub
  refine wpAny_call (codeAny_of_tree ?_)
  show wpAny _ _ (callAny (.type "set") _) _ _ _
  refine wpAny_pure ⟨Code.quiet_builtin _ (by decide +kernel), codeAny_builtin PySem.F.entry_type_call ?_⟩
  rw [Around.under_plain (weight_type_call_type "set" [.ref l] []) rfl]
  have h1 := PySem.F.called_set.notType
  have h2 := PySem.F.called_set.canCreate
  have hct := PySem.F.typeCall_set_1 (.ref l)
  repeat (any_goals (first | assumption | wp_step))
  refine codeAny_mono (code_set_led1 (.ref l) (E := E) (Q₁ := fun obj s1 => obj = .ref s.heap.objs.size ∧ s1 = { s with heap := s.heap.push { cls := .type "set", dict := none, data := .set #[] 0 (.fresh 0 0 (!w.params.followText "set-order")) } }) ⟨rfl, rfl⟩) fun r s1 hr => ?_
  cases r with
  | error e => exact hr
  | ok fl =>
    cases fl with
    | ret obj =>
      obtain ⟨rfl, rfl⟩ := hr
      have hS : (s.heap.push { cls := .type "set", dict := none, data := .set #[] 0 (.fresh 0 0 (!w.params.followText "set-order")) }).get? s.heap.objs.size = some { cls := .type "set", dict := none, data := .set #[] 0 (.fresh 0 0 (!w.params.followText "set-order")) } := Heap.get?_push_size _ rfl
      have hT : Shared.TypeIs { s with heap := s.heap.push { cls := .type "set", dict := none, data := .set #[] 0 (.fresh 0 0 (!w.params.followText "set-order")) } } (.ref s.heap.objs.size) "set" := ⟨_, hS, rfl⟩
      have hli := PySem.F.called_set.init.lookup
      have hbi := PySem.F.called_set.init.bind (.ref s.heap.objs.size)
      repeat (any_goals (first | assumption | wp_step))
      refine codeAny_mono (codeAny_call_builtin (R := wants (fun r s2 => r = .none ∧ ∃ hp tk, s2 = { s with heap := hp, toks := tk } ∧ TxR prog w hp s.heap.objs.size (ks.foldl insS []) ∧
          (∀ b o, b < s.heap.objs.size → s.heap.get? b = some o → hp.get? b = some o)) E) PySem.F.called_set.init.plain PySem.F.entry_set_init (check_set_init_1 hT ?_)) fun r2 s2 hr2 => ?_
      · obtain ⟨⟨ocls, odict, odata, oslots⟩, hol, hcl, nl, hdl⟩ := hl
        simp only at hcl hdl
        subst hcl; subst hdl
        have hol2 : (s.heap.push { cls := .type "set", dict := none, data := .set #[] 0 (.fresh 0 0 (!w.params.followText "set-order")) }).get? l = some { cls := .type "list", dict := odict, data := .seq items nl, slots := oslots } := Heap.get?_push_of_some _ hol
        have n1 := PySem.F.sub_list_set
        have n2 := PySem.F.sub_list_frozenset
        have n3 : (Value.type "list" == Value.type "dict") = false := by decide
        have hl1 : (s.heap.push { cls := .type "set", dict := none, data := .set #[] 0 (.fresh 0 0 (!w.params.followText "set-order")) }).IsList l items := ⟨_, hol2, rfl, nl, rfl⟩
        unfold Builtin.«set.__init__» noKeywords Builtin.Frozenset.updateFrom
        generalize hPI : pyIter = PI
        wp_walk
        subst hPI
        refine wpAny_pyIter_list hl1 ?_
        refine wpAny_bind (wpAny_runValue ?_)
        have hlt : l < s.heap.objs.size := Heap.lt_size hol
        have hh3 : A.in1.in1.in1.handled = none := by simp [hh]
        have ez : (s.heap.push { cls := .type "set", dict := none, data := .set #[] 0 (.fresh 0 0 (!w.params.followText "set-order")) }).objs.size = s.heap.objs.size + 1 := Heap.size_push ..
        have apart : s.heap.objs.size ∉ [(s.heap.push { cls := .type "set", dict := none, data := .set #[] 0 (.fresh 0 0 (!w.params.followText "set-order")) }).objs.size, l] := by
          rw [ez]
          simp only [List.mem_cons, List.not_mem_nil, or_false, not_or]
          exact ⟨Nat.ne_of_lt (Nat.lt_succ_self _), Nat.ne_of_gt hlt⟩
        refine tset_walk ((Walks.list hh3 _ l (by rw [ez]; exact Nat.ne_of_lt (Nat.lt_succ_of_lt hlt)) items).toS) s.heap.objs.size apart ks hsz (fun i v e => txt_at hi i v (by rw [Array.getElem?_toList]; exact e)) (by omega) (items.size - 0) 0 _ [] (by omega) (Nat.zero_le _)
          ⟨⟨_, Heap.get?_push_size _ rfl, rfl, rfl⟩, (hl1.push _)⟩ (Nat.le_refl _) ?hS0 ?hR
        case hS0 =>
          refine ⟨#[], 0, _, Heap.get?_push_of_some _ hS, TxOk.nil rfl, ?_, ?_⟩
          · show Ris ([] : List Nat)
            exact List.Pairwise.nil
          · cases z : w.params.followText "set-order" with
            | true => exact .inl rfl
            | false => exact .inr rfl
        case hR =>
          intro s3 mv hS3
          obtain ⟨hp, g, d, tk, os⟩ := s3
          obtain rfl : g = s.gens := mv.gens
          obtain rfl : d = s.drawn := mv.drawn
          obtain rfl : os = s.os := mv.os
          show wpAny _ _ _ _ _ _
          refine wpAny_pure ?_
          show wpAny _ _ (ret Value.none) _ _ _
          refine wpAny_pure ⟨rfl, hp, tk, rfl, hS3, fun b o lt e => ?_⟩
          refine mv.heap b o ?_ (Heap.get?_push_of_some _ (Heap.get?_push_of_some _ e))
          rw [ez]
          simp only [List.mem_cons, List.not_mem_nil, or_false, not_or]
          exact ⟨Nat.ne_of_lt lt, Nat.ne_of_lt (Nat.lt_succ_of_lt lt)⟩
      · cases r2 with
        | error e => exact hr2
        | ok fl2 =>
          cases fl2 with
          | ret r =>
            obtain ⟨rfl, hp, tk, rfl, hS3, kp⟩ := hr2
            repeat (any_goals (first | assumption | wp_step))
            exact h _ _ hS3 kp
          | _ => exact hr2.elim
    | _ => exact hr.elim
end
end
end Fs
set_option Elab.async false
set_option linter.all false
set_option maxRecDepth 100000
set_option maxHeartbeats 8000000
namespace Fs
open PySem PySem.Spec PyProof.Rows L2
section
open PySem.Froz
theorem perm_sub {α : Type} [DecidableEq α] : ∀ {l k : List α}, l.Nodup → (∀ x ∈ l, x ∈ k) → k.length = l.length → l.Perm k
  | [], k, _, _, h => by
    have z : k = [] := List.length_eq_zero_iff.mp h
    subst z
    exact List.Perm.refl _
  | x :: l, k, nd, h, hl => by
    have n := List.nodup_cons.mp nd
    have hx : x ∈ k := h x (List.mem_cons_self ..)
    have p := List.perm_cons_erase hx
    have le := p.length_eq
    rw [List.length_cons] at le hl
    refine (List.Perm.cons x (perm_sub n.2 (fun y hy => ?_) (by omega))).trans p.symm
    exact (List.mem_erase_of_ne (fun z : y = x => n.1 (by rw [← z]; exact hy))).mpr (h y (List.mem_cons_of_mem _ hy))
theorem insS_nodup {l : List Str} {k : Str} (h : l.Nodup) : (insS l k).Nodup := by
  unfold insS
  split
  · exact h
  · rename_i c
    exact List.nodup_cons.mpr ⟨c, h⟩
theorem insS_mem {l : List Str} {k x : Str} : x ∈ insS l k ↔ x ∈ l ∨ x = k := by
  unfold insS
  split
  · rename_i c
    exact ⟨.inl, fun h => h.elim id fun (e : x = k) => by rw [e]; exact c⟩
  · exact ⟨fun h => (List.mem_cons.mp h).elim .inr .inl, fun h => List.mem_cons.mpr (h.elim .inr .inl)⟩
theorem foldS_nodup : ∀ (ks : List Str) (l : List Str), l.Nodup → (ks.foldl insS l).Nodup
  | [], _, h => h
  | k :: ks, _, h => foldS_nodup ks _ (insS_nodup h)
theorem foldS_mem {x : Str} : ∀ (ks : List Str) (l : List Str), x ∈ ks.foldl insS l ↔ x ∈ l ∨ x ∈ ks
  | [], _ => by simp
  | k :: ks, l => by
    rw [List.foldl_cons, foldS_mem ks, insS_mem, List.mem_cons]
    exact or_assoc
def KT (P : Program) (w : World) (a : Addr) (l : List Str) : HO := .ext fun h => TxR P w h a l
theorem kt_new {P : Program} {w : World} {H : Hp} {h : Heap} {a : Addr} {l : List Str} (R : TxR P w h a l) : ObjOk P w H h a (KT P w a l) := by
  obtain ⟨es, ep, t, ho, r⟩ := R
  exact ⟨⟨es, ep, t, ho, r⟩, ⟨_, ho⟩, fun h1 h2 z k => z.at k⟩
theorem kt_get {X : Cx} {pins : List (Addr × Obj)} {σ : L2.St} {H : Hp} {s : Shared} {a : Addr} {l : List Str} (I : Inv X pins σ H s) (ha : H a = some (KT X.prog X.w a l)) : TxR X.prog X.w s.heap a l := (I.hok a _ ha).1
def txtV : Value → Str
  | .str x _ => x
  | _ => ⟨#[]⟩
section
variable {X : Cx}
def rSetT (P : Program) (w : World) (K : Frag) : List V → Hp → VK → Prop := fun xs H Q => ∃ (a : Addr) (ks : List Str), xs = [.ref a] ∧ SqL K H a (ks.map V.str) ∧ ks.length + 1 < scanBound ∧ ∀ p, H p = none → Q (.ref p) (upd H p (KT P w p (ks.foldl insS [])))
theorem cr_setT (hc : X.calm = true) : CallR X (.type "set") (rSetT X.prog X.w X.K) := by
  intro pins s σ H xs us Q I r h
  obtain ⟨a, ks, rfl, hq, hb, q⟩ := h
  cases r with
  | cons ra rt =>
    cases rt
    cases ra
    obtain ⟨its, rv, pl, hz⟩ := I.list hq
    refine call_set_txt (I.ok.hd hc) pl.isList (by simpa using rv) hb fun h2 tk hS kp => ?_
    exact ⟨.ref _, upd H s.heap.objs.size (KT X.prog X.w s.heap.objs.size (ks.foldl insS [])), I.laid (t' := tk) (fun b o e => kp b o (Heap.lt_size e) e) (Nat.le_refl _) (kt_new hS), rfl, q _ (I.hok.fresh (Nat.le_refl _))⟩
def rSortT (P : Program) (w : World) : List V → Hp → VK → Prop := fun xs H Q => ∃ (a : Addr) (l : List Str), xs = [.ref a] ∧ H a = some (KT P w a l) ∧ l.Nodup ∧ l.length < 64 ∧ ∀ ys p, ys.Perm l → sortedS ys = true → H p = none → Q (.ref p) (upd H p (.lst (ys.map V.str)))
theorem cr_sortT' (hcalm : X.calm = true) : CallR X (.builtin "sorted") (rSortT X.prog X.w) := by
  intro pins s σ H xs us Q I r h
  obtain ⟨a, l, rfl, ha, nd, h64, q⟩ := h
  obtain ⟨u, eu, rx⟩ := vals1 r
  subst eu
  cases rx
  obtain ⟨es, ep, t, ho, F, rs, led⟩ := kt_get I ha
  have hsz : es.size = l.length := F.sz
  have hfit : t.fits es.size = true := F.fit
  refine Calls.call_function_entry PyProof.Rows.kind_sorted PyProof.Rows.plain_sorted PyProof.Rows.entry_sorted (PyProof.Rows.args_sorted1 _) ?_
  unfold Builtin.«sorted»
  refine wpAny_bind (m := checkCount "sorted" 1 1 _) (wpAny_pure ?_)
  refine wpAny_bind (collect_set (A := X.A.in1) (I.ok.hd hcalm) ⟨_, ho, rfl, rfl⟩ hfit (by show es.size < scanBound; unfold scanBound; omega) rs led fun s1 vs k1 hz g1 o1 pm => ?_)
  have shp : ∀ v ∈ vs, ∃ x tk, v = Value.str x tk ∧ x ∈ l := fun v hv => by
    obtain ⟨e, he, rfl⟩ := List.mem_map.mp (pm.mem_iff.mp hv)
    obtain ⟨⟨k, hk, _⟩, _⟩ := F.el e he
    obtain ⟨tk, ev⟩ := Value.isStrOf_shape (x := k) (v := e.2) hk
    exact ⟨k, tk, ev, (F.mem k).mpr ⟨e, he, hk⟩⟩
  have hvl : vs.length = l.length := by rw [pm.length_eq, List.length_map, Array.length_toList]; exact hsz
  have hS : StrsAre vs (vs.map txtV) := strs_at (by rw [List.length_map]) fun j v e => by
    obtain ⟨x, tk, rfl, _⟩ := shp v (List.mem_of_getElem? e)
    exact ⟨x, tk, by rw [List.getElem?_map, e]; rfl, rfl⟩
  have pk : (vs.map txtV).Perm l := by
    refine (perm_sub nd (fun x hx => ?_) (by rw [List.length_map, hvl])).symm
    obtain ⟨e, he, hk⟩ := (F.mem x).mp hx
    obtain ⟨tk, ev⟩ := Value.isStrOf_shape (x := x) (v := e.2) hk
    exact List.mem_map.mpr ⟨e.2, pm.mem_iff.mpr (List.mem_map.mpr ⟨e, he, rfl⟩), by rw [ev]; rfl⟩
  obtain ⟨hp1, g, d, tk, os⟩ := s1
  have eg : g = s.gens := g1
  have eo : os = s.os := o1
  subst eg eo
  have I1 : Inv X pins σ H ⟨hp1, s.gens, d, tk, s.os⟩ := I.call (g' := s.gens) (d' := d) (t' := tk) (ch := []) (Un.kept k1) (I.hok.kept k1) I.bare (fun _ z => nomatch z)
  refine wpAny_bind (wpAny_newList ?_ (by rw [hvl, sizeLine_eq]; omega))
  have hoL : (hp1.push (seqObj "list" vs.toArray 0)).get? hp1.objs.size = some (seqObj "list" vs.toArray 0) := Heap.get?_push_size _ rfl
  refine wpAny_bind (wpAny_holding (wpAny_call_entry PyProof.Rows.slot_list_sort ⟨_, hoL, rfl⟩ PyProof.Rows.entry_list_sort
    (list_sort_treeK strKind_oneLt hoL hS.keysOf (fun v₁ v₂ rest e => keyKind_strs (by rw [← e]; exact hS)) (by rw [hvl]; exact h64) fun st' hp hs => ⟨_, rfl, ?_⟩) (PyProof.Rows.args_list_sort _)))
  obtain ⟨ys, y1, y2, y3⟩ := sorted_out_str hS hp hs
  obtain ⟨e', he'⟩ := PyProof.Rows.sortedHeap_at (vs := vs) (out := (arrOf st').map (·.2)) hoL
  have pl := y2.trans pk
  have hlen : (ys.map V.str).length ≤ sizeLine := by
    rw [List.length_map, pl.length_eq]
    exact Nat.le_trans (Nat.le_of_lt h64) (by decide)
  refine wpAny_pure ⟨_, rfl, .ref hp1.objs.size, upd H hp1.objs.size (.lst (ys.map V.str)), I1.laid (t' := tk) (fun b u e => ?_) (Nat.le_refl _)
    (show ObjOk X.prog X.w _ _ _ (.lst (ys.map V.str)) from ⟨hlen, ((arrOf st').map (·.2)).toList, e', vals_of_strs y1, by rw [Array.toArray_toList]; exact he'⟩), rfl, q ys _ pl y3 (I1.hok.fresh (Nat.le_refl _))⟩
  rw [PyProof.Rows.sortedHeap_old (Nat.ne_of_lt (Heap.lt_size e)) (by rw [size_push']; exact Nat.lt_succ_of_lt (Heap.lt_size e))]
  exact Heap.get?_push_of_some _ e
end
end
end Fs
set_option Elab.async false
set_option linter.all false
set_option maxRecDepth 100000
set_option maxHeartbeats 8000000
namespace Fs
open PySem PySem.Spec PyProof.Rows L2
abbrev s__law_bag : Stmt := top 18
abbrev N__law_bag : List Str := ["_law_script", "_law_salt", "_law_cell"]
abbrev P__law_bag : List Str := ["_law_script"]
abbrev s__law_pull : Stmt := top 19
abbrev N__law_pull : List Str := ["_law_bag_here", "_law_amount", "_law_cell", "_law_got", "_law_seed"]
abbrev P__law_pull : List Str := ["_law_bag_here", "_law_amount"]
theorem sc__law_bag : FnScope N__law_bag P__law_bag (defScope s__law_bag) := ⟨rfl, rfl, rfl, by decide +kernel, rfl, by decide +kernel, by decide +kernel⟩
section
variable {P : Program} {w : World} {K : Frag} {mg : Str → Option Value} {base : Heap}
theorem ok__law_bag (G : Gs K mg "_law_bag" s__law_bag) (mint : mg "int" = none) (mlist : mg "list" = none) : Gd P w K mg base CX0 1 "_law_bag" P__law_bag (spBag K) := by
  refine G.ok sc__law_bag (fun vs H Q E h => ?_) (fun _ _ _ _ _ _ us hl => match us, hl with | [_], _ => rfl) (fun f cdv A outer s H vs Q E hr h => ?_)
  · obtain ⟨a, ns, rfl, _⟩ := h
    rfl
  obtain ⟨a, ns, rfl, hS, q⟩ := h
  refine ⟨_, pss_cons (ps_set (i := 1) sc__law_bag.nd rfl (.inl rfl) pe_int)
    (pss_cons (ps_for PassesOwn.never rfl (pi_list (pe_slice sl_list (pv 0) po_none (po_some pe_int))) (pg_name (i := 2) sc__law_bag.nd rfl (.inl rfl))
      (pss_one (ps_set (i := 1) sc__law_bag.nd rfl (.inl rfl) (pe_op op_mod (pe_op op_add (pe_op op_add (pe_op op_mul (pv 1) pe_int) (pe_op op_mod (pe_callTy call_int1 (by rfl) mint (by decide +kernel) (pa_cons (pv 2) pa_nil)) pe_int)) pe_int) pe_int))))
    (pss_one (ps_ret (pe_lst (pa_cons (pe_callTy call_list_of (by rfl) mlist (by decide +kernel) (pa_cons (pe_slice sl_list (pv 0) po_none (po_some pe_int)) pa_nil)) (pa_cons pe_int (pa_cons pe_int (pa_cons (pv 1) pa_nil)))))))), ?_⟩
  refine ⟨_, rfl, _, rfl, a, _, rfl, hS, fun c nc => ?_⟩
  have e63 : cutV (ns.map V.int) none (some 63) = (ns.take 63).map V.int := by
    rw [show (63 : Int) = ((63 : Nat) : Int) from rfl, cutN, List.map_take]
  rw [e63]
  refine ⟨c, rfl, ⟨_, at_z upd_same⟩, for_list (K := K) (a := c) (xs := (ns.take 63).map V.int)
    (fun i σ H' => ∃ (salt : Int) (v : Option V), σ = [some (.ref a), some (.int salt), v] ∧ 0 ≤ salt ∧ salt < 2147483647 ∧ Same (upd H c (.lst ((ns.take 63).map V.int))) H')
    ⟨3841, none, rfl, by decide, by decide, Same.refl _⟩ (fun i σ H' _ ⟨_, _, _, _, _, s1⟩ => at_z (s1 _ _ upd_same)) ?_ ?_⟩
  · rintro i x σ H' hi ⟨salt, v, rfl, h0, h1, s1⟩
    obtain ⟨z, hz, rfl⟩ : ∃ z, (ns.take 63)[i]? = some z ∧ x = V.int z := by
      rw [List.getElem?_map] at hi
      cases e : (ns.take 63)[i]? with
      | none =>
        rw [e] at hi
        cases hi
      | some z =>
        rw [e] at hi
        exact ⟨z, rfl, (Option.some.inj hi).symm⟩
    refine ⟨_, rfl, _, _, rfl, rfl, .inl ⟨by omega, by omega⟩, _, rfl, .inl ⟨_, rfl, _, _, rfl, rfl, (by show (0 : Int) < _; decide), _, _, rfl, rfl, _, _, rfl, rfl, _, _, rfl, rfl, (by show (0 : Int) < _; decide), _, _, rfl, ?_, ?_, s1⟩⟩
    · omega
    · omega
  · rintro σ H' ⟨salt, v, rfl, h0, h1, s1⟩
    refine ⟨_, rfl, _, rfl, a, _, rfl, (same_new nc _ |>.trans s1).seq hS, fun d nd => ?_⟩
    refine ⟨d, _, rfl, .inl (at_z upd_same), fun l nl => ?_⟩
    refine ⟨_, rfl, (by show 4 ≤ sizeLine; decide), fun p np => ?_⟩
    have s2 : Same H' (upd (upd (upd H' d (.lst (cutV (ns.map V.int) none (some 63)))) l (.lst (cutV (ns.map V.int) none (some 63)))) p (.lst [.ref l, .int 0, .int 0, .int salt])) := (same_new nd _).trans ((same_new nl _).trans (same_new np _))
    have s3 := (same_new nc (.lst ((ns.take 63).map V.int))).trans (s1.trans s2)
    refine q p l _ ?_ s3 ⟨0, 0, salt, ns.take 63, upd_same, ?_, by decide, by decide, h0, h1⟩
    · have z := ((same_new nc _).trans (s1.trans ((same_new nd _).trans (same_new nl _)))).free np
      exact z
    · rw [← e63, upd_ne (ne_of_none upd_same np), upd_same]
theorem sc__law_pull : FnScope N__law_pull P__law_pull (defScope s__law_pull) := ⟨rfl, rfl, rfl, by decide +kernel, rfl, by decide +kernel, by decide +kernel⟩
theorem ok__law_pull (G : Gs K mg "_law_pull" s__law_pull) (mint : mg "int" = none) (mlen : mg "len" = none) : Gd P w K mg base CX0 1 "_law_pull" P__law_pull spPull := by
  refine G.ok sc__law_pull (fun vs H Q E h => ?_) (fun _ _ _ _ _ _ us hl => match us, hl with | [_, _], _ => rfl) (fun f cdv A outer s H vs Q E hr h => ?_)
  · obtain ⟨p, l, n, rfl, _⟩ := h
    rfl
  obtain ⟨p, l, n, rfl, B, n0, n1, q⟩ := h
  refine ⟨_, pss_cons (ps_if (PW.pt (pw_and (pt_cmpR op_eq (pe_ix ix_list (pv 0) pe_int (fun _ _ => rfl)) pe_int (nomark _)) (pw_and1 (pt_cmpR op_lt (pe_ix ix_list (pv 0) pe_int (fun _ _ => rfl)) (pe_callB call_len_seq (by rfl) mlen PySem.boot_len (pa_cons (pe_ix ix_list (pv 0) pe_int (fun _ _ => rfl)) pa_nil)) (nomark _)))))
      (pss_cons (ps_set (i := 2) sc__law_pull.nd rfl (.inl rfl) (pe_ix ix_list (pe_ix ix_list (pv 0) pe_int (fun _ _ => rfl)) (pe_ix ix_list (pv 0) pe_int (fun _ _ => rfl)) (fun _ _ => rfl)))
      (pss_cons (ps_asg (pe_op op_add (pe_ix ix_list (pv 0) pe_int (fun _ _ => rfl)) pe_int) (pg_sub (pv 0) pe_int set_list))
      (pss_one (ps_if (pt_cmpR op_ge (pv 2) (pe_op op_pow pe_int pe_int) (nomark _))
        (pss_one (ps_asg (pv 2) (pg_sub (pv 0) pe_int set_list)))
        (pss_one (ps_asg (pe_op op_mod (pe_op op_add (pe_op op_add (pe_op op_mul (pe_ix ix_list (pv 0) pe_int (fun _ _ => rfl)) pe_int) (pe_op op_mul (pe_op op_mod (pe_callTy call_int1 (by rfl) mint (by decide +kernel) (pa_cons (pv 2) pa_nil)) pe_int) pe_int)) pe_int) pe_int) (pg_sub (pv 0) pe_int set_list)))))))
      pss_nil)
    (pss_cons (ps_if (pt_cmpR op_gt (pe_ix ix_list (pv 0) pe_int (fun _ _ => rfl)) pe_int (nomark _))
      (pss_cons (ps_set (i := 3) sc__law_pull.nd rfl (.inl rfl) (pe_op op_mod (pe_callTy call_int1 (by rfl) mint (by decide +kernel) (pa_cons (pe_ix ix_list (pv 0) pe_int (fun _ _ => rfl)) pa_nil)) (pv 1)))
      (pss_cons (ps_asg (pe_op op_fdivW (pe_ix ix_list (pv 0) pe_int (fun _ _ => rfl)) (pv 1)) (pg_sub (pv 0) pe_int set_list))
      (pss_one (ps_ret (pv 3))))) pss_nil)
    (pss_cons (ps_set (i := 4) sc__law_pull.nd rfl (.inl rfl) (pe_ix ix_list (pv 0) pe_int (fun _ _ => rfl)))
    (pss_cons (ps_asg (pe_op op_mod (pe_op op_add (pe_op op_add (pe_op op_mul (pv 4) (pv 4)) (pe_op op_mul (pv 4) pe_int)) pe_int) pe_int) (pg_sub (pv 0) pe_int set_list))
    (pss_one (ps_ret (pe_op op_mod (pe_op op_add (pe_op op_fdiv (pe_ix ix_list (pv 0) pe_int (fun _ _ => rfl)) pe_int) (pe_op op_mul (pe_op op_mod (pe_callTy call_int1 (by rfl) mint (by decide +kernel) (pa_cons (pe_ix ix_list (pv 0) pe_int (fun _ _ => rfl)) pa_nil)) pe_int) pe_int)) (pv 1))))))), ?_⟩
  obtain ⟨i, rest, seed, ns, hp, hl, hi, hrest, hs0, hs1⟩ := B.ex
  have npl : l ≠ p := ne_of hl hp (fun z => by
    injection z with z
    have z2 := congrArg List.length z
    cases ns with
    | nil => simp at z
    | cons x r =>
      rw [List.map_cons] at z
      injection z with z _
      cases z)
  have a0 : ∀ {x y z u : V}, atI [x, y, z, u] 0 = some x := rfl
  have a1 : ∀ {x y z u : V}, atI [x, y, z, u] 1 = some y := rfl
  have a2 : ∀ {x y z u : V}, atI [x, y, z, u] 2 = some z := rfl
  have a3 : ∀ {x y z u : V}, atI [x, y, z, u] 3 = some u := rfl
  refine seq_cut (fun σ' H' => ∃ (i rest seed : Int) (v : Option V), σ' = [some (.ref p), some (.int n), v, none, none] ∧ SameX p H H' ∧ H' p = some (.lst [.ref l, .int i, .int rest, .int seed]) ∧ 0 ≤ i ∧ 0 ≤ rest ∧ 0 ≤ seed ∧ seed < 2147483647) (fun N hN => ?_) ?_
  · have done : N (start ["_law_bag_here", "_law_amount", "_law_cell", "_law_got", "_law_seed"] [V.ref p, V.int n]) H := hN _ _ ⟨i, rest, seed, none, rfl, Same.refl _, hp, hi, hrest, hs0, hs1⟩
    refine ⟨_, rfl, p, _, _, _, rfl, rfl, at_z hp, a2, rfl, _, rfl, ?_⟩
    by_cases c : V.int rest = V.int 0
    · rw [decide_eq_true c]
      refine iteT ?_
      refine ⟨_, rfl, p, _, _, _, rfl, rfl, at_z hp, a1, _, rfl, p, _, _, _, rfl, rfl, at_z hp, a0, l, _, rfl, .inl (at_z hl), _, _, rfl, rfl, _, rfl, ?_⟩
      by_cases c2 : i < ((ns.map V.int).length : Int)
      · rw [decide_eq_true c2]
        refine iteT ?_
        rw [List.length_map] at c2
        have hk : i.toNat < ns.length := by omega
        have ek : i = ((i.toNat : Nat) : Int) := by omega
        have ai : atI (ns.map V.int) i = some (.int ns[i.toNat]) := by
          have z := atI_i (xs := ns.map V.int) hi (by rw [List.length_map]; exact hk)
          rw [List.getElem_map] at z
          exact z
        -- the cell, the place
        refine ⟨_, rfl, p, _, _, _, rfl, rfl, at_z hp, a0, _, rfl, p, _, _, _, rfl, rfl, at_z hp, a1, l, _, _, _, rfl, rfl, at_z hl, ai, ?_⟩
        refine ⟨_, rfl, p, _, _, _, rfl, rfl, at_z hp, a1, _, _, rfl, rfl, _, rfl, p, _, _, _, rfl, rfl, hp, rfl, ?_⟩
        -- if cell >= 10 ** 18
        refine ⟨_, rfl, _, _, rfl, rfl, ⟨by decide, by decide, by decide⟩, _, _, rfl, rfl, _, rfl, ?_⟩
        refine ite2 (fun c3 => ?_) (fun c3 => ?_)
        · have c3' := of_decide_eq_true c3
          refine ⟨_, rfl, _, rfl, p, _, _, _, rfl, rfl, upd_same, rfl, ?_⟩
          refine hN _ _ ⟨i + 1, ns[i.toNat], seed, some (.int ns[i.toNat]), rfl, .of fun b o hb e => ?_, upd_same, by omega, ?_, hs0, hs1⟩
          · rw [upd_ne hb, upd_ne hb]
            exact e
          · exact Int.le_trans (by decide) c3'
        · refine ⟨_, rfl, p, _, _, _, rfl, rfl, at_z upd_same, a3, _, _, rfl, rfl, .inl ⟨by omega, by omega⟩, _, rfl, .inl ⟨_, rfl, _, _, rfl, rfl, (by show (0 : Int) < _; decide), _, _, rfl, rfl, .inr ⟨by decide, by decide⟩, _, _, rfl, rfl, _, _, rfl, rfl, _, _, rfl, rfl, (by show (0 : Int) < _; decide), _, rfl, p, _, _, _, rfl, rfl, upd_same, rfl, ?_⟩⟩
          refine hN _ _ ⟨i + 1, rest, _, some (.int ns[i.toNat]), rfl, .of fun b o hb e => ?_, upd_same, by omega, hrest, Int.emod_nonneg _ (by decide), Int.emod_lt_of_pos _ (by decide)⟩
          rw [upd_ne hb, upd_ne hb]
          exact e
      · rw [decide_eq_false c2]
        exact iteF done
    · rw [decide_eq_false c]
      exact iteF done
  · rintro σ' H' ⟨i, rest, seed, v, rfl, sx, hp, hi, hrest, hs0, hs1⟩
    have hl' := sx.at npl hl
    have fin : ∀ (i rest seed : Int) (H2 : Hp), (∀ b o, b ≠ p → H' b = some o → H2 b = some o) → H2 p = some (.lst [.ref l, .int i, .int rest, .int seed]) → 0 ≤ i → 0 ≤ rest → 0 ≤ seed → seed < 2147483647 → SameX p H H2 ∧ BagAt H2 p l := fun i rest seed H2 k e h0 h1 h2 h3 =>
      ⟨sx.trans (SameX.of k), ⟨i, rest, seed, ns, e, k _ _ npl hl', h0, h1, h2, h3⟩⟩
    refine ⟨_, rfl, p, _, _, _, rfl, rfl, at_z hp, a2, _, _, rfl, rfl, _, rfl, ?_⟩
    refine ite2 (fun c => ?_) (fun c => ?_)
    · refine ⟨_, rfl, p, _, _, _, rfl, rfl, at_z hp, a2, .inl ⟨_, rfl, _, rfl, _, _, rfl, rfl, n0, ?_⟩⟩
      refine ⟨_, rfl, p, _, _, _, rfl, rfl, at_z hp, a2, _, rfl, _, _, rfl, rfl, wide_div n0 (b := 100) (by omega) (by decide) (by decide), _, rfl, p, _, _, _, rfl, rfl, hp, rfl, _, rfl, ?_⟩
      obtain ⟨x1, x2⟩ := fin i (rest / n) seed (upd H' p (.lst [.ref l, .int i, .int (rest / n), .int seed])) (fun b o hb e => by rw [upd_ne hb]; exact e) upd_same hi (Int.ediv_nonneg hrest (by omega)) hs0 hs1
      exact q _ _ (Int.emod_nonneg _ (by omega)) (Int.emod_lt_of_pos _ n0) x1 x2
    · refine ⟨_, rfl, p, _, _, _, rfl, rfl, at_z hp, a3, ?_⟩
      refine ⟨_, rfl, _, rfl, _, _, rfl, rfl, .inl ⟨by omega, by omega⟩, _, rfl, _, _, rfl, rfl, .inr ⟨by decide, by decide⟩, _, _, rfl, rfl, _, _, rfl, rfl, _, _, rfl, rfl, (by show (0 : Int) < _; decide), _, rfl, p, _, _, _, rfl, rfl, hp, rfl, ?_⟩
      refine ⟨_, rfl, p, _, _, _, rfl, rfl, at_z upd_same, a3, _, _, rfl, rfl, ⟨by decide, by decide⟩, _, rfl, p, _, _, _, rfl, rfl, at_z upd_same, a3, .inl ⟨_, rfl, _, _, rfl, rfl, (by show (0 : Int) < _; decide), _, _, rfl, rfl, .inr ⟨by decide, by decide⟩, _, _, rfl, rfl, _, rfl, _, _, rfl, rfl, n0, ?_⟩⟩
      obtain ⟨x1, x2⟩ := fin i rest ((seed * seed + seed * 48271 + 1013904223) % 2147483647) (upd H' p (.lst [.ref l, .int i, .int rest, .int ((seed * seed + seed * 48271 + 1013904223) % 2147483647)])) (fun b o hb e => by rw [upd_ne hb]; exact e) upd_same hi hrest (Int.emod_nonneg _ (by decide)) (Int.emod_lt_of_pos _ (by decide))
      exact q _ _ (Int.emod_nonneg _ (by omega)) (Int.emod_lt_of_pos _ n0) x1 x2
end
end Fs
set_option Elab.async false
set_option linter.all false
set_option maxRecDepth 100000
set_option maxHeartbeats 8000000
namespace Fs
open PySem PySem.Spec PyProof.Rows L2
/-! ### data -/
inductive D where
  | non | bl (b : Bool) | int (i : Int) | str (x : Str) | ty (n : String) | fn (a : Addr)
  | tup (xs : List D) | lst (xs : List D) | dic (kvs : List (Key × D)) | obj (C : Addr) (fs : List (Str × D)) | exc (C : Addr) (fs : List (Str × D))
/-- a value: a datum, or an own object that may change -/
inductive W where
  | v (d : D) | loc (n : Nat)
/-- an own object -/
inductive MO where
  | lst (xs : List D) | dic (kvs : List (Key × D)) | ins (C : Addr) (fs : List (Str × W)) | bag | tab (p : Addr) (q : Str) | gone
def MO.live : MO → Bool
  | .gone => false
  | _ => true
abbrev En := List (Option W)
abbrev Me := List MO
/-- an exception: its class, its fields -/
structure Er where
  C : Addr
  fs : List (Str × D)
/-- a key's text is well -/
def KeyOk : Key → Prop
  | .inl _ => True
  | .inr x => PySem.PyData.strOk x = true
/-- a tuple: tracked as one, or one of the program's constants -/
def TqT (K : Frag) (B : Hp) (a : Addr) (xs : List V) : Prop :=
  B a = some (.tup xs) ∨ ∃ (o : Obj) (its : Array Value) (n : Nat), K.lookup a = some o ∧ o.cls = .type "tuple" ∧ o.data = .seq its n ∧ its.size ≤ sizeLine ∧ Vals xs its.toList
theorem TqT.sq {K : Frag} {B : Hp} {a : Addr} {xs : List V} (h : TqT K B a xs) : SqT K B a xs := h.elim (fun e => .inl (.inl e)) .inr
theorem TqT.to {K : Frag} {B B' : Hp} (e : Same B B') {a : Addr} {xs : List V} (h : TqT K B a xs) : TqT K B' a xs := h.elim (fun z => .inl (e _ _ z)) .inr
mutual
inductive Rv (K : Frag) (B : Hp) : V → D → Prop
  | non : Rv K B .non .non
  | bl (b : Bool) : Rv K B (.bl b) (.bl b)
  | int (i : Int) : Rv K B (.int i) (.int i)
  | str {x : Str} : PySem.PyData.strOk x = true → Rv K B (.str x) (.str x)
  | ty (n : String) : Rv K B (.ty n) (.ty n)
  | fn (a : Addr) : Rv K B (.ref a) (.fn a)
  | tup {a : Addr} {xs : List V} {ds : List D} : TqT K B a xs → RvL K B xs ds → Rv K B (.ref a) (.tup ds)
  | lst {a : Addr} {xs : List V} {ds : List D} : B a = some (.lst xs) → RvL K B xs ds → Rv K B (.ref a) (.lst ds)
  | dic {a : Addr} {od : Obj} {xs : List (Key × V)} {ds : List (Key × D)} : B a = some (.frz od (.dK xs)) → RvK K B xs ds → Rv K B (.ref a) (.dic ds)
  | obj {a C dx : Addr} {xs : List (Str × V)} {ds : List (Str × D)} : B a = some (.ins C dx xs) → RvF K B xs ds → Rv K B (.ref a) (.obj C ds)
  | exc {a C dx : Addr} {xs : List (Str × V)} {ds : List (Str × D)} : B a = some (exo a C (some dx)) → B dx = some (exd dx xs) → RvF K B xs ds → Rv K B (.ref a) (.exc C ds)
inductive RvL (K : Frag) (B : Hp) : List V → List D → Prop
  | nil : RvL K B [] []
  | cons {v : V} {vs : List V} {d : D} {ds : List D} : Rv K B v d → RvL K B vs ds → RvL K B (v :: vs) (d :: ds)
inductive RvK (K : Frag) (B : Hp) : List (Key × V) → List (Key × D) → Prop
  | nil : RvK K B [] []
  | cons {k : Key} {v : V} {vs : List (Key × V)} {d : D} {ds : List (Key × D)} : KeyOk k → Rv K B v d → RvK K B vs ds → RvK K B ((k, v) :: vs) ((k, d) :: ds)
inductive RvF (K : Frag) (B : Hp) : List (Str × V) → List (Str × D) → Prop
  | nil : RvF K B [] []
  | cons {k : Str} {v : V} {vs : List (Str × V)} {d : D} {ds : List (Str × D)} : Rv K B v d → RvF K B vs ds → RvF K B ((k, v) :: vs) ((k, d) :: ds)
end
/-! ### heaps in heaps -/
/-- all of B stands in H (dicts are locked in B) -/
def Le (B H : Hp) : Prop := ∀ a o, B a = some o → H a = some o
theorem Le.refl (B : Hp) : Le B B := fun _ _ h => h
theorem Le.of {B H : Hp} (h : Same B H) : Le B H := h
theorem Le.same {B B' H : Hp} (s : Same B B') (h : Le B' H) : Le B H := fun a o e => h a o (s a o e)
theorem Le.rd {B H : Hp} (h : Le B H) {a : Addr} {u : HO} (r : Rd B a u) : Rd H a u := r.elim (fun r => .inl (h _ _ r)) fun ⟨o, r⟩ => .inr ⟨o, h _ _ r⟩
theorem Le.seq {K : Frag} {B H : Hp} (h : Le B H) {a : Addr} {xs : List V} (r : SqL K B a xs) : SqL K H a xs := r.elim (fun r => .inl (h.rd r)) .inr
theorem Le.tup {K : Frag} {B H : Hp} (h : Le B H) {a : Addr} {xs : List V} (r : TqT K B a xs) : SqT K H a xs := r.elim (fun r => .inl (.inl (h _ _ r))) .inr
theorem Le.ins {B H : Hp} (h : Le B H) {a C dx : Addr} {xs : List (Str × V)} (r : B a = some (.ins C dx xs)) : H a = some (.ins C dx xs) := h _ _ r
theorem Le.some {B H : Hp} (h : Le B H) {a : Addr} {o : HO} (r : B a = some o) : H a ≠ none := by
  rw [h _ _ r]
  exact fun z => nomatch z
theorem Same.rd {B H : Hp} (h : Same B H) {a : Addr} {u : HO} (r : Rd B a u) : Rd H a u := r.elim (fun r => .inl (h _ _ r)) fun ⟨o, r⟩ => .inr ⟨o, h _ _ r⟩
mutual
theorem Rv.to {K : Frag} {B B' : Hp} (e : Same B B') : ∀ {v : V} {d : D}, Rv K B v d → Rv K B' v d
  | _, _, .non => .non
  | _, _, .bl b => .bl b
  | _, _, .int i => .int i
  | _, _, .str h => .str h
  | _, _, .ty n => .ty n
  | _, _, .fn a => .fn a
  | _, _, .tup h a => .tup (TqT.to e h) (RvL.to e a)
  | _, _, .lst h a => .lst (e _ _ h) (RvL.to e a)
  | _, _, .dic h a => .dic (e _ _ h) (RvK.to e a)
  | _, _, .obj h a => .obj (e _ _ h) (RvF.to e a)
  | _, _, .exc h g a => .exc (e _ _ h) (e _ _ g) (RvF.to e a)
theorem RvL.to {K : Frag} {B B' : Hp} (e : Same B B') : ∀ {vs : List V} {ds : List D}, RvL K B vs ds → RvL K B' vs ds
  | _, _, .nil => .nil
  | _, _, .cons h t => .cons (Rv.to e h) (RvL.to e t)
theorem RvK.to {K : Frag} {B B' : Hp} (e : Same B B') : ∀ {vs : List (Key × V)} {ds : List (Key × D)}, RvK K B vs ds → RvK K B' vs ds
  | _, _, .nil => .nil
  | _, _, .cons k h t => .cons k (Rv.to e h) (RvK.to e t)
theorem RvF.to {K : Frag} {B B' : Hp} (e : Same B B') : ∀ {vs : List (Str × V)} {ds : List (Str × D)}, RvF K B vs ds → RvF K B' vs ds
  | _, _, .nil => .nil
  | _, _, .cons h t => .cons (Rv.to e h) (RvF.to e t)
end
theorem RvL.len {K : Frag} {H : Hp} : ∀ {vs : List V} {ds : List D}, RvL K H vs ds → vs.length = ds.length
  | _, _, .nil => rfl
  | _, _, .cons _ t => congrArg Nat.succ (RvL.len t)
theorem RvL.at {K : Frag} {H : Hp} : ∀ {vs : List V} {ds : List D} {i : Nat} {d : D}, RvL K H vs ds → ds[i]? = some d → ∃ v, vs[i]? = some v ∧ Rv K H v d
  | _, _, _, _, .nil, e => by simp at e
  | _, _, 0, d, .cons (v := v) h _, e => ⟨v, rfl, by simp at e; subst e; exact h⟩
  | _, _, i + 1, d, .cons _ t, e => by
    obtain ⟨v, h1, h2⟩ := RvL.at (i := i) (d := d) t (by simpa using e)
    exact ⟨v, by simpa using h1, h2⟩
theorem RvL.at' {K : Frag} {H : Hp} : ∀ {vs : List V} {ds : List D} {i : Nat} {v : V}, RvL K H vs ds → vs[i]? = some v → ∃ d, ds[i]? = some d ∧ Rv K H v d
  | _, _, _, _, .nil, e => by simp at e
  | _, _, 0, v, .cons (d := d) h _, e => ⟨d, rfl, by simp at e; subst e; exact h⟩
  | _, _, i + 1, v, .cons _ t, e => by
    obtain ⟨d, h1, h2⟩ := RvL.at' (i := i) (v := v) t (by simpa using e)
    exact ⟨d, by simpa using h1, h2⟩
theorem RvL.append {K : Frag} {H : Hp} : ∀ {vs us : List V} {ds es : List D}, RvL K H vs ds → RvL K H us es → RvL K H (vs ++ us) (ds ++ es)
  | _, _, _, _, .nil, r => r
  | _, _, _, _, .cons h t, r => .cons h (RvL.append t r)
theorem RvL.one {K : Frag} {H : Hp} {v : V} {d : D} (h : Rv K H v d) : RvL K H [v] [d] := .cons h .nil
theorem RvL.take {K : Frag} {H : Hp} : ∀ {vs : List V} {ds : List D} (n : Nat), RvL K H vs ds → RvL K H (vs.take n) (ds.take n)
  | _, _, 0, _ => by simp; exact .nil
  | _, _, _ + 1, .nil => by simp; exact .nil
  | _, _, n + 1, .cons h t => .cons h (RvL.take n t)
theorem RvL.drop {K : Frag} {H : Hp} : ∀ {vs : List V} {ds : List D} (n : Nat), RvL K H vs ds → RvL K H (vs.drop n) (ds.drop n)
  | _, _, 0, r => r
  | _, _, _ + 1, .nil => by simp; exact .nil
  | _, _, n + 1, .cons _ t => RvL.drop n t
theorem RvL.set {K : Frag} {H : Hp} {v : V} {d : D} (h : Rv K H v d) : ∀ {vs : List V} {ds : List D} (n : Nat), RvL K H vs ds → RvL K H (vs.set n v) (ds.set n d)
  | _, _, _, .nil => .nil
  | _, _, 0, .cons _ t => .cons h t
  | _, _, n + 1, .cons a t => .cons a (RvL.set h n t)
theorem RvK.len {K : Frag} {H : Hp} : ∀ {vs : List (Key × V)} {ds : List (Key × D)}, RvK K H vs ds → vs.length = ds.length
  | _, _, .nil => rfl
  | _, _, .cons _ _ t => congrArg Nat.succ (RvK.len t)
theorem RvF.look {K : Frag} {H : Hp} {f : Str} {d : D} : ∀ {vs : List (Str × V)} {ds : List (Str × D)}, RvF K H vs ds → ds.lookup f = some d → ∃ v, vs.lookup f = some v ∧ Rv K H v d
  | _, _, .nil, e => by simp at e
  | _, _, .cons (k := k) (v := v) (vs := vs) (d := d2) (ds := ds) h t, e => by
    rw [List.lookup_cons] at e ⊢
    cases q : f == k with
    | true => rw [q] at e; cases e; exact ⟨_, rfl, h⟩
    | false => rw [q] at e; exact RvF.look t e
/-! ### own objects -/
/-- a value in a world -/
def RW (K : Frag) (B : Hp) (μ : List Addr) : V → W → Prop
  | v, .v d => Rv K B v d
  | v, .loc n => ∃ a, v = .ref a ∧ μ[n]? = some a
inductive RWs (K : Frag) (B : Hp) (μ : List Addr) : List V → List W → Prop
  | nil : RWs K B μ [] []
  | cons {v : V} {vs : List V} {w : W} {ws : List W} : RW K B μ v w → RWs K B μ vs ws → RWs K B μ (v :: vs) (w :: ws)
inductive RWf (K : Frag) (B : Hp) (μ : List Addr) : List (Str × V) → List (Str × W) → Prop
  | nil : RWf K B μ [] []
  | cons {k : Str} {v : V} {vs : List (Str × V)} {w : W} {ws : List (Str × W)} : RW K B μ v w → RWf K B μ vs ws → RWf K B μ ((k, v) :: vs) ((k, w) :: ws)
/-- the bag's state -/
structure BagB (B H : Hp) (p : Addr) : Prop where
  ex : ∃ (l : Addr) (i rest seed : Int) (ns : List Int), H p = some (.lst [.ref l, .int i, .int rest, .int seed]) ∧ B l = some (.lst (ns.map V.int)) ∧ 0 ≤ i ∧ 0 ≤ rest ∧ 0 ≤ seed ∧ seed < 2147483647
/-- a table of code objects, they in B -/
structure TabB (B H : Hp) (p : Addr) (q : Str) : Prop where
  ex : ∃ ps : Array Value, H p = some (.tbl ps) ∧ TriplesOk ps.toList ∧ ∀ (pos : Pos) (cv : Value), codeAmong pos ps.toList = some cv → ∃ c, cv = .ref c ∧ B c = some (LamX.CodeO c q)
/-- what stands at a -/
def OO (K : Frag) (B : Hp) (μ : List Addr) (H : Hp) (a : Addr) : MO → Prop
  | .lst ds => ∃ vs, H a = some (.lst vs) ∧ RvL K B vs ds
  | .dic ds => ∃ vs, H a = some (.dK vs) ∧ RvK K B vs ds
  | .ins C fs => ∃ dx vs, H a = some (.ins C dx vs) ∧ RWf K B μ vs fs
  | .bag => BagB B H a
  | .tab p q => a = p ∧ TabB B H a q
  | .gone => True
/-- a lives: at it stands an own object -/
def Live (μ : List Addr) (mem : List MO) (a : Addr) : Prop := ∃ (n : Nat) (m : MO), μ[n]? = some a ∧ mem[n]? = some m ∧ m.live = true
structure MemOk (K : Frag) (B : Hp) (μ : List Addr) (mem : List MO) (H : Hp) : Prop where
  le : Le B H
  len : μ.length = mem.length
  off : ∀ a, Live μ mem a → B a = none
  at_ : ∀ (n : Nat) (a : Addr) (m : MO), μ[n]? = some a → mem[n]? = some m → m.live = true → OO K B μ H a m
  inj : ∀ (n k : Nat) (a : Addr) (m m' : MO), μ[n]? = some a → μ[k]? = some a → mem[n]? = some m → mem[k]? = some m' → m.live = true → m'.live = true → n = k
  ntb : ∀ (a : Addr) (ps : Array Value), B a ≠ some (.tbl ps)
structure Rel (K : Frag) (B : Hp) (μ : List Addr) (env : En) (mem : Me) (σ : L2.St) (H : Hp) : Prop where
  mem : MemOk K B μ mem H
  len : σ.length = env.length
  env : ∀ (i : Nat) (x : W), env[i]? = some (some x) → ∃ v, σ[i]? = some (some v) ∧ RW K B μ v x
/-- from one state to a later one -/
structure Stp (B : Hp) (μ : List Addr) (mem : List MO) (H : Hp) (B' : Hp) (μ' : List Addr) (mem' : List MO) (H' : Hp) : Prop where
  same : Same B B'
  pre : μ <+: μ'
  out : ∀ a o, ¬ Live μ mem a → H a = some o → (∀ ps, o ≠ .tbl ps) → H' a = some o
  hid : ∀ a o, ¬ Live μ mem a → H a = some o → ((∀ q, o ≠ LamX.CodeO a q) ∧ ∀ ps, o ≠ .tbl ps) → B a = none → B' a = none ∧ ¬ Live μ' mem' a
theorem Stp.refl {B : Hp} {μ : List Addr} {mem : List MO} {H : Hp} : Stp B μ mem H B μ mem H := ⟨Same.refl _, List.prefix_refl _, fun _ _ _ h _ => h, fun _ _ n _ _ b => ⟨b, n⟩⟩
theorem pre_at {μ μ' : List Addr} {n : Nat} {a : Addr} (h : μ <+: μ') (e : μ[n]? = some a) : μ'[n]? = some a := by
  obtain ⟨t, rfl⟩ := h
  rw [List.getElem?_append_left (List.getElem?_eq_some_iff.mp e).1]
  exact e
theorem RW.to {K : Frag} {B B' : Hp} {μ μ' : List Addr} (s : Same B B') (p : μ <+: μ') : ∀ {v : V} {w : W}, RW K B μ v w → RW K B' μ' v w
  | _, .v _, h => Rv.to s h
  | _, .loc _, ⟨a, e, h⟩ => ⟨a, e, pre_at p h⟩
theorem RWs.to {K : Frag} {B B' : Hp} {μ μ' : List Addr} (s : Same B B') (p : μ <+: μ') : ∀ {v : List V} {w : List W}, RWs K B μ v w → RWs K B' μ' v w
  | _, _, .nil => .nil
  | _, _, .cons h t => .cons (RW.to s p h) (RWs.to s p t)
theorem RWf.to {K : Frag} {B B' : Hp} {μ μ' : List Addr} (s : Same B B') (p : μ <+: μ') : ∀ {v : List (Str × V)} {w : List (Str × W)}, RWf K B μ v w → RWf K B' μ' v w
  | _, _, .nil => .nil
  | _, _, .cons h t => .cons (RW.to s p h) (RWf.to s p t)
theorem RWs.len {K : Frag} {B : Hp} {μ : List Addr} : ∀ {v : List V} {w : List W}, RWs K B μ v w → v.length = w.length
  | _, _, .nil => rfl
  | _, _, .cons _ t => congrArg Nat.succ (RWs.len t)
theorem OO.to {K : Frag} {B B' : Hp} {μ μ' : List Addr} {H H' : Hp} {a : Addr} (s : Same B B') (p : μ <+: μ') (e : ∀ o, H a = some o → H' a = some o) : ∀ {m : MO}, OO K B μ H a m → OO K B' μ' H' a m
  | .lst _, ⟨vs, h, r⟩ => ⟨vs, e _ h, RvL.to s r⟩
  | .dic _, ⟨vs, h, r⟩ => ⟨vs, e _ h, RvK.to s r⟩
  | .ins _ _, ⟨dx, vs, h, r⟩ => ⟨dx, vs, e _ h, RWf.to s p r⟩
  | .bag, ⟨l, i, r, sd, ns, h, hl, k⟩ => ⟨l, i, r, sd, ns, e _ h, s _ _ hl, k⟩
  | .tab _ _, ⟨z, ps, h, h2, h3⟩ => ⟨z, ps, e _ h, h2, fun pos cv z => let ⟨c, e1, e2⟩ := h3 pos cv z; ⟨c, e1, s _ _ e2⟩⟩
  | .gone, _ => trivial
theorem OO.there {K : Frag} {B : Hp} {μ : List Addr} {H : Hp} {a : Addr} : ∀ {m : MO}, m.live = true → OO K B μ H a m → H a ≠ none
  | .lst _, _, ⟨vs, h, r⟩ => by rw [h]; exact fun z => nomatch z
  | .dic _, _, ⟨vs, h, r⟩ => by rw [h]; exact fun z => nomatch z
  | .ins _ _, _, ⟨dx, vs, h, r⟩ => by rw [h]; exact fun z => nomatch z
  | .bag, _, ⟨l, i, r, sd, ns, h, hl, k⟩ => by rw [h]; exact fun z => nomatch z
  | .tab _ _, _, ⟨_, ps, h, _⟩ => by rw [h]; exact fun z => nomatch z
theorem OO.noext {K : Frag} {B : Hp} {μ : List Addr} {H : Hp} {a : Addr} {φ : Heap → Prop} : ∀ {m : MO}, m.live = true → OO K B μ H a m → H a ≠ some (.ext φ)
  | .lst _, _, ⟨vs, h, r⟩ => by rw [h]; exact fun z => nomatch z
  | .dic _, _, ⟨vs, h, r⟩ => by rw [h]; exact fun z => nomatch z
  | .ins _ _, _, ⟨dx, vs, h, r⟩ => by rw [h]; exact fun z => nomatch z
  | .bag, _, ⟨l, i, r, sd, ns, h, hl, k⟩ => by rw [h]; exact fun z => nomatch z
  | .tab _ _, _, ⟨_, ps, h, _⟩ => by rw [h]; exact fun z => nomatch z
theorem Stp.trans {K : Frag} {B B1 B2 : Hp} {μ μ1 μ2 : List Addr} {mem mem1 mem2 : List MO} {H H1 H2 : Hp} (a : Stp B μ mem H B1 μ1 mem1 H1) (m1 : MemOk K B1 μ1 mem1 H1) (b : Stp B1 μ1 mem1 H1 B2 μ2 mem2 H2) (le : Le B H) : Stp B μ mem H B2 μ2 mem2 H2 where
  same := a.same.trans b.same
  pre := a.pre.trans b.pre
  out := fun x o n h nt => by
    have h1 := a.out x o n h nt
    refine b.out x o (fun l => ?_) h1 nt
    have z := m1.off x l
    cases e : B x with
    | some u => rw [a.same _ _ e] at z; cases z
    | none =>
      cases o with
      | ext φ =>
        obtain ⟨k, mo, e1, e2, e3⟩ := l
        exact OO.noext e3 (m1.at_ k x mo e1 e2 e3) h1
      | tbl ps => exact nt ps rfl
      | _ => exact (a.hid x _ n h ⟨(fun _ z => nomatch z), (fun _ z => nomatch z)⟩ e).2 l
  hid := fun x o n h ne e => by
    obtain ⟨e1, n1⟩ := a.hid x o n h ne e
    exact b.hid x o n1 (a.out x o n h ne.2) ne e1
theorem MemOk.there {K : Frag} {B : Hp} {μ : List Addr} {mem : List MO} {H : Hp} (h : MemOk K B μ mem H) {a : Addr} (l : Live μ mem a) : H a ≠ none := by
  obtain ⟨n, m, h1, h2, h3⟩ := l
  exact OO.there h3 (h.at_ n a m h1 h2 h3)
/-- a new datum is laid beside all -/
theorem MemOk.laid {K : Frag} {B : Hp} {μ : List Addr} {mem : List MO} {H : Hp} (h : MemOk K B μ mem H) {p : Addr} {o : HO} (np : H p = none) (no : ∀ ps, o ≠ .tbl ps := by exact fun _ z => nomatch z) : MemOk K (upd B p o) μ mem (upd H p o) := by
  have nb : B p = none := by
    cases e : B p with
    | none => rfl
    | some u => exact absurd np (h.le.some e)
  refine ⟨fun a u e => ?_, h.len, fun a l => ?_, fun n a m e1 e2 e3 => ?_, h.inj, fun a ps e => by
    by_cases c : a = p
    · subst c
      rw [upd_same] at e
      exact no ps (Option.some.inj e)
    · rw [upd_ne c] at e
      exact h.ntb a ps e⟩
  · by_cases c : a = p
    · subst c
      rw [upd_same] at e
      rw [upd_same]
      exact e
    · rw [upd_ne c] at e
      rw [upd_ne c]
      exact h.le a u e
  · have c : a ≠ p := fun z => by subst z; exact h.there l np
    rw [upd_ne c]
    exact h.off a l
  · have c : a ≠ p := fun z => by subst z; exact h.there ⟨n, m, e1, e2, e3⟩ np
    exact OO.to (same_new nb o) (List.prefix_refl _) (fun u q => by rw [upd_ne c]; exact q) (h.at_ n a m e1 e2 e3)
theorem Stp.laid {K : Frag} {B : Hp} {μ : List Addr} {mem : List MO} {H : Hp} (h : MemOk K B μ mem H) {p : Addr} {o : HO} (np : H p = none) : Stp B μ mem H (upd B p o) μ mem (upd H p o) := by
  have nb : B p = none := by
    cases e : B p with
    | none => rfl
    | some u => exact absurd np (h.le.some e)
  refine ⟨same_new nb o, List.prefix_refl _, fun a u _ e _ => ?_, fun a o' n e _ b => ⟨?_, n⟩⟩
  · rw [upd_ne (ne_of_none e np)]
    exact e
  · have c : a ≠ p := ne_of_none e np
    rw [upd_ne c]
    exact b
theorem laid_same {K : Frag} {B : Hp} {μ : List Addr} {mem : List MO} {H : Hp} (h : MemOk K B μ mem H) {p : Addr} {o : HO} (np : H p = none) : Same B (upd B p o) := (Stp.laid h np (o := o)).same
/-- a new own object -/
theorem MemOk.push {K : Frag} {B : Hp} {μ : List Addr} {mem : List MO} {H H' : Hp} (h : MemOk K B μ mem H) {p : Addr} {m : MO} (np : H p = none) (le : Le B H') (keep : ∀ a o, a ≠ p → H a = some o → H' a = some o) (new : OO K B (μ ++ [p]) H' p m) : MemOk K B (μ ++ [p]) (mem ++ [m]) H' := by
  have nb : B p = none := by
    cases e : B p with
    | none => rfl
    | some u => exact absurd np (h.le.some e)
  have sp : ∀ {n : Nat} {a : Addr}, (μ ++ [p])[n]? = some a → (μ[n]? = some a) ∨ (n = mem.length ∧ a = p) := fun {n a} e => by
    by_cases c : n < μ.length
    · rw [List.getElem?_append_left c] at e
      exact .inl e
    · rw [List.getElem?_append_right (by omega)] at e
      have z := (List.getElem?_eq_some_iff.mp e).1
      simp at z
      have z2 : n = μ.length := by omega
      subst z2
      simp at e
      exact .inr ⟨h.len, e.symm⟩
  have sm : ∀ {n : Nat} {x : MO} {a : Addr}, μ[n]? = some a → (mem ++ [m])[n]? = some x → mem[n]? = some x := fun {n x a} e q => by
    have z := (List.getElem?_eq_some_iff.mp e).1
    rw [List.getElem?_append_left (by have := h.len; omega)] at q
    exact q
  refine ⟨le, by simp [h.len], fun a l => ?_, fun n a x e1 e2 e3 => ?_, fun n k a x y e1 e2 e3 e4 l1 l2 => ?_, h.ntb⟩
  · obtain ⟨n, x, e1, e2, e3⟩ := l
    rcases sp e1 with e | ⟨_, rfl⟩
    · exact h.off a ⟨n, x, e, sm e e2, e3⟩
    · exact nb
  · rcases sp e1 with e | ⟨rfl, rfl⟩
    · have q := h.at_ n a x e (sm e e2) e3
      have c : a ≠ p := fun z => by subst z; exact OO.there e3 q np
      exact OO.to (Same.refl _) (List.prefix_append _ _) (fun u z => keep a u c z) q
    · rw [List.getElem?_append_right (Nat.le_refl _), Nat.sub_self] at e2
      have z : m = x := Option.some.inj e2
      subst z
      exact new
  · rcases sp e1 with u1 | ⟨rfl, rfl⟩
    · rcases sp e2 with u2 | ⟨rfl, rfl⟩
      · exact h.inj n k a x y u1 u2 (sm u1 e3) (sm u2 e4) l1 l2
      · exact absurd np (OO.there l1 (h.at_ n _ x u1 (sm u1 e3) l1))
    · rcases sp e2 with u2 | ⟨rfl, _⟩
      · exact absurd np (OO.there l2 (h.at_ k _ y u2 (sm u2 e4) l2))
      · rfl
theorem Stp.push {K : Frag} {B : Hp} {μ : List Addr} {mem : List MO} {H H' : Hp} (h : MemOk K B μ mem H) {p : Addr} {m : MO} (np : H p = none) (keep : ∀ a o, a ≠ p → H a = some o → H' a = some o) : Stp B μ mem H B (μ ++ [p]) (mem ++ [m]) H' := by
  refine ⟨Same.refl _, List.prefix_append _ _, fun a o _ e _ => keep a o (ne_of_none e np) e, fun a o n e _ b => ⟨b, fun l => ?_⟩⟩
  obtain ⟨k, x, e1, e2, e3⟩ := l
  by_cases c : k < μ.length
  · rw [List.getElem?_append_left c] at e1
    rw [List.getElem?_append_left (by have := h.len; omega)] at e2
    exact n ⟨k, x, e1, e2, e3⟩
  · rw [List.getElem?_append_right (by omega)] at e1
    have z := List.mem_of_getElem? e1
    rw [List.mem_singleton] at z
    rw [z, np] at e
    cases e
/-- an own object is changed -/
theorem MemOk.store {K : Frag} {B : Hp} {μ : List Addr} {mem : List MO} {H H' : Hp} (h : MemOk K B μ mem H) {n : Nat} {a : Addr} {m m' : MO} (ha : μ[n]? = some a) (hm : mem[n]? = some m) (hl : m.live = true) (hl' : m'.live = true) (keep : ∀ b o, b ≠ a → H b = some o → H' b = some o) (new : OO K B μ H' a m') : MemOk K B μ (mem.set n m') H' := by
  have lv : ∀ {k : Nat} {x : MO}, (mem.set n m')[k]? = some x → x.live = true → ∃ y, mem[k]? = some y ∧ y.live = true := fun {k x} e l => by
    by_cases c : k = n
    · subst c
      exact ⟨m, hm, hl⟩
    · rw [List.getElem?_set_ne (fun z => c z.symm)] at e
      exact ⟨x, e, l⟩
  have off : ∀ b, Live μ (mem.set n m') b → B b = none := fun b l => by
    obtain ⟨k, x, e1, e2, e3⟩ := l
    obtain ⟨y, e4, e5⟩ := lv e2 e3
    exact h.off b ⟨k, y, e1, e4, e5⟩
  have nb := h.off a ⟨n, m, ha, hm, hl⟩
  refine ⟨fun b u e => ?_, by simp [h.len], off, fun k b x e1 e2 e3 => ?_, fun k j b x y e1 e2 e3 e4 l1 l2 => ?_, h.ntb⟩
  · have c : b ≠ a := ne_of_none e nb
    exact keep b u c (h.le b u e)
  · by_cases c : k = n
    · subst c
      rw [List.getElem?_set_self (List.getElem?_eq_some_iff.mp hm).1] at e2
      have z : m' = x := Option.some.inj e2
      subst z
      have z2 : a = b := Option.some.inj (ha.symm.trans e1)
      subst z2
      exact new
    · rw [List.getElem?_set_ne (fun z => c z.symm)] at e2
      have ne : b ≠ a := fun z => by
        subst z
        exact c (h.inj k n b x m e1 ha e2 hm e3 hl)
      exact OO.to (Same.refl _) (List.prefix_refl _) (fun u z => keep b u ne z) (h.at_ k b x e1 e2 e3)
  · obtain ⟨x', q1, q2⟩ := lv e3 l1
    obtain ⟨y', q3, q4⟩ := lv e4 l2
    exact h.inj k j b x' y' e1 e2 q1 q3 q2 q4
theorem Stp.store {B : Hp} {μ : List Addr} {mem : List MO} {H H' : Hp} {n : Nat} {a : Addr} {m m' : MO} (ha : μ[n]? = some a) (hm : mem[n]? = some m) (hl : m.live = true) (keep : ∀ b o, b ≠ a → H b = some o → H' b = some o) : Stp B μ mem H B μ (mem.set n m') H' := by
  have la : Live μ mem a := ⟨n, m, ha, hm, hl⟩
  refine ⟨Same.refl _, List.prefix_refl _, fun b o nl e _ => keep b o (fun z => nl (z ▸ la)) e, fun b o nl e _ q => ⟨q, fun l => ?_⟩⟩
  obtain ⟨k, x, e1, e2, e3⟩ := l
  by_cases c : k = n
  · subst c
    have z2 : a = b := Option.some.inj (ha.symm.trans e1)
    exact nl (z2 ▸ la)
  · rw [List.getElem?_set_ne (fun z => c z.symm)] at e2
    exact nl ⟨k, x, e1, e2, e3⟩
/-- an own object becomes a datum: B grows by what stands at a -/
theorem MemOk.freeze {K : Frag} {B : Hp} {μ : List Addr} {mem : List MO} {H : Hp} (h : MemOk K B μ mem H) {n : Nat} {a : Addr} {m : MO} {o : HO} (ha : μ[n]? = some a) (hm : mem[n]? = some m) (hl : m.live = true) (ho : H a = some o) (no : ∀ ps, o ≠ .tbl ps := by exact fun _ z => nomatch z) : MemOk K (upd B a o) μ (mem.set n .gone) H := by
  have nb := h.off a ⟨n, m, ha, hm, hl⟩
  have lv : ∀ {k : Nat} {x : MO}, (mem.set n .gone)[k]? = some x → x.live = true → k ≠ n ∧ mem[k]? = some x := fun {k x} e l => by
    by_cases c : k = n
    · subst c
      rw [List.getElem?_set_self (List.getElem?_eq_some_iff.mp hm).1] at e
      cases e
      cases l
    · rw [List.getElem?_set_ne (fun z => c z.symm)] at e
      exact ⟨c, e⟩
  refine ⟨fun b u e => ?_, by simp [h.len], fun b l => ?_, fun k b x e1 e2 e3 => ?_, fun k j b x y e1 e2 e3 e4 l1 l2 => ?_, fun b ps e => by
    by_cases c : b = a
    · subst c
      rw [upd_same] at e
      exact no ps (Option.some.inj e)
    · rw [upd_ne c] at e
      exact h.ntb b ps e⟩
  · by_cases c : b = a
    · subst c
      rw [upd_same] at e
      cases e
      exact ho
    · rw [upd_ne c] at e
      exact h.le b u e
  · obtain ⟨k, x, e1, e2, e3⟩ := l
    obtain ⟨c, e4⟩ := lv e2 e3
    have ne : b ≠ a := fun z => by
      subst z
      exact c (h.inj k n b x m e1 ha e4 hm e3 hl)
    rw [upd_ne ne]
    exact h.off b ⟨k, x, e1, e4, e3⟩
  · obtain ⟨c, e4⟩ := lv e2 e3
    exact OO.to (same_new nb o) (List.prefix_refl _) (fun _ z => z) (h.at_ k b x e1 e4 e3)
  · exact h.inj k j b x y e1 e2 (lv e3 l1).2 (lv e4 l2).2 l1 l2
theorem Stp.freeze {B : Hp} {μ : List Addr} {mem : List MO} {H : Hp} {n : Nat} {a : Addr} {m : MO} {o : HO} (ha : μ[n]? = some a) (hm : mem[n]? = some m) (hl : m.live = true) (nb : B a = none) : Stp B μ mem H (upd B a o) μ (mem.set n .gone) H := by
  have la : Live μ mem a := ⟨n, m, ha, hm, hl⟩
  refine ⟨same_new nb o, List.prefix_refl _, fun _ _ _ e _ => e, fun b _ nl e _ q => ⟨?_, fun l => ?_⟩⟩
  · have ne : b ≠ a := fun z => by
      subst z
      exact nl la
    rw [upd_ne ne]
    exact q
  · obtain ⟨k, x, e1, e2, e3⟩ := l
    by_cases c : k = n
    · subst c
      rw [List.getElem?_set_self (List.getElem?_eq_some_iff.mp hm).1] at e2
      cases e2
      cases e3
    · rw [List.getElem?_set_ne (fun z => c z.symm)] at e2
      exact nl ⟨k, x, e1, e2, e3⟩
/-- forgetting own objects: those behind the first n -/
theorem Live.take {μ : List Addr} {mem : List MO} {n : Nat} {a : Addr} (l : Live (μ.take n) (mem.take n) a) : Live μ mem a := by
  obtain ⟨k, x, e1, e2, e3⟩ := l
  rw [List.getElem?_take] at e1 e2
  by_cases c : k < n
  · rw [if_pos c] at e1 e2
    exact ⟨k, x, e1, e2, e3⟩
  · rw [if_neg c] at e1
    cases e1
end Fs
set_option Elab.async false
set_option linter.all false
set_option maxRecDepth 100000
set_option maxHeartbeats 8000000
namespace Fs
open PySem PySem.Spec PyProof.Rows L2
theorem RW.d {K : Frag} {B : Hp} {μ : List Addr} {v : V} {d : D} (h : Rv K B v d) : RW K B μ v (.v d) := h
theorem RW.back {K : Frag} {B B' : Hp} {μ μ' : List Addr} {u v : V} (bk : ∀ {n : Nat} {a : Addr}, n < μ.length → μ'[n]? = some a → μ[n]? = some a) : ∀ {w : W}, RW K B μ u w → RW K B' μ' v w → RW K B' μ v w
  | .v _, _, h => h
  | .loc _, ⟨_, _, m0⟩, ⟨a1, e1, m1⟩ => ⟨a1, e1, bk (List.getElem?_eq_some_iff.mp m0).1 m1⟩
theorem RWf.back {K : Frag} {B B' : Hp} {μ μ' : List Addr} (bk : ∀ {n : Nat} {a : Addr}, n < μ.length → μ'[n]? = some a → μ[n]? = some a) : ∀ {us vs : List (Str × V)} {ws : List (Str × W)}, RWf K B μ us ws → RWf K B' μ' vs ws → RWf K B' μ vs ws
  | _, _, _, .nil, .nil => .nil
  | _, _, _, .cons a t, .cons b u => .cons (RW.back bk a b) (RWf.back bk t u)
theorem MemOk.drop {K : Frag} {B B' : Hp} {μ μ' : List Addr} {mem more : List MO} {H H' : Hp} (h0 : MemOk K B μ mem H) (p : μ <+: μ') (h : MemOk K B' μ' (mem ++ more) H') : MemOk K B' μ mem H' := by
  have up : ∀ {n : Nat} {m : MO}, mem[n]? = some m → (mem ++ more)[n]? = some m := fun {n m} e => by
    rw [List.getElem?_append_left (List.getElem?_eq_some_iff.mp e).1]
    exact e
  have bk : ∀ {n : Nat} {a : Addr}, n < μ.length → μ'[n]? = some a → μ[n]? = some a := fun {n a} l e => by
    obtain ⟨t, rfl⟩ := p
    rw [List.getElem?_append_left l] at e
    exact e
  refine ⟨h.le, h0.len, fun a l => ?_, fun n a m e1 e2 e3 => ?_, fun n k a m m' e1 e2 e3 e4 l1 l2 => ?_, h.ntb⟩
  · obtain ⟨n, m, e1, e2, e3⟩ := l
    exact h.off a ⟨n, m, pre_at p e1, up e2, e3⟩
  · have q0 := h0.at_ n a m e1 e2 e3
    have q := h.at_ n a m (pre_at p e1) (up e2) e3
    cases m with
    | lst ds => exact q
    | dic ds => exact q
    | bag => exact q
    | gone => trivial
    | tab _ _ => exact q
    | ins C fs =>
      obtain ⟨dx0, vs0, _, r0⟩ := q0
      obtain ⟨dx, vs, hh, r⟩ := q
      exact ⟨dx, vs, hh, RWf.back bk r0 r⟩
  · exact h.inj n k a m m' (pre_at p e1) (pre_at p e2) (up e3) (up e4) l1 l2
theorem Stp.drop {B B' : Hp} {μ μ' : List Addr} {mem more : List MO} {H H' : Hp} (s : Stp B μ mem H B' μ' (mem ++ more) H') : Stp B μ mem H B' μ mem H' :=
  ⟨s.same, List.prefix_refl _, s.out, fun a o n e x b => ⟨(s.hid a o n e x b).1, n⟩⟩
/-! ### judgements -/
/-- what is raised reaches E -/
def ExOf (K : Frag) (E : XK) (B : Hp) (μ : List Addr) (mem : List MO) (H : Hp) (Qx : Er → List MO → Prop) : Prop :=
  ∀ B' μ' mem' H' (er : Er) (dd : Addr) fvs, Stp B μ mem H B' μ' mem' H' → MemOk K B' μ' mem' H' → H' dd = some (.xd fvs) → RvF K B' fvs er.fs → Qx er mem' → E (.ref er.C) (some dd) H'
theorem ExOf.step {K : Frag} {E : XK} {B B1 : Hp} {μ μ1 : List Addr} {mem mem1 : List MO} {H H1 : Hp} {Qx : Er → List MO → Prop} (h : ExOf K E B μ mem H Qx) (s : Stp B μ mem H B1 μ1 mem1 H1) (m1 : MemOk K B1 μ1 mem1 H1) (le : Le B H) : ExOf K E B1 μ1 mem1 H1 Qx :=
  fun B' μ' mem' H' er dd fvs s' m' hd r q => h B' μ' mem' H' er dd fvs (s.trans m1 s' le) m' hd r q
abbrev QX := Er → Me → Prop
abbrev DTE := En → Me → (W → Me → Prop) → QX → Prop
abbrev DTA := En → Me → (List W → Me → Prop) → QX → Prop
abbrev DTT := En → Me → (Bool → Me → Prop) → QX → Prop
def SE (X : Cx) (E : XK) (t : TE) (T : DTE) : Prop := ∀ B μ en m σ H (Q : W → Me → Prop) (Qx : QX) (QV : VK), Rel X.K B μ en m σ H → ExOf X.K E B μ m H Qx → T en m Q Qx →
  (∀ B' μ' m' H' x v, Stp B μ m H B' μ' m' H' → Rel X.K B' μ' en m' σ H' → RW X.K B' μ' v x → Q x m' → QV v H') → t σ H QV
def SA (X : Cx) (E : XK) (t : TA) (T : DTA) : Prop := ∀ B μ en m σ H (Q : List W → Me → Prop) (Qx : QX) (QV : List V → Hp → Prop), Rel X.K B μ en m σ H → ExOf X.K E B μ m H Qx → T en m Q Qx →
  (∀ B' μ' m' H' x v, Stp B μ m H B' μ' m' H' → Rel X.K B' μ' en m' σ H' → RWs X.K B' μ' v x → Q x m' → QV v H') → t σ H QV
def ST (X : Cx) (E : XK) (t : TT) (T : DTT) : Prop := ∀ B μ en m σ H (Q : Bool → Me → Prop) (Qx : QX) (QV : Bool → Hp → Prop), Rel X.K B μ en m σ H → ExOf X.K E B μ m H Qx → T en m Q Qx →
  (∀ B' μ' m' H' b, Stp B μ m H B' μ' m' H' → Rel X.K B' μ' en m' σ H' → Q b m' → QV b H') → t σ H QV
structure DE (X : Cx) (E : XK) (e : Expr) (T : DTE) : Prop where
  ex : ∃ t, PE X e t ∧ SE X E t T
structure DA (X : Cx) (E : XK) (es : List Expr) (T : DTA) : Prop where
  ex : ∃ t, PA X es t ∧ SA X E t T
structure DT (X : Cx) (E : XK) (e : Expr) (T : DTT) : Prop where
  ex : ∃ t, PT X e t ∧ ST X E t T
structure DW (X : Cx) (E : XK) (e : Expr) (T : DTT) : Prop where
  ex : ∃ t, PW X e t ∧ ST X E t T
/-- what is wanted behind a statement -/
structure Dn where
  nx : En → Me → Prop
  rt : W → Me → Prop
  bk : En → Me → Prop
  ct : En → Me → Prop
  xc : QX
abbrev DTS := En → Me → Dn → Prop
def NxOf (K : Frag) (B : Hp) (μ : List Addr) (mem : Me) (H : Hp) (N : En → Me → Prop) (n : L2.St → Hp → Prop) : Prop := ∀ B' μ' en' m' σ' H', Stp B μ mem H B' μ' m' H' → Rel K B' μ' en' m' σ' H' → N en' m' → n σ' H'
def RtOf (K : Frag) (B : Hp) (μ : List Addr) (mem : Me) (H : Hp) (N : W → Me → Prop) (n : VK) : Prop := ∀ B' μ' mem' H' x v, Stp B μ mem H B' μ' mem' H' → MemOk K B' μ' mem' H' → RW K B' μ' v x → N x mem' → n v H'
structure EndsOf (K : Frag) (B : Hp) (μ : List Addr) (mem : Me) (H : Hp) (N : Dn) (D : Ends) : Prop where
  nx : NxOf K B μ mem H N.nx D.nx
  rt : RtOf K B μ mem H N.rt D.rt
  bk : NxOf K B μ mem H N.bk D.bk
  ct : NxOf K B μ mem H N.ct D.ct
theorem NxOf.step {K : Frag} {B B1 : Hp} {μ μ1 : List Addr} {mem mem1 : Me} {H H1 : Hp} {N n} (h : NxOf K B μ mem H N n) (s : Stp B μ mem H B1 μ1 mem1 H1) (m1 : MemOk K B1 μ1 mem1 H1) (le : Le B H) : NxOf K B1 μ1 mem1 H1 N n :=
  fun B' μ' en' m' σ' H' s' r q => h B' μ' en' m' σ' H' (s.trans m1 s' le) r q
theorem RtOf.step {K : Frag} {B B1 : Hp} {μ μ1 : List Addr} {mem mem1 : Me} {H H1 : Hp} {N n} (h : RtOf K B μ mem H N n) (s : Stp B μ mem H B1 μ1 mem1 H1) (m1 : MemOk K B1 μ1 mem1 H1) (le : Le B H) : RtOf K B1 μ1 mem1 H1 N n :=
  fun B' μ' mem' H' x v s' m r q => h B' μ' mem' H' x v (s.trans m1 s' le) m r q
theorem EndsOf.step {K : Frag} {B B1 : Hp} {μ μ1 : List Addr} {mem mem1 : Me} {H H1 : Hp} {N : Dn} {D : Ends} (h : EndsOf K B μ mem H N D) (s : Stp B μ mem H B1 μ1 mem1 H1) (m1 : MemOk K B1 μ1 mem1 H1) (le : Le B H) : EndsOf K B1 μ1 mem1 H1 N D :=
  ⟨h.nx.step s m1 le, h.rt.step s m1 le, h.bk.step s m1 le, h.ct.step s m1 le⟩
def SS (X : Cx) (E : XK) (t : TS) (T : DTS) : Prop := ∀ B μ en m σ H (N : Dn) (D : Ends), Rel X.K B μ en m σ H → ExOf X.K E B μ m H N.xc → T en m N → EndsOf X.K B μ m H N D → t D σ H
structure DS (X : Cx) (E : XK) (st : Stmt) (T : DTS) : Prop where
  ex : ∃ t, PS X st t ∧ SS X E t T
structure DSs (X : Cx) (E : XK) (st : List Stmt) (T : DTS) : Prop where
  ex : ∃ t, PSs X st t ∧ SS X E t T
/-! ### names, constants -/
def En.get (en : En) (i : Nat) : Option W := (en[i]?).getD none
/-- a slot's value -/
def tV (i : Nat) : DTE := fun en m Q _ => match En.get en i with
  | some x => Q x m
  | none => False
def tK (d : D) : DTE := fun _ m Q _ => Q (.v d) m
section
variable {X : Cx} {E : XK}
theorem En.get_some {en : En} {i : Nat} {x : W} (h : En.get en i = some x) : en[i]? = some (some x) := by
  unfold En.get at h
  cases e : en[i]? with
  | none => rw [e] at h; cases h
  | some y =>
    rw [e] at h
    cases h
    rfl
theorem d_var {i : Nat} {x : Str} {pos : Pos} (hN : X.N[i]? = some x) (hv : Vis X.env.scope x) (hd : (x == ("__debug__" : Str)) = false := by decide) (hcd : (x == ("__classdict__" : Str)) = false := by decide) : DE X E (.Name x pos) (tV i) := by
  refine ⟨_, pe_var hN hv hd hcd, fun B μ en m σ H Q Qx QV R hx T k => ?_⟩
  unfold tV at T
  split at T
  · rename_i x e
    obtain ⟨v, hv, rv⟩ := R.env i x (En.get_some e)
    exact ⟨v, hv, k B μ m H x v .refl R rv T⟩
  · exact T.elim
theorem SE.const {v : V} {d : D} (h : ∀ B, Rv X.K B v d) : SE X E (tC v) (tK d) := fun B μ en m σ H Q Qx QV R hx T k => k B μ m H (.v d) v .refl R (h B) T
theorem d_int {i j pos} : DE X E (.Constant (.int i) j pos) (tK (.int i)) := ⟨_, pe_int, SE.const fun _ => .int i⟩
theorem d_bl {b j pos} : DE X E (.Constant (.bool b) j pos) (tK (.bl b)) := ⟨_, pe_bl, SE.const fun _ => .bl b⟩
theorem d_non {j pos} : DE X E (.Constant .none j pos) (tK .non) := ⟨_, pe_non, SE.const fun _ => .non⟩
theorem d_str {x j pos} (h : PySem.PyData.strOk x = true := by decide +kernel) : DE X E (.Constant (.str x) j pos) (tK (.str x)) := ⟨_, pe_str, SE.const fun _ => .str h⟩
/-- a module's constant -/
theorem d_glob {x : Str} {v : V} {d : D} {u : Value} {pos : Pos} (hm : X.mg x = some u) (r : RelV v u) (hr : ∀ B, Rv X.K B v d) (hg : Gl X x := by rfl) (hd : (x == ("__debug__" : Str)) = false := by decide) : DE X E (.Name x pos) (tK d) :=
  ⟨_, pe_glob hg hm r hd, SE.const hr⟩
/-- a built-in type -/
theorem d_ty {x : Str} {n : String} {pos : Pos} (hm : X.mg x = none) (hv : bootBuiltins x = some (.type n)) (hg : Gl X x := by rfl) (hn : x ≠ "__name__" := by decide) (hd : (x == ("__debug__" : Str)) = false := by decide) : DE X E (.Name x pos) (tK (.ty n)) :=
  ⟨_, pe_bltn (v := .ty n) hg hm hv rfl hn hd, SE.const fun _ => .ty n⟩
/-! ### argument lists -/
def tN : DTA := fun _ m Q _ => Q [] m
def tCn (te : DTE) (ta : DTA) : DTA := fun en m Q Qx => te en m (fun x m1 => ta en m1 (fun xs m2 => Q (x :: xs) m2) Qx) Qx
theorem da_nil : DA X E [] tN := ⟨_, pa_nil, fun B μ en m σ H Q Qx QV R hx T k => k B μ m H [] [] .refl R .nil T⟩
theorem da_cons {e : Expr} {es : List Expr} {te : DTE} {ta : DTA} (he : DE X E e te) (ha : DA X E es ta) (hs : starEach (e :: es) X.env = (false, eval e X.env) :: starEach es X.env := by rfl) : DA X E (e :: es) (tCn te ta) := by
  obtain ⟨t1, p1, k1⟩ := he.ex
  obtain ⟨t2, p2, k2⟩ := ha.ex
  refine ⟨_, pa_cons p1 p2 hs, fun B μ en m σ H Q Qx QV R hx T k => ?_⟩
  refine k1 B μ en m σ H _ Qx _ R hx T fun B1 μ1 m1 H1 x v s1 R1 r1 T1 => ?_
  refine k2 B1 μ1 en m1 σ H1 _ Qx _ R1 (hx.step s1 R1.mem R.mem.le) T1 fun B2 μ2 m2 H2 xs vs s2 R2 r2 T2 => ?_
  exact k B2 μ2 m2 H2 _ _ (s1.trans R1.mem s2 R.mem.le) R2 (.cons (r1.to s2.same s2.pre) r2) T2
/-! ### operations on data -/
/-- a two-place operation: what is asked, what comes -/
abbrev DOp := W → W → Me → (D → Prop) → Prop
def SO (X : Cx) (r : R2) (o : DOp) : Prop := ∀ B μ mem H x y v u (Q : D → Prop) (QV : VK), MemOk X.K B μ mem H → RW X.K B μ v x → RW X.K B μ u y → o x y mem Q →
  (∀ B' H' d z, Stp B μ mem H B' μ mem H' → MemOk X.K B' μ mem H' → Rv X.K B' z d → Q d → QV z H') → r v u H QV
/-- r keeps it: the result lies beside all -/
def OpD (X : Cx) (f : Value → Value → Sem Value) (o : DOp) : Prop := ∃ r : R2, OpR X f r ∧ SO X r o
def tO2 (o : DOp) (ta tb : DTE) : DTE := fun en m Q Qx => ta en m (fun x m1 => tb en m1 (fun y m2 => o x y m2 fun d => Q (.v d) m2) Qx) Qx
/-- behind a step that leaves the slots -/
theorem Rel.stp {K : Frag} {B B' : Hp} {μ μ' : List Addr} {en : En} {m m' : Me} {σ : L2.St} {H H' : Hp} (R : Rel K B μ en m σ H) (s : Stp B μ m H B' μ' m' H') (mo : MemOk K B' μ' m' H') : Rel K B' μ' en m' σ H' :=
  ⟨mo, R.len, fun i x e => let ⟨v, h, r⟩ := R.env i x e; ⟨v, h, r.to s.same s.pre⟩⟩
section
variable {a b : Expr} {ta tb : DTE} {o : DOp} {pos : Pos}
theorem SE.two {r : R2} {t1 t2 : TE} (ho : SO X r o) (k1 : SE X E t1 ta) (k2 : SE X E t2 tb) : SE X E (tOp r t1 t2) (tO2 o ta tb) := by
  intro B μ en m σ H Q Qx QV R hx T k
  refine k1 B μ en m σ H _ Qx _ R hx T fun B1 μ1 m1 H1 x v s1 R1 r1 T1 => ?_
  refine k2 B1 μ1 en m1 σ H1 _ Qx _ R1 (hx.step s1 R1.mem R.mem.le) T1 fun B2 μ2 m2 H2 y u s2 R2 r2 T2 => ?_
  refine ho B2 μ2 m2 H2 x y v u _ _ R2.mem (r1.to s2.same s2.pre) r2 T2 fun B3 H3 d z s3 m3 rz q => ?_
  exact k B3 μ2 m2 H3 (.v d) z ((s1.trans R1.mem s2 R.mem.le).trans R2.mem s3 R.mem.le) (R2.stp s3 m3) rz q
theorem d_op {op : Operator} (ho : OpD X (binaryOp op) o) (ha : DE X E a ta) (hb : DE X E b tb) : DE X E (.BinOp a op b pos) (tO2 o ta tb) := by
  obtain ⟨t1, p1, k1⟩ := ha.ex
  obtain ⟨t2, p2, k2⟩ := hb.ex
  obtain ⟨r, h1, h2⟩ := ho
  exact ⟨_, pe_op h1 p1 p2, SE.two h2 k1 k2⟩
theorem d_cmp {op : CmpOp} (ho : OpD X (compareOp op) o) (ha : DE X E a ta) (hb : DE X E b tb) (hm : behindInMarks op b = false) : DE X E (.Compare a [op] [b] pos) (tO2 o ta tb) := by
  obtain ⟨t1, p1, k1⟩ := ha.ex
  obtain ⟨t2, p2, k2⟩ := hb.ex
  obtain ⟨r, h1, h2⟩ := ho
  exact ⟨_, pe_cmpR h1 p1 p2 hm, SE.two h2 k1 k2⟩
/-- a datum that is a truth value -/
def bD : W → (Bool → Prop) → Prop
  | .v (.bl b), Q => Q b
  | _, _ => False
theorem bD_ok {K : Frag} {B : Hp} {μ : List Addr} {v : V} : ∀ {x : W} {Q : Bool → Prop}, RW K B μ v x → bD x Q → ∃ b, x = .v (.bl b) ∧ v = .bl b ∧ Q b
  | .v (.bl b), _, r, q => by cases r; exact ⟨b, rfl, rfl, q⟩
  | .v .non, _, _, q => q.elim
  | .v (.int _), _, _, q => q.elim
  | .v (.str _), _, _, q => q.elim
  | .v (.ty _), _, _, q => q.elim
  | .v (.fn _), _, _, q => q.elim
  | .v (.tup _), _, _, q => q.elim
  | .v (.lst _), _, _, q => q.elim
  | .v (.dic _), _, _, q => q.elim
  | .v (.obj _ _), _, _, q => q.elim
  | .v (.exc _ _), _, _, q => q.elim
  | .loc _, _, _, q => q.elim
/-- a test by its value -/
def tBl (te : DTE) : DTT := fun en m Q Qx => te en m (fun x m1 => bD x fun b => Q b m1) Qx
theorem SE.test {t : TE} (h : SE X E t ta) : ST X E (tTest t) (tBl ta) := by
  intro B μ en m σ H Q Qx QV R hx T k
  refine h B μ en m σ H _ Qx _ R hx T fun B' μ' m' H' x v s R' r' q => ?_
  obtain ⟨b, rfl, rfl, q⟩ := bD_ok r' q
  exact ⟨b, rfl, k B' μ' m' H' b s R' q⟩
theorem dt_cmp {op : CmpOp} (ho : OpD X (compareOp op) o) (ha : DE X E a ta) (hb : DE X E b tb) (hm : behindInMarks op b = false) : DT X E (.Compare a [op] [b] pos) (tBl (tO2 o ta tb)) := by
  obtain ⟨t1, p1, k1⟩ := ha.ex
  obtain ⟨t2, p2, k2⟩ := hb.ex
  obtain ⟨r, h1, h2⟩ := ho
  exact ⟨_, pt_cmpR h1 p1 p2 hm, (SE.two h2 k1 k2).test⟩
theorem dt_val {e : Expr} {t : DTE} (h : DE X E e t) (he : ∀ whole, isTrue e X.env whole = (do let v ← whole; standAt e.pos; holding [v] (truthy v)) := by intro _; rfl) : DT X E e (tBl t) := by
  obtain ⟨t1, p1, k1⟩ := h.ex
  exact ⟨_, pt_val p1 he, k1.test⟩
/-- a op b op2 c -/
def tCh (o o2 : DOp) (ta tb tc : DTE) : DTE := fun en m Q Qx => ta en m (fun x m1 => tb en m1 (fun y m2 => o x y m2 fun d => bD (.v d) fun c => if c = true then tc en m2 (fun z m3 => o2 y z m3 fun d2 => Q (.v d2) m3) Qx else Q (.v (.bl false)) m2) Qx) Qx
theorem SE.chain {c : Expr} {tc : DTE} {o2 : DOp} {r r' : R2} {t1 t2 t3 : TE} (ho : SO X r o) (ho2 : SO X r' o2) (k1 : SE X E t1 ta) (k2 : SE X E t2 tb) (k3 : SE X E t3 tc) : SE X E (tChain r r' t1 t2 t3) (tCh o o2 ta tb tc) := by
  intro B μ en m σ H Q Qx QV R hx T k
  refine k1 B μ en m σ H _ Qx _ R hx T fun B1 μ1 m1 H1 x v s1 R1 r1 T1 => ?_
  refine k2 B1 μ1 en m1 σ H1 _ Qx _ R1 (hx.step s1 R1.mem R.mem.le) T1 fun B2 μ2 m2 H2 y u s2 R2 r2 T2 => ?_
  have s12 := s1.trans R1.mem s2 R.mem.le
  refine ho B2 μ2 m2 H2 x y v u _ _ R2.mem (r1.to s2.same s2.pre) r2 T2 fun B3 H3 d z s3 m3 rz q => ?_
  have s13 := s12.trans R2.mem s3 R.mem.le
  obtain ⟨b, hb, rfl, q⟩ := bD_ok (μ := μ2) (x := .v d) rz q
  refine ⟨b, rfl, ?_⟩
  have R3 := R2.stp s3 m3
  cases b with
  | false => exact iteF (k B3 μ2 m2 H3 (.v (.bl false)) _ s13 R3 (.bl false) q)
  | true =>
    refine iteT (k3 B3 μ2 en m2 σ H3 _ Qx _ R3 (hx.step s13 m3 R.mem.le) q fun B4 μ4 m4 H4 y2 u2 s4 R4 r4 T4 => ?_)
    refine ho2 B4 μ4 m4 H4 y y2 u u2 _ _ R4.mem ((r2.to s3.same s3.pre).to s4.same s4.pre) r4 T4 fun B5 H5 d z s5 m5 rz q => ?_
    exact k B5 μ4 m4 H5 (.v d) z ((s13.trans R3.mem s4 R.mem.le).trans R4.mem s5 R.mem.le) (R4.stp s5 m5) rz q
theorem d_chain {c : Expr} {tc : DTE} {o2 : DOp} {op op' : CmpOp} (ho : OpD X (compareOp op) o) (ho2 : OpD X (compareOp op') o2) (ha : DE X E a ta) (hb : DE X E b tb) (hc : DE X E c tc)
    (hm : lastMarks [op, op'] [b, c] = false := by with_unfolding_all rfl) : DE X E (.Compare a [op, op'] [b, c] pos) (tCh o o2 ta tb tc) := by
  obtain ⟨t1, p1, k1⟩ := ha.ex
  obtain ⟨t2, p2, k2⟩ := hb.ex
  obtain ⟨t3, p3, k3⟩ := hc.ex
  obtain ⟨r, h1, h2⟩ := ho
  obtain ⟨r', h3, h4⟩ := ho2
  exact ⟨_, pe_chain h1 h3 p1 p2 p3 hm, SE.chain (c := c) h2 h4 k1 k2 k3⟩
theorem dt_chain {c : Expr} {tc : DTE} {o2 : DOp} {op op' : CmpOp} (ho : OpD X (compareOp op) o) (ho2 : OpD X (compareOp op') o2) (ha : DE X E a ta) (hb : DE X E b tb) (hc : DE X E c tc)
    (hm : lastMarks [op, op'] [b, c] = false := by with_unfolding_all rfl) : DT X E (.Compare a [op, op'] [b, c] pos) (tBl (tCh o o2 ta tb tc)) := by
  obtain ⟨t1, p1, k1⟩ := ha.ex
  obtain ⟨t2, p2, k2⟩ := hb.ex
  obtain ⟨t3, p3, k3⟩ := hc.ex
  obtain ⟨r, h1, h2⟩ := ho
  obtain ⟨r', h3, h4⟩ := ho2
  exact ⟨_, pt_chain h1 h3 p1 p2 p3 hm, (SE.chain (c := c) h2 h4 k1 k2 k3).test⟩
end
/-! ### and, or, not, if -/
def tAndT (t u : DTT) : DTT := fun en m Q Qx => t en m (fun c m1 => if c = true then u en m1 Q Qx else Q false m1) Qx
def tOrT (t u : DTT) : DTT := fun en m Q Qx => t en m (fun c m1 => if c = true then Q true m1 else u en m1 Q Qx) Qx
def tNotT (t : DTT) : DTT := fun en m Q Qx => t en m (fun c m1 => Q (!c) m1) Qx
section
variable {a b c : Expr} {rest : List Expr} {tA tB' : DTT} {pos : Pos}
theorem DW.dt (h : DW X E a tA) : DT X E a tA := by
  obtain ⟨t, p, k⟩ := h.ex
  exact ⟨t, p.pt, k⟩
theorem dw_and1 (ha : DT X E a tA) : DW X E (.BoolOp .And [a] pos) tA := by
  obtain ⟨t, p, k⟩ := ha.ex
  exact ⟨_, pw_and1 p, k⟩
theorem dw_or1 (ha : DT X E a tA) : DW X E (.BoolOp .Or [a] pos) tA := by
  obtain ⟨t, p, k⟩ := ha.ex
  exact ⟨_, pw_or1 p, k⟩
theorem dw_and (ha : DT X E a tA) (hb : DW X E (.BoolOp .And (b :: rest) pos) tB') : DW X E (.BoolOp .And (a :: b :: rest) pos) (tAndT tA tB') := by
  obtain ⟨t1, p1, k1⟩ := ha.ex
  obtain ⟨t2, p2, k2⟩ := hb.ex
  refine ⟨_, pw_and p1 p2, fun B μ en m σ H Q Qx QV R hx T k => ?_⟩
  refine k1 B μ en m σ H _ Qx _ R hx T fun B1 μ1 m1 H1 b s1 R1 q => ?_
  cases b with
  | true => exact iteT (k2 B1 μ1 en m1 σ H1 _ Qx _ R1 (hx.step s1 R1.mem R.mem.le) q fun B2 μ2 m2 H2 b s2 R2 q => k B2 μ2 m2 H2 b (s1.trans R1.mem s2 R.mem.le) R2 q)
  | false => exact iteF (k B1 μ1 m1 H1 false s1 R1 q)
theorem dw_or (ha : DT X E a tA) (hb : DW X E (.BoolOp .Or (b :: rest) pos) tB') : DW X E (.BoolOp .Or (a :: b :: rest) pos) (tOrT tA tB') := by
  obtain ⟨t1, p1, k1⟩ := ha.ex
  obtain ⟨t2, p2, k2⟩ := hb.ex
  refine ⟨_, pw_or p1 p2, fun B μ en m σ H Q Qx QV R hx T k => ?_⟩
  refine k1 B μ en m σ H _ Qx _ R hx T fun B1 μ1 m1 H1 b s1 R1 q => ?_
  cases b with
  | false => exact iteF (k2 B1 μ1 en m1 σ H1 _ Qx _ R1 (hx.step s1 R1.mem R.mem.le) q fun B2 μ2 m2 H2 b s2 R2 q => k B2 μ2 m2 H2 b (s1.trans R1.mem s2 R.mem.le) R2 q)
  | true => exact iteT (k B1 μ1 m1 H1 true s1 R1 q)
theorem dt_not (ha : DT X E a tA) : DT X E (.UnaryOp .Not a pos) (tNotT tA) := by
  obtain ⟨t1, p1, k1⟩ := ha.ex
  exact ⟨_, pt_not p1, fun B μ en m σ H Q Qx QV R hx T k => k1 B μ en m σ H _ Qx _ R hx T fun B1 μ1 m1 H1 b s1 R1 q => k B1 μ1 m1 H1 _ s1 R1 q⟩
def tIfE (t : DTT) (ta tb : DTE) : DTE := fun en m Q Qx => t en m (fun c m1 => if c = true then ta en m1 Q Qx else tb en m1 Q Qx) Qx
/-- going on behind a step -/
theorem SE.on {t : TE} {T : DTE} (h : SE X E t T) {B B1 : Hp} {μ μ1 : List Addr} {en : En} {m m1 : Me} {σ : L2.St} {H H1 : Hp} {Q : W → Me → Prop} {Qx : QX} {QV : VK} (R : Rel X.K B μ en m σ H) (hx : ExOf X.K E B μ m H Qx) (k : ∀ B' μ' m' H' x v, Stp B μ m H B' μ' m' H' → Rel X.K B' μ' en m' σ H' → RW X.K B' μ' v x → Q x m' → QV v H')
    (s1 : Stp B μ m H B1 μ1 m1 H1) (R1 : Rel X.K B1 μ1 en m1 σ H1) (q : T en m1 Q Qx) : t σ H1 QV :=
  h B1 μ1 en m1 σ H1 _ Qx _ R1 (hx.step s1 R1.mem R.mem.le) q fun B2 μ2 m2 H2 x v s2 R2 r q => k B2 μ2 m2 H2 x v (s1.trans R1.mem s2 R.mem.le) R2 r q
theorem d_if {ta tb : DTE} (hc : DT X E c tA) (ha : DE X E a ta) (hb : DE X E b tb) : DE X E (.IfExp c a b pos) (tIfE tA ta tb) := by
  obtain ⟨t0, p0, k0⟩ := hc.ex
  obtain ⟨t1, p1, k1⟩ := ha.ex
  obtain ⟨t2, p2, k2⟩ := hb.ex
  refine ⟨_, pe_ifExp p0 p1 p2, fun B μ en m σ H Q Qx QV R hx T k => ?_⟩
  refine k0 B μ en m σ H _ Qx _ R hx T fun B1 μ1 m1 H1 b s1 R1 q => ?_
  cases b with
  | true => exact iteT (k1.on R hx k s1 R1 q)
  | false => exact iteF (k2.on R hx k s1 R1 q)
/-- and, or of truth values, as a value -/
def tAndE (ta tb : DTE) : DTE := fun en m Q Qx => ta en m (fun x m1 => bD x fun c => if c = true then tb en m1 Q Qx else Q (.v (.bl false)) m1) Qx
def tOrE (ta tb : DTE) : DTE := fun en m Q Qx => ta en m (fun x m1 => bD x fun c => if c = true then Q (.v (.bl true)) m1 else tb en m1 Q Qx) Qx
def tNotE (ta : DTE) : DTE := fun en m Q Qx => ta en m (fun x m1 => bD x fun c => Q (.v (.bl (!c))) m1) Qx
theorem d_one {op} {t : DTE} (h : DE X E a t) : DE X E (.BoolOp op [a] pos) t := by
  obtain ⟨t1, p1, k1⟩ := h.ex
  exact ⟨_, pe_one p1, k1⟩
theorem d_and {ta tb : DTE} (ha : DE X E a ta) (hb : DE X E (.BoolOp .And (b :: rest) pos) tb) : DE X E (.BoolOp .And (a :: b :: rest) pos) (tAndE ta tb) := by
  obtain ⟨t1, p1, k1⟩ := ha.ex
  obtain ⟨t2, p2, k2⟩ := hb.ex
  refine ⟨_, pe_and p1 p2, fun B μ en m σ H Q Qx QV R hx T k => ?_⟩
  refine k1 B μ en m σ H _ Qx _ R hx T fun B1 μ1 m1 H1 x v s1 R1 r1 q => ?_
  obtain ⟨c, rfl, rfl, q⟩ := bD_ok r1 q
  refine ⟨c, rfl, ?_⟩
  cases c with
  | true => exact iteT (k2.on R hx k s1 R1 q)
  | false => exact iteF (k B1 μ1 m1 H1 _ _ s1 R1 r1 q)
theorem d_or {ta tb : DTE} (ha : DE X E a ta) (hb : DE X E (.BoolOp .Or (b :: rest) pos) tb) : DE X E (.BoolOp .Or (a :: b :: rest) pos) (tOrE ta tb) := by
  obtain ⟨t1, p1, k1⟩ := ha.ex
  obtain ⟨t2, p2, k2⟩ := hb.ex
  refine ⟨_, pe_or p1 p2, fun B μ en m σ H Q Qx QV R hx T k => ?_⟩
  refine k1 B μ en m σ H _ Qx _ R hx T fun B1 μ1 m1 H1 x v s1 R1 r1 q => ?_
  obtain ⟨c, rfl, rfl, q⟩ := bD_ok r1 q
  refine ⟨c, rfl, ?_⟩
  cases c with
  | true => exact iteT (k B1 μ1 m1 H1 _ _ s1 R1 r1 q)
  | false => exact iteF (k2.on R hx k s1 R1 q)
theorem d_not {ta : DTE} (ha : DE X E a ta) : DE X E (.UnaryOp .Not a pos) (tNotE ta) := by
  obtain ⟨t1, p1, k1⟩ := ha.ex
  refine ⟨_, pe_not p1, fun B μ en m σ H Q Qx QV R hx T k => ?_⟩
  refine k1 B μ en m σ H _ Qx _ R hx T fun B1 μ1 m1 H1 x v s1 R1 r1 q => ?_
  obtain ⟨c, rfl, rfl, q⟩ := bD_ok r1 q
  exact ⟨c, rfl, k B1 μ1 m1 H1 (.v (.bl !c)) _ s1 R1 (.bl _) q⟩
end
/-! ### statements -/
def sNx : DTS := fun en m N => N.nx en m
def sSeq (t u : DTS) : DTS := fun en m N => t en m { N with nx := fun en1 m1 => u en1 m1 N }
theorem dss_nil : DSs X E [] sNx := ⟨_, pss_nil, fun B μ en m σ H N D R hx T e => e.nx B μ en m σ H .refl R T⟩
theorem dss_one {st : Stmt} {t : DTS} (h : DS X E st t) : DSs X E [st] t := by
  obtain ⟨t1, p1, k1⟩ := h.ex
  exact ⟨_, pss_one p1, k1⟩
theorem SS.seq {t u : TS} {T U : DTS} (k1 : SS X E t T) (k2 : SS X E u U) : SS X E (tSeq t u) (sSeq T U) := by
  intro B μ en m σ H N D R hx T e
  refine k1 B μ en m σ H { N with nx := fun en1 m1 => U en1 m1 N } _ R hx T ⟨fun B1 μ1 en1 m1 σ1 H1 s1 R1 q => ?_, e.rt, e.bk, e.ct⟩
  exact k2 B1 μ1 en1 m1 σ1 H1 N D R1 (hx.step s1 R1.mem R.mem.le) q (e.step s1 R1.mem R.mem.le)
theorem dss_cons {st : Stmt} {rest : List Stmt} {t u : DTS} (h : DS X E st t) (h2 : DSs X E rest u) : DSs X E (st :: rest) (sSeq t u) := by
  obtain ⟨t1, p1, k1⟩ := h.ex
  obtain ⟨t2, p2, k2⟩ := h2.ex
  exact ⟨_, pss_cons p1 p2, k1.seq k2⟩
section
variable {pos : Pos} {e : Expr} {te : DTE}
theorem ds_pass : DS X E (.Pass pos) sNx := ⟨_, ps_pass, fun B μ en m σ H N D R hx T e => e.nx B μ en m σ H .refl R T⟩
def sBk : DTS := fun en m N => N.bk en m
def sCt : DTS := fun en m N => N.ct en m
theorem ds_break : DS X E (.Break pos) sBk := ⟨_, ps_break, fun B μ en m σ H N D R hx T e => e.bk B μ en m σ H .refl R T⟩
theorem ds_continue : DS X E (.Continue pos) sCt := ⟨_, ps_continue, fun B μ en m σ H N D R hx T e => e.ct B μ en m σ H .refl R T⟩
theorem ds_doc {x j pos pos'} : DS X E (.Expr (.Constant (.str x) j pos) pos') sNx := ⟨_, ps_doc, fun B μ en m σ H N D R hx T e => e.nx B μ en m σ H .refl R T⟩
def sExpr (te : DTE) : DTS := fun en m N => te en m (fun _ m1 => N.nx en m1) N.xc
theorem ds_expr (he : DE X E e te) (hs : swapsWith e none pos.line X.env = pure false := by rfl) : DS X E (.Expr e pos) (sExpr te) := by
  obtain ⟨t1, p1, k1⟩ := he.ex
  exact ⟨_, ps_expr p1 hs, fun B μ en m σ H N D R hx T e => k1 B μ en m σ H _ _ _ R hx T fun B1 μ1 m1 H1 x v s1 R1 r q => e.nx B1 μ1 en m1 σ H1 s1 R1 q⟩
def sRet (te : DTE) : DTS := fun en m N => te en m (fun x m1 => N.rt x m1) N.xc
theorem ds_ret (he : DE X E e te) : DS X E (.Return (some e) pos) (sRet te) := by
  obtain ⟨t1, p1, k1⟩ := he.ex
  exact ⟨_, ps_ret p1, fun B μ en m σ H N D R hx T e => k1 B μ en m σ H _ _ _ R hx T fun B1 μ1 m1 H1 x v s1 R1 r q => e.rt B1 μ1 m1 H1 x v s1 R1.mem r q⟩
def sRetN : DTS := fun _ m N => N.rt (.v .non) m
theorem ds_retN : DS X E (.Return none pos) sRetN := ⟨_, ps_retN, fun B μ en m σ H N D R hx T e => e.rt B μ m H (.v .non) _ .refl R.mem (RW.d .non) T⟩
def sIf (c : DTT) (t u : DTS) : DTS := fun en m N => c en m (fun b m1 => if b = true then t en m1 N else u en m1 N) N.xc
theorem SS.on {t : TS} {T : DTS} (h : SS X E t T) {B B1 : Hp} {μ μ1 : List Addr} {en en1 : En} {m m1 : Me} {σ σ1 : L2.St} {H H1 : Hp} {N : Dn} {D : Ends} (R : Rel X.K B μ en m σ H) (hx : ExOf X.K E B μ m H N.xc) (e : EndsOf X.K B μ m H N D)
    (s1 : Stp B μ m H B1 μ1 m1 H1) (R1 : Rel X.K B1 μ1 en1 m1 σ1 H1) (q : T en1 m1 N) : t D σ1 H1 := h B1 μ1 en1 m1 σ1 H1 N D R1 (hx.step s1 R1.mem R.mem.le) q (e.step s1 R1.mem R.mem.le)
theorem ds_if {c : Expr} {a b : List Stmt} {tc : DTT} {t u : DTS} (hc : DT X E c tc) (ha : DSs X E a t) (hb : DSs X E b u) : DS X E (.If c a b pos) (sIf tc t u) := by
  obtain ⟨t0, p0, k0⟩ := hc.ex
  obtain ⟨t1, p1, k1⟩ := ha.ex
  obtain ⟨t2, p2, k2⟩ := hb.ex
  refine ⟨_, ps_if p0 p1 p2, fun B μ en m σ H N D R hx T e => ?_⟩
  refine k0 B μ en m σ H _ _ _ R hx T fun B1 μ1 m1 H1 b s1 R1 q => ?_
  cases b with
  | true => exact iteT (k1.on R hx e s1 R1 q)
  | false => exact iteF (k2.on R hx e s1 R1 q)
def sNever : DTS := fun _ _ _ => False
theorem ds_never {st : Stmt} : DS X E st sNever := ⟨_, ps_never, fun B μ en m σ H N D R hx T e => T⟩
theorem dss_never {st : List Stmt} : DSs X E st sNever := ⟨_, pss_never, fun B μ en m σ H N D R hx T e => T⟩
/-! ### names stored -/
def sSet (i : Nat) (te : DTE) : DTS := fun en m N => te en m (fun x m1 => N.nx (List.set en i (some x)) m1) N.xc
theorem Rel.set {K : Frag} {B : Hp} {μ : List Addr} {en : En} {m : Me} {σ : L2.St} {H : Hp} {i : Nat} {x : W} {v : V} (R : Rel K B μ en m σ H) (r : RW K B μ v x) : Rel K B μ (List.set en i (some x)) m (σ.set i (some v)) H := by
  refine ⟨R.mem, by simp [R.len], fun j y e => ?_⟩
  by_cases c : j = i
  · subst c
    have l : j < en.length := by
      have z := (List.getElem?_eq_some_iff.mp e).1
      simpa using z
    rw [List.getElem?_set_self l] at e
    cases e
    exact ⟨v, List.getElem?_set_self (by rw [R.len]; exact l), r⟩
  · rw [List.getElem?_set_ne (fun z => c z.symm)] at e
    obtain ⟨u, h1, h2⟩ := R.env j y e
    exact ⟨u, by rw [List.getElem?_set_ne (fun z => c z.symm)]; exact h1, h2⟩
theorem ds_set {i : Nat} {x : Str} {pos' : Pos} (hN : X.N.Nodup) (hi : X.N[i]? = some x) (hx : Loc X.env.scope x) (he : DE X E e te) (hs : swapsWith e (some (.Name x pos')) pos.line X.env = pure false := by rfl) (hf : X.fn x = true ∨ X.env.scope.names.lookup x = some .local := by first | exact .inl rfl | exact .inr rfl | assumption) : DS X E (.Assign [.Name x pos'] e pos) (sSet i te) := by
  obtain ⟨t1, p1, k1⟩ := he.ex
  exact ⟨_, ps_set hN hi hx p1 hs hf, fun B μ en m σ H N D R hx T e => k1 B μ en m σ H _ _ _ R hx T fun B1 μ1 m1 H1 x v s1 R1 r q => e.nx B1 μ1 _ m1 _ H1 s1 (R1.set r) q⟩
end
end
end Fs
set_option Elab.async false
set_option linter.all false
set_option maxRecDepth 100000
set_option maxHeartbeats 8000000
namespace Fs
open PySem PySem.Spec PyProof.Rows L2
section
variable {X : Cx} {E : XK}
/-- the canonical reading of T -/
def lE (K : Frag) (E : XK) (T : DTE) : TE := fun σ H QV => ∃ B μ en m Q Qx, Rel K B μ en m σ H ∧ ExOf K E B μ m H Qx ∧ T en m Q Qx ∧
  (∀ B' μ' m' H' x v, Stp B μ m H B' μ' m' H' → Rel K B' μ' en m' σ H' → RW K B' μ' v x → Q x m' → QV v H')
theorem SE.lE {T : DTE} : SE X E (lE X.K E T) T := fun B μ en m σ H Q Qx _ R hx q k => ⟨B, μ, en, m, Q, Qx, R, hx, q, k⟩
theorem DE.pe {e : Expr} {T : DTE} (h : DE X E e T) : PE X e (Fs.lE X.K E T) := by
  obtain ⟨t, p, k⟩ := h.ex
  exact pe_of p fun σ H Q ⟨B, μ, en, m, Q', Qx, R, hx, q, z⟩ => k B μ en m σ H Q' Qx Q R hx q z
def lT (K : Frag) (E : XK) (T : DTT) : TT := fun σ H QV => ∃ B μ en m Q Qx, Rel K B μ en m σ H ∧ ExOf K E B μ m H Qx ∧ T en m Q Qx ∧
  (∀ B' μ' m' H' b, Stp B μ m H B' μ' m' H' → Rel K B' μ' en m' σ H' → Q b m' → QV b H')
theorem DT.pt {e : Expr} {T : DTT} (h : DT X E e T) : PT X e (lT X.K E T) := by
  obtain ⟨t, p, k⟩ := h.ex
  exact ⟨fun pins s σ H Q I ⟨B, μ, en, m, Q', Qx, R, hx, q, z⟩ => p.run pins s σ H Q I (k B μ en m σ H Q' Qx Q R hx q z)⟩
theorem ST.lT {T : DTT} : ST X E (lT X.K E T) T := fun B μ en m σ H Q Qx _ R hx q k => ⟨B, μ, en, m, Q, Qx, R, hx, q, k⟩
def lS (K : Frag) (E : XK) (T : DTS) : TS := fun D σ H => ∃ B μ en m N, Rel K B μ en m σ H ∧ ExOf K E B μ m H N.xc ∧ T en m N ∧ EndsOf K B μ m H N D
theorem DSs.pss {e : List Stmt} {T : DTS} (h : DSs X E e T) : PSs X e (lS X.K E T) := by
  obtain ⟨t, p, k⟩ := h.ex
  exact ⟨fun pins s σ H D I ⟨B, μ, en, m, N, R, hx, q, z⟩ => p.run pins s σ H D I (k B μ en m σ H N D R hx q z)⟩
theorem SS.lS {T : DTS} : SS X E (lS X.K E T) T := fun B μ en m σ H N D R hx q k => ⟨B, μ, en, m, N, R, hx, q, k⟩
theorem PE.or {e : Expr} {t u : TE} (h : PE X e t) (k : PE X e u) : PE X e (fun σ H Q => t σ H Q ∨ u σ H Q) :=
  ⟨fun pins s σ H Q I q => q.elim (h.run pins s σ H Q I) (k.run pins s σ H Q I)⟩
theorem PI.or {tg e : Expr} {t u : TI} (h : PI X tg e t) (k : PI X tg e u) : PI X tg e (fun σ H Q => t σ H Q ∨ u σ H Q) :=
  ⟨fun pins s σ H Q I q => q.elim (h.run pins s σ H Q I) (k.run pins s σ H Q I)⟩
/-! ### targets -/
abbrev DTG := W → En → Me → (En → Me → Prop) → Prop
abbrev DTGs := List W → En → Me → (En → Me → Prop) → Prop
/-- slots of is stored -/
inductive Sts (is : List Nat) : L2.St → L2.St → Prop
  | refl (σ : L2.St) : Sts is σ σ
  | set {σ σ' : L2.St} {i : Nat} {v : V} : i ∈ is → Sts is (σ.set i (some v)) σ' → Sts is σ σ'
theorem Sts.trans {is : List Nat} {a b c : L2.St} (h : Sts is a b) (k : Sts is b c) : Sts is a c := by
  induction h with
  | refl => exact k
  | set hi _ ih => exact .set hi (ih k)
theorem Sts.mono {is js : List Nat} {a b : L2.St} (h : Sts is a b) (k : ∀ i ∈ is, i ∈ js) : Sts js a b := by
  induction h with
  | refl => exact .refl _
  | set hi _ ih => exact .set (k _ hi) ih
structure DG (X : Cx) (tg : Expr) (is : List Nat) (T : DTG) : Prop where
  ex : ∃ t, PG X tg t ∧ ∀ B μ en m σ H x v (Q : En → Me → Prop) (QV : L2.St → Hp → Prop), Rel X.K B μ en m σ H → RW X.K B μ v x → T x en m Q →
    (∀ B' μ' en' m' σ' H', Stp B μ m H B' μ' m' H' → Rel X.K B' μ' en' m' σ' H' → Sts is σ σ' → Q en' m' → QV σ' H') → t v σ H QV
structure DGs (X : Cx) (tg : List Expr) (is : List Nat) (T : DTGs) : Prop where
  ex : ∃ t, PGs X tg t ∧ ∀ B μ en m σ H x v (Q : En → Me → Prop) (QV : L2.St → Hp → Prop), Rel X.K B μ en m σ H → RWs X.K B μ v x → T x en m Q →
    (∀ B' μ' en' m' σ' H', Stp B μ m H B' μ' m' H' → Rel X.K B' μ' en' m' σ' H' → Sts is σ σ' → Q en' m' → QV σ' H') → t v σ H QV
def lG (K : Frag) (is : List Nat) (T : DTG) : TG := fun v σ H QV => ∃ B μ en m x Q, Rel K B μ en m σ H ∧ RW K B μ v x ∧ T x en m Q ∧ (∀ B' μ' en' m' σ' H', Stp B μ m H B' μ' m' H' → Rel K B' μ' en' m' σ' H' → Sts is σ σ' → Q en' m' → QV σ' H')
theorem DG.pg {tg : Expr} {is : List Nat} {T : DTG} (h : DG X tg is T) : PG X tg (lG X.K is T) := by
  obtain ⟨t, p, k⟩ := h.ex
  exact ⟨fun pins s σ H v u Q I r ⟨B, μ, en, m, x, Q', R, rw, q, z⟩ => p.run pins s σ H v u Q I r (k B μ en m σ H x v Q' Q R rw q z)⟩
def gN (i : Nat) : DTG := fun x en m Q => Q (List.set en i (some x)) m
theorem dg_name {i : Nat} {x : Str} {pos : Pos} (hN : X.N.Nodup) (hi : X.N[i]? = some x) (hx : Loc X.env.scope x) (hf : X.fn x = true ∨ X.env.scope.names.lookup x = some .local := by first | exact .inl rfl | exact .inr rfl | assumption) : DG X (.Name x pos) [i] (gN i) :=
  ⟨_, pg_name hN hi hx hf, fun B μ en m σ H x v Q QV R r T k => k B μ _ m _ H .refl (R.set r) (.set List.mem_cons_self (.refl _)) T⟩
def gNl : DTGs := fun xs en m Q => match xs with
  | [] => Q en m
  | _ => False
def gCn (t : DTG) (u : DTGs) : DTGs := fun xs en m Q => match xs with
  | x :: r => t x en m fun en1 m1 => u r en1 m1 Q
  | _ => False
theorem dgs_nil : DGs X [] [] gNl := by
  refine ⟨_, pgs_nil, fun B μ en m σ H xs v Q QV R r T k => ?_⟩
  cases r with
  | nil => exact ⟨rfl, k B μ en m σ H .refl R (.refl _) T⟩
  | cons a b => exact T.elim
theorem dgs_cons {e : Expr} {es : List Expr} {is js : List Nat} {t : DTG} {u : DTGs} (h1 : DG X e is t) (h2 : DGs X es js u) (hs : (assignEach (e :: es) X.env).map (·.2) = assign e X.env :: (assignEach es X.env).map (·.2) := by rfl) : DGs X (e :: es) (is ++ js) (gCn t u) := by
  obtain ⟨t1, p1, k1⟩ := h1.ex
  obtain ⟨t2, p2, k2⟩ := h2.ex
  refine ⟨_, pgs_cons p1 p2 hs, fun B μ en m σ H xs v Q QV R r T k => ?_⟩
  cases r with
  | nil => exact T.elim
  | cons a b =>
    refine ⟨_, _, rfl, k1 B μ en m σ H _ _ _ _ R a T fun B1 μ1 en1 m1 σ1 H1 s1 R1 z1 q => ?_⟩
    refine k2 B1 μ1 en1 m1 σ1 H1 _ _ _ _ R1 (b.to s1.same s1.pre) q fun B2 μ2 en2 m2 σ2 H2 s2 R2 z2 q2 => ?_
    exact k B2 μ2 en2 m2 σ2 H2 (s1.trans R1.mem s2 R.mem.le) R2 ((z1.mono fun i h => List.mem_append_left _ h).trans (z2.mono fun i h => List.mem_append_right _ h)) q2
/-- (a, b, ..) = a tuple -/
def gTp (n : Nat) (t : DTGs) : DTG := fun x en m Q => match x with
  | .v (.tup ds) => ds.length = n ∧ t (ds.map .v) en m Q
  | _ => False
theorem RvL.ws {K : Frag} {B : Hp} {μ : List Addr} : ∀ {vs : List V} {ds : List D}, RvL K B vs ds → RWs K B μ vs (ds.map .v)
  | _, _, .nil => .nil
  | _, _, .cons h t => .cons (RW.d h) (RvL.ws t)
theorem dg_tup {es : List Expr} {k : Nat} {t : DTGs} {n : Nat} {is : List Nat} {pos : Pos} (hc : X.calm = true) (h : DGs X es is t) (hn : (assignEach es X.env).length = n := by rfl) (hst : (assignEach es X.env).findIdx? (·.1) = none := by rfl) : DG X (.Tuple es k pos) is (gTp n t) := by
  obtain ⟨t1, p1, k1⟩ := h.ex
  refine ⟨_, pg_tup hc p1 hn hst, fun B μ en m σ H x v Q QV R r T k => ?_⟩
  unfold gTp at T
  split at T
  · rename_i ds
    obtain ⟨hl, T⟩ := T
    cases r with
    | tup hs hr => exact ⟨_, _, rfl, R.mem.le.tup hs, by rw [hr.len]; exact hl, k1 B μ en m σ H _ _ _ _ R hr.ws T k⟩
  · exact T.elim
/-- target = e -/
def sAsg (te : DTE) (g : DTG) : DTS := fun en m N => te en m (fun x m1 => g x en m1 N.nx) N.xc
theorem ds_asg {tg e : Expr} {te : DTE} {g : DTG} {is : List Nat} {pos : Pos} (he : DE X E e te) (hg : DG X tg is g) (hs : swapsWithSole [tg] e pos.line X.env = pure false := by rfl) (hw : swappedStores [tg] e X.env = pure none := by rfl)
    (h1 : (assignEach [tg] X.env).map (·.2) = [assign tg X.env] := by rfl) : DS X E (.Assign [tg] e pos) (sAsg te g) := by
  obtain ⟨t1, p1, k1⟩ := he.ex
  obtain ⟨t2, p2, k2⟩ := hg.ex
  refine ⟨_, ps_asg p1 p2 hs hw h1, fun B μ en m σ H N D R hx T e => ?_⟩
  refine k1 B μ en m σ H _ _ _ R hx T fun B1 μ1 m1 H1 x v s1 R1 r q => ?_
  refine k2 B1 μ1 en m1 σ H1 x v _ _ R1 r q fun B2 μ2 en2 m2 σ2 H2 s2 R2 _ q2 => ?_
  exact e.nx B2 μ2 en2 m2 σ2 H2 (s1.trans R1.mem s2 R.mem.le) R2 q2
/-- a, b = x, y -/
def sPar (i j : Nat) (ta : DTA) : DTS := fun en m N => ta en m (fun xs m1 => match xs with
  | [x, y] => N.nx (List.set (List.set en i (some x)) j (some y)) m1
  | _ => False) N.xc
theorem ds_par {i j : Nat} {x y : Str} {a b : Expr} {ta : DTA} {px py pt pos : Pos} {kt k2 pt2} (hc : X.calm = true) (hN : X.N.Nodup) (hi : X.N[i]? = some x) (hj : X.N[j]? = some y) (hij : i ≠ j)
    (hx : X.env.scope.names.lookup x = some .local) (hy : X.env.scope.names.lookup y = some .local) (ha : DA X E [a, b] ta)
    (hw : swappedStores [.Tuple [.Name x px, .Name y py] kt pt] (.Tuple [a, b] k2 pt2) X.env = pure (some [x, y]))
    (hs : swapsWithSole [.Tuple [.Name x px, .Name y py] kt pt] (.Tuple [a, b] k2 pt2) pos.line X.env = pure false := by rfl) :
    DS X E (.Assign [.Tuple [.Name x px, .Name y py] kt pt] (.Tuple [a, b] k2 pt2) pos) (sPar i j ta) := by
  obtain ⟨t1, p1, k1⟩ := ha.ex
  refine ⟨_, ps_par hc hN hi hj hij hx hy p1 hw hs, fun B μ en m σ H N D R hx T e => ?_⟩
  refine k1 B μ en m σ H _ _ _ R hx T fun B1 μ1 m1 H1 xs vs s1 R1 r q => ?_
  cases r with
  | nil => exact q.elim
  | cons a r =>
    cases r with
    | nil => exact q.elim
    | cons b r =>
      cases r with
      | nil => exact ⟨_, _, rfl, e.nx B1 μ1 _ m1 _ H1 s1 ((R1.set a).set b) q⟩
      | cons _ _ => exact q.elim
/-! ### what is walked -/
def WalkD (K : Frag) (B0 : Hp) (J : It) (its : List D) : Prop := ∃ G Y, Walk J its.length G Y ∧ (∀ B μ mem H, Same B0 B → MemOk K B μ mem H → G H) ∧
  ∀ i B μ mem H x H', i < its.length → Same B0 B → MemOk K B μ mem H → Y i H x H' → ∃ B' d, its[i]? = some d ∧ Stp B μ mem H B' μ mem H' ∧ MemOk K B' μ mem H' ∧ Rv K B' x d
abbrev DTI := En → Me → (List D → Me → Prop) → QX → Prop
structure DI (X : Cx) (E : XK) (tg e : Expr) (T : DTI) : Prop where
  ex : ∃ t, PI X tg e t ∧ ∀ B μ en m σ H (Q : List D → Me → Prop) (Qx : QX) (QV : It → Hp → Prop), Rel X.K B μ en m σ H → ExOf X.K E B μ m H Qx → T en m Q Qx →
    (∀ B' μ' m' H' its J, Stp B μ m H B' μ' m' H' → Rel X.K B' μ' en m' σ H' → WalkD X.K B' J its → Q its m' → QV J H') → t σ H QV
/-! ### for -/
def sForL (g : DTG) (tb : DTS) : List D → DTS
  | [] => fun en m N => N.nx en m
  | d :: ds => fun en m N => g (.v d) en m fun en1 m1 => tb en1 m1 { N with nx := fun en2 m2 => sForL g tb ds en2 m2 N, ct := fun en2 m2 => sForL g tb ds en2 m2 N, bk := N.nx }
def sFor (ti : DTI) (g : DTG) (tb : DTS) : DTS := fun en m N => ti en m (fun its m1 => sForL g tb its en m1 N) N.xc
theorem ds_for {tg iter : Expr} {body : List Stmt} {ti : DTI} {g : DTG} {is : List Nat} {tb : DTS} {pos : Pos} (hp : PassesOwn (model X.prog X.w) X.A X.env X.xe) (hc : X.calm = true) (hi : DI X E tg iter ti) (hg : DG X tg is g) (hb : DSs X E body tb)
    (hs : ∀ x, foldedSetIterable iter X.env x = pure x := by intro _; rfl) : DS X E (.For tg iter body [] pos) (sFor ti g tb) := by
  obtain ⟨t0, p0, k0⟩ := hi.ex
  obtain ⟨t1, p1, k1⟩ := hg.ex
  obtain ⟨t2, p2, k2⟩ := hb.ex
  refine ⟨_, ps_for hp hc p0 p1 p2 hs, fun B μ en m σ H N D R hx T e => ?_⟩
  refine k0 B μ en m σ H _ _ _ R hx T fun B1 μ1 m1 H1 its J s1 R1 ⟨G, Y, w, hG, hY⟩ q => ?_
  refine for_it w (fun i σ' H' => ∃ B' μ' en' m', Stp B1 μ1 m1 H1 B' μ' m' H' ∧ Rel X.K B' μ' en' m' σ' H' ∧ sForL g tb (its.drop i) en' m' N) ⟨B1, μ1, en, m1, .refl, R1, q⟩ (fun i σ' H' _ ⟨B', μ', en', m', s', R', _⟩ => hG B' μ' m' H' s'.same R'.mem) (fun i x σ' H2 H3 hi ⟨B', μ', en', m', s', R', q'⟩ y => ?_) (fun σ' H' ⟨B', μ', en', m', s', R', q'⟩ => ?_)
  · obtain ⟨B3, d, hd, s3, m3, rd⟩ := hY i B' μ' m' H2 x H3 hi s'.same R'.mem y
    have s13 := s'.trans R'.mem s3 R1.mem.le
    have R3 := R'.stp s3 m3
    rw [List.drop_eq_getElem_cons hi] at q'
    have ed : its[i] = d := by
      rw [List.getElem?_eq_getElem hi] at hd
      exact Option.some.inj hd
    rw [ed] at q'
    refine k1 B3 μ' en' m' σ' H3 (.v d) x _ _ R3 rd q' fun B4 μ4 en4 m4 σ4 H4 s4 R4 _ q4 => ?_
    have s14 := s13.trans R3.mem s4 R1.mem.le
    have st := s1.trans R1.mem s14 R.mem.le
    refine k2 B4 μ4 en4 m4 σ4 H4 { N with nx := fun en2 m2 => sForL g tb (its.drop (i + 1)) en2 m2 N, ct := fun en2 m2 => sForL g tb (its.drop (i + 1)) en2 m2 N, bk := N.nx } _ R4 (hx.step st R4.mem R.mem.le) q4 ⟨?_, e.rt.step st R4.mem R.mem.le, e.nx.step st R4.mem R.mem.le, ?_⟩
    · exact fun B5 μ5 en5 m5 σ5 H5 s5 R5 q5 => ⟨B5, μ5, en5, m5, s14.trans R4.mem s5 R1.mem.le, R5, q5⟩
    · exact fun B5 μ5 en5 m5 σ5 H5 s5 R5 q5 => ⟨B5, μ5, en5, m5, s14.trans R4.mem s5 R1.mem.le, R5, q5⟩
  · rw [List.drop_length] at q'
    exact e.nx B' μ' en' m' σ' H' (s1.trans R1.mem s' R.mem.le) R' q'
/-! ### while -/
def whN (c : DTT) (tb : DTS) : Nat → DTS
  | 0 => fun _ _ _ => False
  | n + 1 => fun en m N => c en m (fun b m1 => if b = true then tb en m1 { N with nx := fun en2 m2 => whN c tb n en2 m2 N, ct := fun en2 m2 => whN c tb n en2 m2 N, bk := N.nx } else N.nx en m1) N.xc
def sWh (c : DTT) (tb : DTS) : DTS := fun en m N => ∃ n, whN c tb n en m N
theorem ds_while {c : Expr} {body : List Stmt} {tc : DTT} {tb : DTS} {pos : Pos} (hp : PassesOwn (model X.prog X.w) X.A X.env X.xe) (hc : DT X E c tc) (hb : DSs X E body tb) : DS X E (.While c body [] pos) (sWh tc tb) := by
  obtain ⟨t1, p1, k1⟩ := hc.ex
  obtain ⟨t2, p2, k2⟩ := hb.ex
  refine ⟨_, ps_while hp p1 p2, fun B μ en m σ H N D R hx T e => ?_⟩
  obtain ⟨n, T⟩ := T
  refine ⟨fun n σ' H' => ∃ B' μ' en' m', Stp B μ m H B' μ' m' H' ∧ Rel X.K B' μ' en' m' σ' H' ∧ whN tc tb n en' m' N, ⟨n, B, μ, en, m, .refl, R, T⟩, ?_⟩
  rintro n σ' H' ⟨B', μ', en', m', s', R', q'⟩
  cases n with
  | zero => exact q'.elim
  | succ n =>
    refine k1 B' μ' en' m' σ' H' _ _ _ R' (hx.step s' R'.mem R.mem.le) q' fun B1 μ1 m1 H1 b s1 R1 q => ?_
    have st := s'.trans R'.mem s1 R.mem.le
    cases b with
    | false => exact iteF (e.nx B1 μ1 en' m1 σ' H1 st R1 q)
    | true =>
      refine iteT ⟨fun σ2 H2 => ∃ B2 μ2 en2 m2, Stp B μ m H B2 μ2 m2 H2 ∧ Rel X.K B2 μ2 en2 m2 σ2 H2 ∧ whN tc tb n en2 m2 N, fun σ2 H2 h => ⟨n, Nat.lt_succ_self n, h⟩, ?_⟩
      refine k2 B1 μ1 en' m1 σ' H1 { N with nx := fun en2 m2 => whN tc tb n en2 m2 N, ct := fun en2 m2 => whN tc tb n en2 m2 N, bk := N.nx } _ R1 (hx.step st R1.mem R.mem.le) q ⟨?_, e.rt.step st R1.mem R.mem.le, e.nx.step st R1.mem R.mem.le, ?_⟩
      · exact fun B5 μ5 en5 m5 σ5 H5 s5 R5 q5 => ⟨B5, μ5, en5, m5, st.trans R1.mem s5 R.mem.le, R5, q5⟩
      · exact fun B5 μ5 en5 m5 σ5 H5 s5 R5 q5 => ⟨B5, μ5, en5, m5, st.trans R1.mem s5 R.mem.le, R5, q5⟩
end
end Fs
set_option Elab.async false
set_option linter.all false
set_option maxRecDepth 100000
set_option maxHeartbeats 8000000
namespace Fs
open PySem PySem.Spec PyProof.Rows L2
/-- a datum -/
def oD : W → (D → Prop) → Prop
  | .v d, Q => Q d
  | .loc _, _ => False
/-- data -/
def oDs : List W → (List D → Prop) → Prop
  | [], Q => Q []
  | .v d :: r, Q => oDs r fun ds => Q (d :: ds)
  | .loc _ :: _, _ => False
theorem oDs_ok {K : Frag} {B : Hp} {μ : List Addr} : ∀ {xs : List W} {vs : List V} {Q : List D → Prop}, RWs K B μ vs xs → oDs xs Q → ∃ ds, RvL K B vs ds ∧ Q ds
  | [], _, _, .nil, q => ⟨[], .nil, q⟩
  | .v d :: r, _, Q, .cons a t, q => by
    obtain ⟨ds, h, k⟩ := oDs_ok (Q := fun ds => Q (d :: ds)) t q
    exact ⟨d :: ds, .cons a h, k⟩
  | .loc _ :: _, _, _, _, q => q.elim
/-! ### a thing that is hidden beside -/
theorem MemOk.touch {K : Frag} {B : Hp} {μ : List Addr} {m : Me} {H H' : Hp} {p : Addr} (h : MemOk K B μ m H) (nb : B p = none) (nl : ¬ Live μ m p) (k : ∀ b o, b ≠ p → H b = some o → H' b = some o) : MemOk K B μ m H' := by
  refine ⟨fun a o e => k a o (fun z => by subst z; rw [nb] at e; cases e) (h.le a o e), h.len, h.off, fun n a x e1 e2 e3 => ?_, h.inj, h.ntb⟩
  have c : a ≠ p := fun z => by
    subst z
    exact nl ⟨n, x, e1, e2, e3⟩
  exact OO.to (Same.refl _) (List.prefix_refl _) (fun o z => k a o c z) (h.at_ n a x e1 e2 e3)
theorem Stp.touch {B B' : Hp} {μ μ' : List Addr} {m m' : Me} {H H' H'' : Hp} {p : Addr} (h : Stp B μ m H B' μ' m' H') (np : H p = none) (k : ∀ b o, b ≠ p → H' b = some o → H'' b = some o) : Stp B μ m H B' μ' m' H'' :=
  ⟨h.same, h.pre, fun a o n e t => k a o (ne_of_none e np) (h.out a o n e t), h.hid⟩
theorem MemOk.none {K : Frag} {B : Hp} {μ : List Addr} {m : Me} {H : Hp} (h : MemOk K B μ m H) {p : Addr} (np : H p = none) : B p = none ∧ ¬ Live μ m p := by
  refine ⟨?_, fun l => h.there l np⟩
  cases e : B p with
  | none => rfl
  | some u => exact absurd np (h.le.some e)
/-! ### slots wiped -/
def wipeE (en : En) : List Nat → En
  | [] => en
  | v :: vs => (wipeE en vs).set v none
theorem wipeE_len (en : En) : ∀ vs, (wipeE en vs).length = en.length
  | [] => rfl
  | v :: vs => by unfold wipeE; rw [List.length_set, wipeE_len en vs]
theorem wipeE_at (en : En) (σ : L2.St) (K : Frag) (B : Hp) (μ : List Addr) (h : ∀ (i : Nat) (x : W), en[i]? = some (some x) → ∃ v, σ[i]? = some (some v) ∧ RW K B μ v x) : ∀ vs (i : Nat) (x : W), (wipeE en vs)[i]? = some (some x) → ∃ v, (wipe σ vs)[i]? = some (some v) ∧ RW K B μ v x
  | [], i, x, e => h i x e
  | v :: vs, i, x, e => by
    unfold wipeE at e
    unfold wipe
    by_cases c : v = i
    · subst c
      have l : v < (wipeE en vs).length := by
        have z := (List.getElem?_eq_some_iff.mp e).1
        simpa using z
      rw [List.getElem?_set_self l] at e
      cases e
    · rw [List.getElem?_set_ne c] at e ⊢
      exact wipeE_at en σ K B μ h vs i x e
theorem Rel.wipe {K : Frag} {B : Hp} {μ : List Addr} {en : En} {m : Me} {σ : L2.St} {H : Hp} (R : Rel K B μ en m σ H) (vs : List Nat) : Rel K B μ (wipeE en vs) m (L2.wipe σ vs) H :=
  ⟨R.mem, by rw [wipe_length, wipeE_len, R.len], wipeE_at en σ K B μ R.env vs⟩
theorem wipe_set_mem {σ : L2.St} {i : Nat} {x : V} : ∀ {vs : List Nat}, i ∈ vs → wipe (σ.set i (some x)) vs = wipe σ vs
  | v :: vs, h => by
    unfold wipe
    by_cases c : i ∈ vs
    · rw [wipe_set_mem c]
    · have e : i = v := (List.mem_cons.mp h).resolve_right c
      subst e
      rw [wipe_set_out c, List.set_set]
where
  wipe_set_out {σ : L2.St} {i : Nat} {x : V} : ∀ {vs : List Nat}, i ∉ vs → wipe (σ.set i (some x)) vs = (wipe σ vs).set i (some x)
    | [], _ => rfl
    | v :: vs, h => by
      unfold wipe
      rw [wipe_set_out (fun z => h (List.mem_cons_of_mem _ z))]
      exact List.set_comm _ _ (fun z => h (by rw [z]; exact List.mem_cons_self))
theorem Sts.wipe {is vs : List Nat} {a b : L2.St} (h : Sts is a b) (k : ∀ i ∈ is, i ∈ vs) : L2.wipe b vs = L2.wipe a vs := by
  induction h with
  | refl => rfl
  | set hi _ ih => rw [ih, wipe_set_mem (k _ hi)]
theorem wipe_none_out {σ : L2.St} {i : Nat} : ∀ {vs : List Nat}, wipe (σ.set i none) vs = (wipe σ vs).set i none
  | [] => rfl
  | v :: vs => by
    unfold wipe
    rw [wipe_none_out]
    by_cases c : i = v
    · subst c
      rfl
    · exact List.set_comm _ _ c
theorem wipe_wipe (σ : L2.St) : ∀ vs : List Nat, wipe (wipe σ vs) vs = wipe σ vs
  | [] => rfl
  | v :: vs => by
    show (wipe ((wipe σ vs).set v none) vs).set v none = (wipe σ vs).set v none
    rw [wipe_none_out, wipe_wipe σ vs, List.set_set]
/-! ### comprehensions -/
structure DTs (X : Cx) (E : XK) (es : List Expr) (T : DTT) : Prop where
  ex : ∃ t, PTs X es t ∧ ST X E t T
def tYs : DTT := fun _ m Q _ => Q true m
section
variable {X : Cx} {E : XK}
theorem dts_nil : DTs X E [] tYs := ⟨_, pts_nil, fun B μ en m σ H Q Qx QV R hx T k => k B μ m H true .refl R T⟩
theorem dts_one {c : Expr} {t : DTT} (h : DT X E c t) : DTs X E [c] t := by
  obtain ⟨t1, p1, k1⟩ := h.ex
  exact ⟨_, pts_one p1, k1⟩
theorem DTs.pts {es : List Expr} {T : DTT} (h : DTs X E es T) : PTs X es (lT X.K E T) := by
  obtain ⟨t, p, k⟩ := h.ex
  exact ⟨fun pins s σ H Q I ⟨B, μ, en, m, Q', Qx, R, hx, q, z⟩ => p.run pins s σ H Q I (k B μ en m σ H Q' Qx Q R hx q z)⟩
def noX : QX := fun _ _ => False
theorem ExOf.no {K : Frag} {E : XK} {B : Hp} {μ : List Addr} {m : Me} {H : Hp} : ExOf K E B μ m H noX := fun _ _ _ _ _ _ _ _ _ _ _ q => q.elim
def lcL (g : DTG) (tt : DTT) (te : DTE) (en : En) : List D → List D → Me → (W → Me → Prop) → Prop
  | [], acc, m, Q => Q (.v (.lst acc)) m
  | d :: ds, acc, m, Q => g (.v d) en m fun en1 m1 => tt en1 m1 (fun b m2 => if b = true then te en1 m2 (fun y m3 => oD y fun dy => acc.length < sizeLine ∧ lcL g tt te en ds (acc ++ [dy]) m3 Q) noX else lcL g tt te en ds acc m2 Q) noX
def tLcD (ti : DTI) (g : DTG) (tt : DTT) (te : DTE) (vs : List Nat) : DTE := fun en m Q Qx => ti en m (fun its m1 => lcL g tt te (wipeE en vs) its [] m1 Q) Qx
theorem d_lc {elt tg iter : Expr} {ifs : List Expr} {scope : Scope} {own : List (Str × Nat)} {is : List Nat} {pos : Pos} {ti : DTI} {g : DTG} {tt : DTT} {te : DTE} (hc : X.calm = true) (hN : X.N.Nodup) (hi : DI X E tg iter ti) (ok : BlkOk X.N X.env.scope scope own)
    (hg : ∀ (s : Shared) (H : Hp) (C : Addr) (cl : List (Str × Addr)) (fp : List Addr), DG (X.blk s H scope (compEnvC scope cl C X.env) fp) tg is g) (ht : ∀ (s : Shared) (H : Hp) (C : Addr) (cl : List (Str × Addr)) (fp : List Addr), DTs (X.blk s H scope (compEnvC scope cl C X.env) fp) E0 ifs tt)
    (he : ∀ (s : Shared) (H : Hp) (C : Addr) (cl : List (Str × Addr)) (fp : List Addr), DE (X.blk s H scope (compEnvC scope cl C X.env) fp) E0 elt te) (hs : ∀ x, foldedSetIterable iter X.env x = pure x := by intro _; rfl) (hv : is.all (fun i => (own.map (·.2)).contains i) = true := by rfl) :
    DE X E (.ListComp elt [⟨tg, iter, ifs, 0⟩] scope pos) (tLcD ti g tt te (own.map (·.2))) := by
  obtain ⟨t0, p0, k0⟩ := hi.ex
  have hv' : ∀ i ∈ is, i ∈ own.map (·.2) := fun i h => List.contains_iff_mem.mp (List.all_eq_true.mp hv i h)
  refine ⟨_, pe_lc hc hN p0 ok (g := lG X.K is g) (tt := lT X.K E0 tt) (te := lE X.K E0 te) (fun s H C cl fp => (hg s H C cl fp).pg) (fun s H C cl fp => (ht s H C cl fp).pts) (fun s H C cl fp => (he s H C cl fp).pe) hs, fun B μ en m σ H Q Qx QV R hx T k => ?_⟩
  refine k0 B μ en m σ H _ Qx _ R hx T fun B1 μ1 m1 H1 its J s1 R1 ⟨G, Y, w, hG, hY⟩ q => ?_
  intro L nL
  obtain ⟨nb1, nl1⟩ := R1.mem.none nL
  have Rw := R1.wipe (own.map (·.2))
  generalize hen : wipeE en (own.map (·.2)) = enw at q Rw
  refine lc_it w (fun i H' => ∃ B' μ' m' vs acc, Stp B1 μ1 m1 H1 B' μ' m' H' ∧ MemOk X.K B' μ' m' H' ∧ B' L = none ∧ ¬ Live μ' m' L ∧ H' L = some (.lst vs) ∧ RvL X.K B' vs acc ∧ lcL g tt te enw (its.drop i) acc m' Q) ?_ (fun i H' _ ⟨B', μ', m', vs, acc, s', M', _⟩ => hG B' μ' m' H' s'.same M') (fun i x H2 H3 hi ⟨B', μ', m', vs, acc, s', M', nb, nl, hL, rv, q'⟩ y => ?_) (fun H' ⟨B', μ', m', vs, acc, s', M', nb, nl, hL, rv, q'⟩ => ?_)
  · have kp : ∀ b o, b ≠ L → H1 b = some o → upd H1 L (.lst []) b = some o := fun b o c e => by rw [upd_ne c]; exact e
    exact ⟨B1, μ1, m1, [], [], Stp.refl.touch nL kp, R1.mem.touch nb1 nl1 kp, nb1, nl1, upd_same, .nil, q⟩
  · obtain ⟨B3, d, hd, s3, m3, rd⟩ := hY i B' μ' m' H2 x H3 hi s'.same M' y
    have s13 := s'.trans M' s3 R1.mem.le
    obtain ⟨nb3, nl3⟩ := s3.hid L _ nl hL ⟨(fun _ z => nomatch z), (fun _ z => nomatch z)⟩ nb
    have hL3 := s3.out L _ nl hL (fun _ z => nomatch z)
    have R3 : Rel X.K B3 μ' enw m' (L2.wipe σ (own.map (·.2))) H3 := Rw.stp s13 m3
    rw [List.drop_eq_getElem_cons hi] at q'
    have ed : its[i] = d := by
      rw [List.getElem?_eq_getElem hi] at hd
      exact Option.some.inj hd
    rw [ed] at q'
    refine ⟨B3, μ', enw, m', .v d, _, R3, rd, q', fun B4 μ4 en4 m4 σ4 H4 s4 R4 st4 q4 => ⟨by rw [st4.wipe hv', wipe_wipe], ?_⟩⟩
    have s14 := s13.trans m3 s4 R1.mem.le
    obtain ⟨nb4, nl4⟩ := s4.hid L _ nl3 hL3 ⟨(fun _ z => nomatch z), (fun _ z => nomatch z)⟩ nb3
    have hL4 := s4.out L _ nl3 hL3 (fun _ z => nomatch z)
    refine ⟨B4, μ4, en4, m4, _, noX, R4, ExOf.no, q4, fun B5 μ5 m5 H5 b s5 R5 q5 => ?_⟩
    have s15 := s14.trans R4.mem s5 R1.mem.le
    obtain ⟨nb5, nl5⟩ := s5.hid L _ nl4 hL4 ⟨(fun _ z => nomatch z), (fun _ z => nomatch z)⟩ nb4
    have hL5 := s5.out L _ nl4 hL4 (fun _ z => nomatch z)
    have rv5 := rv.to ((s3.same.trans s4.same).trans s5.same)
    cases b with
    | false => exact iteF ⟨B5, μ5, m5, vs, acc, s15, R5.mem, nb5, nl5, hL5, rv5, q5⟩
    | true =>
      refine iteT ⟨B5, μ5, en4, m5, _, noX, R5, ExOf.no, q5, fun B6 μ6 m6 H6 y v s6 R6 r6 q6 => ?_⟩
      cases y with
      | loc n => exact q6.elim
      | v dy =>
        obtain ⟨lz, q6⟩ := q6
        have s16 := s15.trans R5.mem s6 R1.mem.le
        obtain ⟨nb6, nl6⟩ := s6.hid L _ nl5 hL5 ⟨(fun _ z => nomatch z), (fun _ z => nomatch z)⟩ nb5
        have hL6 := s6.out L _ nl5 hL5 (fun _ z => nomatch z)
        have rv6 := rv5.to s6.same
        have kp : ∀ b o, b ≠ L → H6 b = some o → upd H6 L (.lst (vs ++ [v])) b = some o := fun b o c e => by rw [upd_ne c]; exact e
        exact ⟨vs, hL6, by rw [rv6.len]; exact lz, B6, μ6, m6, vs ++ [v], acc ++ [dy], s16.touch nL kp, R6.mem.touch nb6 nl6 kp, nb6, nl6, upd_same, rv6.append (.one r6), q6⟩
  · rw [List.drop_length] at q'
    -- the new list becomes a datum
    have kp : ∀ b o, b ≠ L → H' b = some o → H' b = some o := fun _ _ _ e => e
    have same : Same B' (upd B' L (.lst vs)) := same_new nb _
    have M2 : MemOk X.K (upd B' L (.lst vs)) μ' m' H' := by
      refine ⟨fun a o e => ?_, M'.len, fun a l => ?_, fun n a x e1 e2 e3 => OO.to same (List.prefix_refl _) (fun _ z => z) (M'.at_ n a x e1 e2 e3), M'.inj, fun a ps e => by
        by_cases c : a = L
        · subst c
          rw [upd_same] at e
          cases e
        · rw [upd_ne c] at e
          exact M'.ntb a ps e⟩
      · by_cases c : a = L
        · subst c
          rw [upd_same] at e
          cases e
          exact hL
        · rw [upd_ne c] at e
          exact M'.le a o e
      · have c : a ≠ L := fun z => by
          subst z
          exact nl l
        rw [upd_ne c]
        exact M'.off a l
    have st : Stp B1 μ1 m1 H1 (upd B' L (.lst vs)) μ' m' H' := ⟨s'.same.trans same, s'.pre, s'.out, fun a o n e x b => by
      obtain ⟨h1, h2⟩ := s'.hid a o n e x b
      refine ⟨?_, h2⟩
      rw [upd_ne (ne_of_none e nL)]
      exact h1⟩
    have stt := s1.trans R1.mem st R.mem.le
    exact k _ μ' m' H' _ _ stt (R.stp stt M2) (RW.d (.lst upd_same (rv.to same))) q'
end
/-! ### displays -/
section
variable {X : Cx} {E : XK} {es : List Expr} {ta : DTA} {pos : Pos}
def tTu (ta : DTA) : DTE := fun en m Q Qx => ta en m (fun xs m1 => oDs xs fun ds => ds.length ≤ sizeLine ∧ Q (.v (.tup ds)) m1) Qx
def tLs (ta : DTA) : DTE := fun en m Q Qx => ta en m (fun xs m1 => oDs xs fun ds => ds.length ≤ sizeLine ∧ Q (.v (.lst ds)) m1) Qx
theorem d_tup {x1 : Nat} (h : DA X E es ta) : DE X E (.Tuple es x1 pos) (tTu ta) := by
  obtain ⟨t1, p1, k1⟩ := h.ex
  refine ⟨_, pe_tup p1, fun B μ en m σ H Q Qx QV R hx T k => ?_⟩
  refine k1 B μ en m σ H _ Qx _ R hx T fun B1 μ1 m1 H1 xs vs s1 R1 r q => ?_
  obtain ⟨ds, rl, hz, q⟩ := oDs_ok r q
  refine ⟨by rw [rl.len]; exact hz, fun p np => ?_⟩
  have sl := Stp.laid R1.mem np (o := .tup vs)
  have st := s1.trans R1.mem sl R.mem.le
  exact k _ μ1 m1 _ _ _ st (R.stp st (R1.mem.laid np)) (RW.d (.tup (.inl upd_same) (rl.to sl.same))) q
theorem d_lst (h : DA X E es ta) : DE X E (.List es pos) (tLs ta) := by
  obtain ⟨t1, p1, k1⟩ := h.ex
  refine ⟨_, pe_lst p1, fun B μ en m σ H Q Qx QV R hx T k => ?_⟩
  refine k1 B μ en m σ H _ Qx _ R hx T fun B1 μ1 m1 H1 xs vs s1 R1 r q => ?_
  obtain ⟨ds, rl, hz, q⟩ := oDs_ok r q
  refine ⟨by rw [rl.len]; exact hz, fun p np => ?_⟩
  have sl := Stp.laid R1.mem np (o := .lst vs)
  have st := s1.trans R1.mem sl R.mem.le
  exact k _ μ1 m1 _ _ _ st (R.stp st (R1.mem.laid np)) (RW.d (.lst upd_same (rl.to sl.same))) q
/-- a list that will be changed -/
def tLsO (ta : DTA) : DTE := fun en m Q Qx => ta en m (fun xs m1 => oDs xs fun ds => ds.length ≤ sizeLine ∧ Q (.loc m1.length) (m1 ++ [.lst ds])) Qx
theorem d_lstO (h : DA X E es ta) : DE X E (.List es pos) (tLsO ta) := by
  obtain ⟨t1, p1, k1⟩ := h.ex
  refine ⟨_, pe_lst p1, fun B μ en m σ H Q Qx QV R hx T k => ?_⟩
  refine k1 B μ en m σ H _ Qx _ R hx T fun B1 μ1 m1 H1 xs vs s1 R1 r q => ?_
  obtain ⟨ds, rl, hz, q⟩ := oDs_ok r q
  refine ⟨by rw [rl.len]; exact hz, fun p np => ?_⟩
  have kp : ∀ a o, a ≠ p → H1 a = some o → upd H1 p (.lst vs) a = some o := fun a o c e => by rw [upd_ne c]; exact e
  have sl := Stp.push R1.mem np (m := .lst ds) kp
  have st := s1.trans R1.mem sl R.mem.le
  have mo := R1.mem.push np (m := .lst ds) (fun a o e => kp a o (ne_of_none (R1.mem.le a o e) np) (R1.mem.le a o e)) kp ⟨vs, upd_same, rl⟩
  refine k _ _ _ _ (.loc m1.length) _ st (R.stp st mo) ⟨p, rfl, ?_⟩ q
  rw [← R1.mem.len]
  simp
/-- x.append(e): x an own list -/
def appD : W → List W → Me → (Me → Prop) → Prop
  | .loc n, [.v d], m, Q => match m[n]? with
    | some (.lst ds) => ds.length < sizeLine ∧ Q (m.set n (.lst (ds ++ [d])))
    | _ => False
  | _, _, _, _ => False
def tApp (to : DTE) (ta : DTA) : DTE := fun en m Q Qx => to en m (fun x m1 => ta en m1 (fun xs m2 => appD x xs m2 fun m3 => Q (.v .non) m3) Qx) Qx
/-! ### calls -/
abbrev SpD := List W → Me → (W → Me → Prop) → QX → Prop
/-- the promise of a def by data -/
def lift (K : Frag) (sp : SpD) : Sp := fun vs H Q E => ∃ B μ m ws Qd Qx, MemOk K B μ m H ∧ RWs K B μ vs ws ∧ sp ws m Qd Qx ∧ ExOf K E B μ m H Qx ∧
  ∀ B' μ' m' H' x v, Stp B μ m H B' μ' m' H' → MemOk K B' μ' m' H' → RW K B' μ' v x → Qd x m' → Q v H'
def tCal (sp : SpD) (ta : DTA) : DTE := fun en m Q Qx => ta en m (fun xs m1 => sp xs m1 Q Qx) Qx
section
variable {CX : CXT} {k : Nat} {x : Str} {ps : List Str} {sp : SpD} {e : Expr} {p : Pos}
theorem SA.call {t : TA} {dv : List V} {dw : List D} (h : SA X E t ta) (hd : ∀ B, RvL X.K B dv dw) : SE X E (tCall (lift X.K sp) dv E t) (tCal (fun ws => sp (ws ++ dw.map .v)) ta) := by
  intro B μ en m σ H Q Qx QV R hx T k
  refine h B μ en m σ H _ Qx _ R hx T fun B1 μ1 m1 H1 xs vs s1 R1 r q => ?_
  have ra : RWs X.K B1 μ1 (vs ++ dv) (xs ++ dw.map .v) := by
    clear q
    induction r with
    | nil => exact (hd B1).ws
    | cons a _ ih => exact .cons a ih
  refine ⟨B1, μ1, m1, _, _, Qx, R1.mem, ra, q, hx.step s1 R1.mem R.mem.le, fun B2 μ2 m2 H2 y v s2 m2' r2 q2 => ?_⟩
  have st := s1.trans R1.mem s2 R.mem.le
  exact k B2 μ2 m2 H2 y v st (R.stp st m2') r2 q2
theorem SE.imp {t : TE} {T T' : DTE} (h : SE X E t T) (k : ∀ en m Q Qx, T' en m Q Qx → T en m Q Qx) : SE X E t T' := fun B μ en m σ H Q Qx QV R hx q z => h B μ en m σ H Q Qx QV R hx (k _ _ _ _ q) z
theorem d_call (G : Gd X.prog X.w X.K X.mg X.base CX k x ps (lift X.K sp)) (hr : Room k X.A) (hx : Passes CX X E) (ha : DA X E (e :: es) ta)
    (hg : Gl X x := by rfl) (hdb : (x == ("__debug__" : Str)) = false := by decide) (he : starEach (e :: es) X.env = (false, eval e X.env) :: starEach es X.env := by rfl) (hpl : (backTo pos (starEach es X.env)).any (·.1) = false := by rfl) :
    DE X E (.Call (.Name x p) (e :: es) [] pos) (tCal sp ta) := by
  obtain ⟨t1, p1, k1⟩ := ha.ex
  refine ⟨_, pe_g G hr hx p1 hg hdb he hpl, (SA.call (dv := []) (dw := []) k1 fun _ => .nil).imp fun en m Q Qx q => ?_⟩
  unfold tCal at q ⊢
  simpa using q
end
end
end Fs
set_option Elab.async false
set_option linter.all false
set_option maxRecDepth 100000
set_option maxHeartbeats 8000000
namespace Fs
open PySem PySem.Spec PyProof.Rows L2
def startE (N : List Str) (ws : List W) : En := ws.map some ++ List.replicate (N.length - ws.length) none
/-- a def's end: own objects that it made are gone -/
def rtD (m : Me) (Q : W → Me → Prop) : W → Me → Prop := fun x m' => oD x fun d => m <+: m' ∧ Q (.v d) m
def xcD (m : Me) (Qx : QX) : QX := fun er m' => m <+: m' ∧ Qx er m
def defN (m : Me) (Q : W → Me → Prop) (Qx : QX) : Dn := ⟨fun _ m' => rtD m Q (.v .non) m', rtD m Q, fun _ _ => False, fun _ _ => False, xcD m Qx⟩
/-- .. where they stay -/
def defO (Q : W → Me → Prop) (Qx : QX) : Dn := ⟨fun _ m' => Q (.v .non) m', Q, fun _ _ => False, fun _ _ => False, Qx⟩
theorem startE_rel {K : Frag} {B : Hp} {μ : List Addr} {m : Me} {H : Hp} {N : List Str} {vs : List V} {ws : List W} (M : MemOk K B μ m H) (r : RWs K B μ vs ws) : Rel K B μ (startE N ws) m (L2.start N vs) H := by
  refine ⟨M, by simp [startE, L2.start, r.len], fun i x e => ?_⟩
  unfold startE at e
  unfold L2.start
  have at_ : ∀ {vs : List V} {ws : List W} {i : Nat} {x : W}, RWs K B μ vs ws → ws[i]? = some x → ∃ v, vs[i]? = some v ∧ RW K B μ v x := by
    intro vs ws i x r
    induction r generalizing i with
    | nil => intro e; simp at e
    | cons a _ ih =>
      intro e
      cases i with
      | zero => simp at e; subst e; exact ⟨_, rfl, a⟩
      | succ i =>
        obtain ⟨v, h1, h2⟩ := ih (i := i) (by simpa using e)
        exact ⟨v, by simpa using h1, h2⟩
  by_cases c : i < ws.length
  · rw [List.getElem?_append_left (by simpa using c), List.getElem?_map] at e
    obtain ⟨w, hw, ew⟩ : ∃ w, ws[i]? = some w ∧ some w = some x := by
      cases q : ws[i]? with
      | none => rw [q] at e; cases e
      | some w => rw [q] at e; exact ⟨w, rfl, Option.some.inj e⟩
    cases ew
    obtain ⟨v, h1, h2⟩ := at_ r hw
    refine ⟨v, ?_, h2⟩
    rw [List.getElem?_append_left (by rw [List.length_map, r.len]; exact c), List.getElem?_map, h1]
    rfl
  · rw [List.getElem?_append_right (by simpa using Nat.le_of_not_lt c)] at e
    have z := List.mem_of_getElem? e
    rw [List.mem_replicate] at z
    cases z.2
section
variable {P : Program} {w : World} {K : Frag} {mg : Str → Option Value} {base : Heap} {x : Str} {st : Stmt} {N ps : List Str} {k : Nat} {sp : SpD}
theorem SS.def_ {X : Cx} {E : XK} {t : TS} {T : DTS} (h : SS X E t T) {vs : List V} {H : Hp} {Q : VK} (hT : ∀ ws m Qd Qx, sp ws m Qd Qx → T (startE N ws) m (defN m Qd Qx)) (q : lift X.K sp vs H Q E) : t { nx := fun _ H' => Q .non H', rt := Q } (L2.start N vs) H := by
  obtain ⟨B, μ, m, ws, Qd, Qx, M, r, hs, hx, hq⟩ := q
  have fin : ∀ B' μ' m' H' x v, Stp B μ m H B' μ' m' H' → MemOk X.K B' μ' m' H' → RW X.K B' μ' v x → rtD m Qd x m' → Q v H' := fun B' μ' m' H' x v s M' r q => by
    cases x with
    | loc n => exact q.elim
    | v d =>
      obtain ⟨⟨more, rfl⟩, q⟩ := q
      exact hq B' μ m H' (.v d) v s.drop (M.drop s.pre M') r q
  refine h B μ (startE N ws) m (L2.start N vs) H (defN m Qd Qx) _ (startE_rel M r) (fun B' μ' m' H' er dd fvs s M' hd rf q => ?_) (hT ws m Qd Qx hs) ⟨fun B' μ' en' m' σ' H' s R' q => ?_, fin, fun _ _ _ _ _ _ _ _ q => q.elim, fun _ _ _ _ _ _ _ _ q => q.elim⟩
  · obtain ⟨⟨more, rfl⟩, q⟩ := q
    exact hx B' μ m H' er dd fvs s.drop (M.drop s.pre M') hd rf q
  · exact fin B' μ' m' H' (.v .non) .non s R'.mem (RW.d .non) q
theorem SS.defo {X : Cx} {E : XK} {t : TS} {T : DTS} (h : SS X E t T) {vs : List V} {H : Hp} {Q : VK} (hT : ∀ ws m Qd Qx, sp ws m Qd Qx → T (startE N ws) m (defO Qd Qx)) (q : lift X.K sp vs H Q E) : t { nx := fun _ H' => Q .non H', rt := Q } (L2.start N vs) H := by
  obtain ⟨B, μ, m, ws, Qd, Qx, M, r, hs, hx, hq⟩ := q
  refine h B μ (startE N ws) m (L2.start N vs) H (defO Qd Qx) _ (startE_rel M r) hx (hT ws m Qd Qx hs) ⟨fun B' μ' en' m' σ' H' s R' q => ?_, fun B' μ' m' H' x v s M' r q => hq B' μ' m' H' x v s M' r q, fun _ _ _ _ _ _ _ _ q => q.elim, fun _ _ _ _ _ _ _ _ q => q.elim⟩
  exact hq B' μ' m' H' (.v .non) .non s R'.mem (RW.d .non) q
/-- THE RULE for a def -/
theorem fo_d (S : FnScope N ps (defScope st)) (ar : ∀ ws m Q Qx, sp ws m Q Qx → ws.length = ps.length)
    (hbody : ∀ (f : Addr) (cdv : Value) (A : Around) (outer : List Env) (s : Shared) (H : Hp) (E : XK), Room k (A.deeper (envOfC x (defScope st) s.heap.objs.size f cdv)) →
      ∃ T, DSs (cxOf (L2.CX P w) P w K mg base N x (defScope st) f cdv A outer s H E) E (defBody st) T ∧ ∀ ws m Qd Qx, sp ws m Qd Qx → T (startE N ws) m (defN m Qd Qx))
    (dfl : List V) (kwd : List (Str × V)) : Fo P w K mg base (L2.CX P w) (k + 1) x st dfl kwd ps (lift K sp) := by
  refine fo_okX S (fun vs H Q E ⟨B, μ, m, ws, Qd, Qx, M, r, hs, _⟩ => by rw [r.len]; exact ar _ _ _ _ hs) fun f cdv A outer s H vs Q E hr h => ?_
  obtain ⟨T, hd, hT⟩ := hbody f cdv A outer s H E hr
  obtain ⟨t, hp, hs⟩ := hd.ex
  exact ⟨t, hp, hs.def_ hT h⟩
theorem fo_o (S : FnScope N ps (defScope st)) (ar : ∀ ws m Q Qx, sp ws m Q Qx → ws.length = ps.length)
    (hbody : ∀ (f : Addr) (cdv : Value) (A : Around) (outer : List Env) (s : Shared) (H : Hp) (E : XK), Room k (A.deeper (envOfC x (defScope st) s.heap.objs.size f cdv)) →
      ∃ T, DSs (cxOf (L2.CX P w) P w K mg base N x (defScope st) f cdv A outer s H E) E (defBody st) T ∧ ∀ ws m Qd Qx, sp ws m Qd Qx → T (startE N ws) m (defO Qd Qx))
    (dfl : List V) (kwd : List (Str × V)) : Fo P w K mg base (L2.CX P w) (k + 1) x st dfl kwd ps (lift K sp) := by
  refine fo_okX S (fun vs H Q E ⟨B, μ, m, ws, Qd, Qx, M, r, hs, _⟩ => by rw [r.len]; exact ar _ _ _ _ hs) fun f cdv A outer s H vs Q E hr h => ?_
  obtain ⟨T, hd, hT⟩ := hbody f cdv A outer s H E hr
  obtain ⟨t, hp, hs⟩ := hd.ex
  exact ⟨t, hp, hs.defo hT h⟩
end
theorem passF {X : Cx} : Passes (L2.CX X.prog X.w) X E0 := fun pins σ H s e s' I ⟨a, B, H', cls, d, _, _, _, _, _, _, _, q⟩ => q.elim
/-! ### own objects become data -/
def sbs (n : Nat) (d : D) : Option W → Option W
  | some (.loc k) => if k = n then some (.v d) else some (.loc k)
  | o => o
/-- the own list at n -/
def lstAt (m : Me) (n : Nat) (Q : List D → Prop) : Prop := match m[n]? with
  | some (.lst ds) => Q ds
  | _ => False
theorem lstAt_ok {m : Me} {n : Nat} {Q : List D → Prop} (h : lstAt m n Q) : ∃ ds, m[n]? = some (.lst ds) ∧ Q ds := by
  unfold lstAt at h
  split at h
  · rename_i ds e
    exact ⟨ds, e, h⟩
  · exact h.elim
/-- the slot i's own list becomes a datum -/
def sFz (i : Nat) (u : DTS) : DTS := fun en m N => match En.get en i with
  | some (.loc n) => lstAt m n fun ds => u (en.map (sbs n (.lst ds))) (m.set n .gone) N
  | some (.v _) => u en m N
  | none => False
section
variable {X : Cx} {E : XK}
theorem Rel.freeze {K : Frag} {B : Hp} {μ : List Addr} {en : En} {m : Me} {σ : L2.St} {H : Hp} {n : Nat} {a : Addr} {mo : MO} {d : D} {o : HO} (R : Rel K B μ en m σ H) (ha : μ[n]? = some a) (hm : m[n]? = some mo) (hl : mo.live = true) (ho : H a = some o) (hr : Rv K (upd B a o) (.ref a) d) (no : ∀ ps, o ≠ .tbl ps := by exact fun _ z => nomatch z) : Rel K (upd B a o) μ (en.map (sbs n d)) (m.set n .gone) σ H := by
  have nb := R.mem.off a ⟨n, mo, ha, hm, hl⟩
  refine ⟨R.mem.freeze ha hm hl ho no, by simp [R.len], fun i x e => ?_⟩
  rw [List.getElem?_map] at e
  cases q : en[i]? with
  | none => rw [q] at e; cases e
  | some y =>
    rw [q] at e
    have e : sbs n d y = some x := Option.some.inj e
    cases y with
    | none => cases e
    | some y =>
      obtain ⟨v, h1, h2⟩ := R.env i y q
      cases y with
      | v d2 =>
        cases e
        exact ⟨v, h1, h2.to (same_new nb o) (List.prefix_refl _)⟩
      | loc k =>
        have e : (if k = n then some (W.v d) else some (W.loc k)) = some x := e
        obtain ⟨b, rfl, hb⟩ := h2
        by_cases c : k = n
        · rw [if_pos c] at e
          cases e
          subst c
          have z : a = b := Option.some.inj (ha.symm.trans hb)
          subst z
          exact ⟨_, h1, hr⟩
        · rw [if_neg c] at e
          cases e
          exact ⟨_, h1, b, rfl, hb⟩
theorem dss_fz {st : List Stmt} {u : DTS} (i : Nat) (h : DSs X E st u) : DSs X E st (sFz i u) := by
  obtain ⟨t1, p1, k1⟩ := h.ex
  refine ⟨_, p1, fun B μ en m σ H N D R hx T e => ?_⟩
  unfold sFz at T
  split at T
  · rename_i n hn
    obtain ⟨ds, hm, T⟩ := lstAt_ok T
    obtain ⟨v, h1, a, rfl, ha⟩ := R.env i _ (En.get_some hn)
    obtain ⟨vs, hv, rl⟩ := R.mem.at_ n a _ ha hm rfl
    have nb := R.mem.off a ⟨n, _, ha, hm, rfl⟩
    have sf := Stp.freeze (H := H) (o := .lst vs) ha hm rfl nb
    have R1 := R.freeze ha hm rfl hv (.lst upd_same (rl.to sf.same))
    exact k1 _ μ _ _ σ H N D R1 (hx.step sf R1.mem R.mem.le) T (e.step sf R1.mem R.mem.le)
  · exact k1 B μ en m σ H N D R hx T e
  · exact T.elim
/-! ### methods of built-in types -/
abbrev DMt := W → List W → Me → (D → Me → Prop) → Prop
def SM (X : Cx) (r : V → List V → Hp → VK → Prop) (o : DMt) : Prop := ∀ B μ m H x xs v vs (Q : D → Me → Prop) (QV : VK), MemOk X.K B μ m H → RW X.K B μ v x → RWs X.K B μ vs xs → o x xs m Q →
  (∀ B' m' H' d z, Stp B μ m H B' μ m' H' → MemOk X.K B' μ m' H' → Rv X.K B' z d → Q d m' → QV z H') → r v vs H QV
def STy (X : Cx) (T : String) (ty : W → Me → Prop) : Prop := ∀ B μ m H x v, MemOk X.K B μ m H → RW X.K B μ v x → ty x m → tyV X.K T v H
def tMe (ty : W → Me → Prop) (o : DMt) (to : DTE) (ta : DTA) : DTE := fun en m Q Qx => to en m (fun x m1 => ty x m1 ∧ ta en m1 (fun xs m2 => o x xs m2 fun d m3 => Q (.v d) m3) Qx) Qx
theorem d_bm {T : String} {name : Str} {id : String} {r : V → List V → Hp → VK → Prop} {op : DMt} {ty : W → Me → Prop} {o e : Expr} {es : List Expr} {to : DTE} {ta : DTA} {apos cpos : Pos} (pa : PlainAttrs T) (slot : Slot T name id) (hty : typeOf (.builtin id) = pure (.type "method_descriptor")) (hm : MtR X id r) (so : SM X r op) (st : STy X T ty) (ho : DE X E o to) (ha : DA X E (e :: es) ta)
    (hbase : attributeBase o name X.env (eval o X.env) = eval o X.env := by rfl)
    (hfew : ((backTo cpos (starEach (e :: es) X.env)).all (fun x => !x.1) && (backToKw cpos (keywordEach [] X.env)).all (fun x => x.1.isSome)
      && decide ((e :: es).length + ([] : List Keyword).length + (if ([] : List Keyword).isEmpty then 0 else 1) < 30)) = true := by rfl)
    (hline : (apos.endLine == cpos.line) = true := by rfl) (hs : starEach (e :: es) X.env = (false, eval e X.env) :: starEach es X.env := by rfl) (hplain : (backTo cpos (starEach es X.env)).any (·.1) = false := by rfl) :
    DE X E (.Call (.Attribute o name apos) (e :: es) [] cpos) (tMe ty op to ta) := by
  obtain ⟨t1, p1, k1⟩ := ho.ex
  obtain ⟨t2, p2, k2⟩ := ha.ex
  refine ⟨_, pe_bm pa slot hty hm p1 p2 hbase hfew hline hs hplain, fun B μ en m σ H Q Qx QV R hx T k => ?_⟩
  refine k1 B μ en m σ H _ Qx _ R hx T fun B1 μ1 m1 H1 x v s1 R1 r1 ⟨q1, q2⟩ => ⟨st B1 μ1 m1 H1 x v R1.mem r1 q1, ?_⟩
  refine k2 B1 μ1 en m1 σ H1 _ Qx _ R1 (hx.step s1 R1.mem R.mem.le) q2 fun B2 μ2 m2 H2 xs vs s2 R2 r2 q3 => ?_
  refine so B2 μ2 m2 H2 x xs v vs _ _ R2.mem (r1.to s2.same s2.pre) r2 q3 fun B3 m3 H3 d z s3 M3 rz q4 => ?_
  have st := (s1.trans R1.mem s2 R.mem.le).trans R2.mem s3 R.mem.le
  exact k B3 μ2 m3 H3 (.v d) z st (R.stp st M3) rz q4
/-! ### append -/
def isOl : W → Me → Prop
  | .loc n, m => lstAt m n fun _ => True
  | _, _ => False
def aApp : DMt := fun x xs m Q => match x, xs with
  | .loc n, [.v d] => lstAt m n fun ds => ds.length < sizeLine ∧ Q .non (m.set n (.lst (ds ++ [d])))
  | _, _ => False
theorem isOl_ok : STy X "list" isOl := by
  intro B μ m H x v M r q
  cases x with
  | v d => exact q.elim
  | loc n =>
    obtain ⟨ds, hm, _⟩ := lstAt_ok q
    obtain ⟨a, rfl, ha⟩ := r
    obtain ⟨vs, hv, _⟩ := M.at_ n a _ ha hm rfl
    exact .inl ⟨rfl, vs, .inl (.inl hv)⟩
theorem aApp_ok : SM X rAppend aApp := by
  intro B μ m H x xs v vs Q QV M r rs q k
  unfold aApp at q
  split at q
  · rename_i x xs n d
    obtain ⟨ds, hm, q⟩ := lstAt_ok q
    obtain ⟨a, rfl, ha⟩ := r
    obtain ⟨us, hv, rl⟩ := M.at_ n a _ ha hm rfl
    cases rs with
    | cons rd rn =>
      cases rn with
      | nil =>
        rename_i vd
        have kp : ∀ b o, b ≠ a → H b = some o → upd H a (.lst (us ++ [vd])) b = some o := fun b o c e => by rw [upd_ne c]; exact e
        refine ⟨a, us, vd, rfl, rfl, hv, by rw [rl.len]; exact q.1, ?_⟩
        have new : OO X.K B μ (upd H a (.lst (us ++ [vd]))) a (.lst (ds ++ [d])) := ⟨_, upd_same, rl.append (.one rd)⟩
        exact k B _ _ .non _ (Stp.store ha hm rfl kp) (M.store ha hm rfl rfl kp new) .non q.2
  · exact q.elim
theorem d_app {o e : Expr} {to : DTE} {ta : DTA} {apos pos : Pos} (ho : DE X E o to) (ha : DA X E [e] ta) (hb : attributeBase o "append" X.env (eval o X.env) = eval o X.env := by rfl)
    (hfew : ((backTo pos (starEach [e] X.env)).all (fun x => !x.1) && (backToKw pos (keywordEach [] X.env)).all (fun x => x.1.isSome)
      && decide ([e].length + ([] : List Keyword).length + (if ([] : List Keyword).isEmpty then 0 else 1) < 30)) = true := by rfl)
    (hline : (apos.endLine == pos.line) = true := by rfl) (hs : starEach [e] X.env = (false, eval e X.env) :: starEach [] X.env := by rfl) (hplain : (backTo pos (starEach [] X.env)).any (·.1) = false := by rfl) :
    DE X E (.Call (.Attribute o "append" apos) [e] [] pos) (tMe isOl aApp to ta) := d_bm PySem.F.plainAttrs_list PySem.F.slot_list_append PySem.F.type_list_append mt_append aApp_ok isOl_ok ho ha hb hfew hline hs hplain
/-! ### what a value shows: its datum, own objects too -/
def lookO : Option MO → (D → Prop) → Prop
  | some (.lst ds), Q => Q (.lst ds)
  | some (.dic ds), Q => Q (.dic ds)
  | _, _ => False
def look : W → Me → (D → Prop) → Prop
  | .v d, _, Q => Q d
  | .loc n, m, Q => lookO m[n]? Q
/-- the datum d is to be read at v -/
def Top (K : Frag) (B H : Hp) (v : V) : D → Prop
  | .tup ds => ∃ a vs, v = .ref a ∧ TqT K B a vs ∧ RvL K B vs ds
  | .lst ds => ∃ a vs, v = .ref a ∧ H a = some (.lst vs) ∧ RvL K B vs ds
  | .dic ds => ∃ a vs, v = .ref a ∧ Rd H a (.dK vs) ∧ RvK K B vs ds
  | .obj C ds => ∃ a dx vs, v = .ref a ∧ H a = some (.ins C dx vs) ∧ RvF K B vs ds
  | d => Rv K B v d
theorem Rv.top {K : Frag} {B H : Hp} (le : Le B H) {v : V} {d : D} (r : Rv K B v d) : Top K B H v d := by
  cases r with
  | tup h a => exact ⟨_, _, rfl, h, a⟩
  | lst h a => exact ⟨_, _, rfl, le _ _ h, a⟩
  | dic h a => exact ⟨_, _, rfl, .inr ⟨_, le _ _ h⟩, a⟩
  | obj h a => exact ⟨_, _, _, rfl, le _ _ h, a⟩
  | exc h g a => exact .exc h g a
  | non => exact .non
  | bl b => exact .bl b
  | int i => exact .int i
  | str h => exact .str h
  | ty n => exact .ty n
  | fn a => exact .fn a
theorem look_ok {K : Frag} {B : Hp} {μ : List Addr} {m : Me} {H : Hp} {v : V} (M : MemOk K B μ m H) : ∀ {x : W} {Q : D → Prop}, RW K B μ v x → look x m Q → ∃ d, Top K B H v d ∧ Q d
  | .v d, Q, r, q => ⟨d, Rv.top M.le r, q⟩
  | .loc n, Q, ⟨a, e, ha⟩, q => by
    subst e
    have q : lookO m[n]? Q := q
    cases hm : m[n]? with
    | none => rw [hm] at q; exact q.elim
    | some mo =>
      rw [hm] at q
      cases mo with
      | lst ds =>
        obtain ⟨vs, hv, rl⟩ := M.at_ n a _ ha hm rfl
        exact ⟨.lst ds, ⟨a, vs, rfl, hv, rl⟩, q⟩
      | dic ds =>
        obtain ⟨vs, hv, rl⟩ := M.at_ n a _ ha hm rfl
        exact ⟨.dic ds, ⟨a, vs, rfl, .inl hv, rl⟩, q⟩
      | ins C fs => exact q.elim
      | bag => exact q.elim
      | tab _ _ => exact q.elim
      | gone => exact q.elim
end
end Fs
set_option Elab.async false
set_option linter.all false
set_option maxRecDepth 100000
set_option maxHeartbeats 8000000
namespace Fs
open PySem PySem.Spec PyProof.Rows L2
abbrev okS (x : Str) : Bool := PySem.PyData.strOk x
theorem okS_app {x y : Str} (h : okS x = true) (k : okS y = true) : okS (x ++ y) = true := by
  unfold okS PySem.PyData.strOk at *
  show Array.all (x.cps ++ y.cps) _ = true
  rw [Array.all_append, h, k]
  rfl
theorem okS_iff {x : Str} : okS x = true ↔ ∀ c ∈ x.cps.toList, c < 0x110000 := by
  unfold okS PySem.PyData.strOk
  rw [← Array.all_toList, List.all_eq_true]
  simp
/-! ### data as the library's data -/
mutual
def plainD : D → Bool
  | .non | .bl _ | .int _ | .str _ => true
  | .tup xs => plainL xs
  | .lst xs => plainL xs
  | _ => false
def plainL : List D → Bool
  | [] => true
  | x :: xs => plainD x && plainL xs
end
mutual
def pyD : D → PyData
  | .bl b => .bool b
  | .int i => .int i
  | .str x => .str x
  | .tup xs => .tuple (pyL xs)
  | .lst xs => .list (pyL xs)
  | _ => .none
def pyL : List D → List PyData
  | [] => []
  | x :: xs => pyD x :: pyL xs
end
mutual
def depD : D → Nat
  | .tup xs => depL xs + 1
  | .lst xs => depL xs + 1
  | _ => 0
def depL : List D → Nat
  | [] => 0
  | x :: xs => max (depD x) (depL xs)
end
mutual
/-- == -/
def deq : D → D → Bool
  | .non, .non => true
  | .bl a, .bl b => a == b
  | .bl a, .int j => (if a then 1 else 0) == j
  | .int i, .bl b => i == (if b then 1 else 0)
  | .int i, .int j => i == j
  | .str x, .str y => x == y
  | .lst xs, .lst ys => deqL xs ys
  | .tup xs, .tup ys => deqL xs ys
  | _, _ => false
def deqL : List D → List D → Bool
  | [], [] => true
  | x :: xs, y :: ys => deq x y && deqL xs ys
  | _, _ => false
end
mutual
theorem deq_py : ∀ {x y : D}, plainD x = true → plainD y = true → PyData.eqv (pyD x) (pyD y) = deq x y
  | .non, y, _, h => by cases y <;> first | rfl | cases h
  | .bl _, y, _, h => by cases y <;> first | rfl | cases h
  | .int _, y, _, h => by cases y <;> first | rfl | cases h
  | .str _, y, _, h => by cases y <;> first | rfl | cases h
  | .lst xs, y, g, h => by
    cases y with
    | lst ys => exact deqL_py (x := xs) (y := ys) g h
    | non => rfl
    | bl _ => rfl
    | int _ => rfl
    | str _ => rfl
    | tup _ => rfl
    | dic _ => cases h
    | obj _ _ => cases h
    | exc _ _ => cases h
    | ty _ => cases h
    | fn _ => cases h
  | .tup xs, y, g, h => by
    cases y with
    | tup ys => exact deqL_py (x := xs) (y := ys) g h
    | non => rfl
    | bl _ => rfl
    | int _ => rfl
    | str _ => rfl
    | lst _ => rfl
    | dic _ => cases h
    | obj _ _ => cases h
    | exc _ _ => cases h
    | ty _ => cases h
    | fn _ => cases h
theorem deqL_py : ∀ {x y : List D}, plainL x = true → plainL y = true → PyData.eqvAll (pyL x) (pyL y) = deqL x y
  | [], [], _, _ => rfl
  | [], _ :: _, _, _ => rfl
  | _ :: _, [], _, _ => rfl
  | x :: xs, y :: ys, g, h => by
    have g := Bool.and_eq_true_iff.mp g
    have h := Bool.and_eq_true_iff.mp h
    show (PyData.eqv (pyD x) (pyD y) && PyData.eqvAll (pyL xs) (pyL ys)) = (deq x y && deqL xs ys)
    rw [deq_py g.1 h.1, deqL_py g.2 h.2]
end
mutual
theorem dep_py : ∀ (x : D), (pyD x).depth = depD x
  | .tup xs => congrArg (· + 1) (depL_py xs)
  | .lst xs => congrArg (· + 1) (depL_py xs)
  | .non => rfl
  | .bl _ => rfl
  | .int _ => rfl
  | .str _ => rfl
  | .dic _ => rfl
  | .obj _ _ => rfl
  | .exc _ _ => rfl
  | .ty _ => rfl
  | .fn _ => rfl
theorem depL_py : ∀ (x : List D), PyData.depthAll (pyL x) = depL x
  | [] => rfl
  | x :: xs => by
    show max (pyD x).depth (PyData.depthAll (pyL xs)) = max (depD x) (depL xs)
    rw [dep_py x, depL_py xs]
end
mutual
theorem Rv.dp {K : Frag} {B : Hp} : ∀ {v : V} {d : D}, Rv K B v d → plainD d = true → Dp K B v (pyD d)
  | _, _, .non, _ => .non
  | _, _, .bl b, _ => .bl b
  | _, _, .int i, _ => .int i
  | _, _, .str _, _ => .str _
  | _, _, .tup h r, p => .tup h.sq (RvL.dp r p)
  | _, _, .lst h r, p => .lst (.inl (.inl h)) (RvL.dp r p)
  | _, _, .ty _, p => by cases p
  | _, _, .fn _, p => by cases p
  | _, _, .dic _ _, p => by cases p
  | _, _, .obj _ _, p => by cases p
  | _, _, .exc _ _ _, p => by cases p
theorem RvL.dp {K : Frag} {B : Hp} : ∀ {v : List V} {d : List D}, RvL K B v d → plainL d = true → DpAll K B v (pyL d)
  | _, _, .nil, _ => .nil
  | _, _, .cons h t, p => .cons (Rv.dp h (Bool.and_eq_true_iff.mp p).1) (RvL.dp t (Bool.and_eq_true_iff.mp p).2)
end
mutual
theorem Rv.lay {K : Frag} {B : Hp} : ∀ {v : V} {d : D}, Rv K B v d → plainD d = true → (pyD d).canLay0 = true
  | _, _, .non, _ => rfl
  | _, _, .bl b, _ => rfl
  | _, _, .int i, _ => rfl
  | _, _, .str h, _ => h
  | _, _, .tup h r, p => RvL.lay r p
  | _, _, .lst h r, p => RvL.lay r p
  | _, _, .ty _, p => by cases p
  | _, _, .fn _, p => by cases p
  | _, _, .dic _ _, p => by cases p
  | _, _, .obj _ _, p => by cases p
  | _, _, .exc _ _ _, p => by cases p
theorem RvL.lay {K : Frag} {B : Hp} : ∀ {v : List V} {d : List D}, RvL K B v d → plainL d = true → PyData.canLayAll0 (pyL d) = true
  | _, _, .nil, _ => rfl
  | _, _, .cons h t, p => by
    show ((pyD _).canLay0 && PyData.canLayAll0 (pyL _)) = true
    rw [Rv.lay h (Bool.and_eq_true_iff.mp p).1, RvL.lay t (Bool.and_eq_true_iff.mp p).2]
    rfl
end
/-- a value that shows d, as the library's datum -/
theorem Top.dp {K : Frag} {B H : Hp} (le : Le B H) {v : V} : ∀ {d : D}, Top K B H v d → plainD d = true → Dp K H v (pyD d) ∧ (pyD d).canLay0 = true
  | .non, h, p => ⟨Dp.to le (Rv.dp h p), Rv.lay h p⟩
  | .bl b, h, p => ⟨Dp.to le (Rv.dp h p), Rv.lay h p⟩
  | .int i, h, p => ⟨Dp.to le (Rv.dp h p), Rv.lay h p⟩
  | .str x, h, p => ⟨Dp.to le (Rv.dp h p), Rv.lay h p⟩
  | .tup xs, ⟨a, vs, e, hs, r⟩, p => by
    subst e
    exact ⟨.tup (le.tup hs) (DpAll.to le (RvL.dp r p)), RvL.lay r p⟩
  | .lst xs, ⟨a, vs, e, hs, r⟩, p => by
    subst e
    exact ⟨.lst (.inl (.inl hs)) (DpAll.to le (RvL.dp r p)), RvL.lay r p⟩
  | .ty _, _, p => by cases p
  | .fn _, _, p => by cases p
  | .dic _, _, p => by cases p
  | .obj _ _, _, p => by cases p
  | .exc _ _, _, p => by cases p
/-! ### operators by what both sides show -/
abbrev F2 := D → D → (D → Prop) → Prop
def oL (f : F2) : DOp := fun x y m Q => look x m fun dx => look y m fun dy => f dx dy Q
section
variable {X : Cx} {E : XK}
theorem SO.of {r : R2} {f : F2} (h : ∀ B μ m H v u dx dy (Q : D → Prop) (QV : VK), MemOk X.K B μ m H → Top X.K B H v dx → Top X.K B H u dy → f dx dy Q →
    (∀ B' H' d z, Stp B μ m H B' μ m H' → MemOk X.K B' μ m H' → Rv X.K B' z d → Q d → QV z H') → r v u H QV) : SO X r (oL f) := by
  intro B μ m H x y v u Q QV M rx ry q k
  obtain ⟨dx, tx, q⟩ := look_ok M rx q
  obtain ⟨dy, ty, q⟩ := look_ok M ry q
  exact h B μ m H v u dx dy Q QV M tx ty q k
theorem SO.pure {B : Hp} {μ : List Addr} {m : Me} {H : Hp} {Q : D → Prop} {QV : VK} (M : MemOk X.K B μ m H) (k : ∀ B' H' d z, Stp B μ m H B' μ m H' → MemOk X.K B' μ m H' → Rv X.K B' z d → Q d → QV z H') {d : D} {z : V} (r : Rv X.K B z d) (q : Q d) : QV z H := k B H d z .refl M r q
theorem SO.new {B : Hp} {μ : List Addr} {m : Me} {H : Hp} {Q : D → Prop} {QV : VK} (M : MemOk X.K B μ m H) (k : ∀ B' H' d z, Stp B μ m H B' μ m H' → MemOk X.K B' μ m H' → Rv X.K B' z d → Q d → QV z H') {d : D} {p : Addr} {o : HO} (np : H p = none) (r : Rv X.K (upd B p o) (.ref p) d) (q : Q d) (no : ∀ ps, o ≠ .tbl ps := by exact fun _ z => nomatch z) : QV (.ref p) (upd H p o) :=
  k _ _ d _ (Stp.laid M np) (M.laid np no) r q
theorem new_lst {K : Frag} {B : Hp} {μ : List Addr} {m : Me} {H : Hp} {p : Addr} {vs : List V} {ds : List D} (M : MemOk K B μ m H) (np : H p = none) (r : RvL K B vs ds) : Rv K (upd B p (.lst vs)) (.ref p) (.lst ds) := .lst upd_same (r.to (laid_same M np))
theorem new_tup {K : Frag} {B : Hp} {μ : List Addr} {m : Me} {H : Hp} {p : Addr} {vs : List V} {ds : List D} (M : MemOk K B μ m H) (np : H p = none) (r : RvL K B vs ds) : Rv K (upd B p (.tup vs)) (.ref p) (.tup ds) := .tup (.inl upd_same) (r.to (laid_same M np))
def addD : F2
  | .int i, .int j, Q => Q (.int (i + j))
  | .str a, .str b, Q => a.length + b.length ≤ sizeLine ∧ Q (.str (a ++ b))
  | .lst a, .lst b, Q => a.length + b.length ≤ sizeLine ∧ Q (.lst (a ++ b))
  | .tup a, .tup b, Q => a.length + b.length ≤ sizeLine ∧ Q (.tup (a ++ b))
  | _, _, _ => False
theorem o_add : OpD X (binaryOp .Add) (oL addD) := by
  refine ⟨_, (op_add.or op_add_str).or (op_cat.or op_catA), SO.of fun B μ m H v u dx dy Q QV M tx ty q k => ?_⟩
  unfold addD at q
  split at q
  · cases tx
    cases ty
    exact .inl (.inl ⟨_, _, rfl, rfl, SO.pure M k (.int _) q⟩)
  · cases tx with
    | str h1 => cases ty with
      | str h2 => exact .inl (.inr ⟨_, _, rfl, rfl, q.1, SO.pure M k (.str (okS_app h1 h2)) q.2⟩)
  · obtain ⟨a, vs, rfl, h1, r1⟩ := tx
    obtain ⟨b, us, rfl, h2, r2⟩ := ty
    exact .inr (.inl ⟨a, b, vs, us, rfl, rfl, h1, h2, by rw [r1.len, r2.len]; exact q.1, fun p np => SO.new M k np (new_lst M np (r1.append r2)) q.2⟩)
  · obtain ⟨a, vs, rfl, h1, r1⟩ := tx
    obtain ⟨b, us, rfl, h2, r2⟩ := ty
    refine .inr (.inr ⟨a, b, vs, us, rfl, rfl, M.le.tup h1, M.le.tup h2, by rw [r1.len, r2.len]; exact q.1, fun z => ?_, fun _ z => ?_, fun _ _ p np => SO.new M k np (new_tup M np (r1.append r2)) q.2⟩)
    · subst z
      cases r1
      exact SO.pure M k (.tup h2 r2) q.2
    · subst z
      cases r2
      have q2 := q.2
      rw [List.append_nil] at q2
      exact SO.pure M k (.tup h1 r1) q2
  · exact q.elim
def intF (f : Int → Int → (D → Prop) → Prop) : F2
  | .int i, .int j, Q => f i j Q
  | _, _, _ => False
theorem intF_ok {f : Int → Int → (D → Prop) → Prop} {K : Frag} {B H : Hp} {v u : V} {dx dy : D} {Q : D → Prop} (tx : Top K B H v dx) (ty : Top K B H u dy) (q : intF f dx dy Q) : ∃ i j, v = .int i ∧ u = .int j ∧ f i j Q := by
  unfold intF at q
  split at q
  · cases tx
    cases ty
    exact ⟨_, _, rfl, rfl, q⟩
  · exact q.elim
theorem o_sub : OpD X (binaryOp .Sub) (oL (intF fun i j Q => Q (.int (i - j)))) := ⟨_, op_sub, SO.of fun B μ m H v u dx dy Q QV M tx ty q k => by
  obtain ⟨i, j, rfl, rfl, q⟩ := intF_ok tx ty q
  exact ⟨_, _, rfl, rfl, SO.pure M k (.int _) q⟩⟩
/-- products, list * int -/
def mulD : F2
  | .int i, .int j, Q => CMulW i j ∧ Q (.int (i * j))
  | .lst a, .int n, Q => 0 ≤ n ∧ n < 2 ^ 62 ∧ a.length * n.toNat ≤ sizeLine ∧ Q (.lst (List.replicate n.toNat a).flatten)
  | _, _, _ => False
theorem RvL.rep {K : Frag} {B : Hp} {vs : List V} {ds : List D} (r : RvL K B vs ds) : ∀ n : Nat, RvL K B (List.replicate n vs).flatten (List.replicate n ds).flatten
  | 0 => .nil
  | n + 1 => by
    rw [List.replicate_succ, List.replicate_succ, List.flatten_cons, List.flatten_cons]
    exact r.append (RvL.rep r n)
theorem o_mod : OpD X (binaryOp .Mod) (oL (intF fun i j Q => 0 < j ∧ Q (.int (i % j)))) := ⟨_, op_mod, SO.of fun B μ m H v u dx dy Q QV M tx ty q k => by
  obtain ⟨i, j, rfl, rfl, q1, q⟩ := intF_ok tx ty q
  exact ⟨_, _, rfl, rfl, q1, SO.pure M k (.int _) q⟩⟩
theorem o_fdiv : OpD X (binaryOp .FloorDiv) (oL (intF fun i j Q => 0 < j ∧ j.natAbs.log2 < 9000 ∧ Q (.int (i / j)))) := ⟨_, op_fdivW, SO.of fun B μ m H v u dx dy Q QV M tx ty q k => by
  obtain ⟨i, j, rfl, rfl, q1, q2, q⟩ := intF_ok tx ty q
  exact ⟨_, _, rfl, rfl, ⟨q1, q2⟩, SO.pure M k (.int _) q⟩⟩
/-- // by a divisor of either sign -/
theorem op_fdivZ : OpR X (binaryOp .FloorDiv) (rI (fun _ j => j ≠ 0 ∧ j.natAbs.log2 < 9000) fun i j => .int (i.fdiv j)) := opI fun _ _ _ _ _ _ _ hc q => floordiv_int hc.1 q (.inl (PyProof.noPylong_of_log2 hc.2))
theorem o_fdivZ : OpD X (binaryOp .FloorDiv) (oL (intF fun i j Q => j ≠ 0 ∧ j.natAbs.log2 < 9000 ∧ Q (.int (i.fdiv j)))) := ⟨_, op_fdivZ, SO.of fun B μ m H v u dx dy Q QV M tx ty q k => by
  obtain ⟨i, j, rfl, rfl, q1, q2, q⟩ := intF_ok tx ty q
  exact ⟨_, _, rfl, rfl, ⟨q1, q2⟩, SO.pure M k (.int _) q⟩⟩
/-! ### comparisons -/
def cmpI (f : Int → Int → Bool) : F2 := intF fun i j Q => Q (.bl (f i j))
theorem o_lt : OpD X (compareOp .Lt) (oL (cmpI fun i j => decide (i < j))) := ⟨_, op_lt, SO.of fun B μ m H v u dx dy Q QV M tx ty q k => by
  obtain ⟨i, j, rfl, rfl, q⟩ := intF_ok tx ty q
  exact ⟨_, _, rfl, rfl, SO.pure M k (.bl _) q⟩⟩
theorem o_le : OpD X (compareOp .LtE) (oL (cmpI fun i j => decide (i ≤ j))) := ⟨_, op_le, SO.of fun B μ m H v u dx dy Q QV M tx ty q k => by
  obtain ⟨i, j, rfl, rfl, q⟩ := intF_ok tx ty q
  exact ⟨_, _, rfl, rfl, SO.pure M k (.bl _) q⟩⟩
theorem o_gt : OpD X (compareOp .Gt) (oL (cmpI fun i j => decide (j < i))) := ⟨_, op_gt, SO.of fun B μ m H v u dx dy Q QV M tx ty q k => by
  obtain ⟨i, j, rfl, rfl, q⟩ := intF_ok tx ty q
  exact ⟨_, _, rfl, rfl, SO.pure M k (.bl _) q⟩⟩
theorem o_ge : OpD X (compareOp .GtE) (oL (cmpI fun i j => decide (j ≤ i))) := ⟨_, op_ge, SO.of fun B μ m H v u dx dy Q QV M tx ty q k => by
  obtain ⟨i, j, rfl, rfl, q⟩ := intF_ok tx ty q
  exact ⟨_, _, rfl, rfl, SO.pure M k (.bl _) q⟩⟩
/-- ==: plain data not too deep -/
def eqD (g : Bool → Bool) : F2 := fun x y Q => plainD x = true ∧ plainD y = true ∧ depD x ≤ 64 ∧ depD y ≤ 64 ∧ Q (.bl (g (deq x y)))
theorem eqD_ok {K : Frag} {B H : Hp} {v u : V} {dx dy : D} (le : Le B H) (tx : Top K B H v dx) (ty : Top K B H u dy) (h1 : plainD dx = true) (h2 : plainD dy = true) (h3 : depD dx ≤ 64) (h4 : depD dy ≤ 64) : Dp K H v (pyD dx) ∧ Dp K H u (pyD dy) ∧ SeqAt.shaped (pyD dx) = true ∧ SeqAt.shaped (pyD dy) = true := by
  obtain ⟨a1, a2⟩ := Top.dp le tx h1
  obtain ⟨b1, b2⟩ := Top.dp le ty h2
  refine ⟨a1, b1, ?_, ?_⟩
  · unfold SeqAt.shaped
    rw [a2, dep_py]
    simpa using h3
  · unfold SeqAt.shaped
    rw [b2, dep_py]
    simpa using h4
theorem o_eq (hu : X.A.units + 64 < cLine) : OpD X (compareOp .Eq) (oL (eqD id)) := ⟨_, op_eqD hu, SO.of fun B μ m H v u dx dy Q QV M tx ty ⟨h1, h2, h3, h4, q⟩ k => by
  obtain ⟨a, b, c, d⟩ := eqD_ok M.le tx ty h1 h2 h3 h4
  exact ⟨_, _, a, b, c, d, by rw [deq_py h1 h2]; exact SO.pure M k (.bl _) q⟩⟩
theorem o_ne (hu : X.A.units + 64 < cLine) : OpD X (compareOp .NotEq) (oL (eqD (!·))) := ⟨_, op_neD hu, SO.of fun B μ m H v u dx dy Q QV M tx ty ⟨h1, h2, h3, h4, q⟩ k => by
  obtain ⟨a, b, c, d⟩ := eqD_ok M.le tx ty h1 h2 h3 h4
  exact ⟨_, _, a, b, c, d, by rw [deq_py h1 h2]; exact SO.pure M k (.bl _) q⟩⟩
/-- is None -/
def isNon : D → Bool
  | .non => true
  | _ => false
def isF (g : Bool → Bool) : F2 := fun x y Q => isNon y = true ∧ Q (.bl (g (isNon x)))
theorem Top.nonI {K : Frag} {B H : Hp} {v : V} {d : D} (t : Top K B H v d) : decide (v = .non) = isNon d := by
  cases d with
  | non => cases t; rfl
  | bl b => cases t; rfl
  | int b => cases t; rfl
  | str b => cases t; rfl
  | ty b => cases t; rfl
  | fn b => cases t; rfl
  | tup _ => obtain ⟨a, _, rfl, _⟩ := t; rfl
  | lst _ => obtain ⟨a, _, rfl, _⟩ := t; rfl
  | dic _ => obtain ⟨a, _, rfl, _⟩ := t; rfl
  | obj _ _ => obtain ⟨a, _, _, rfl, _⟩ := t; rfl
  | exc _ _ => cases t; rfl
theorem o_is : OpD X (compareOp .Is) (oL (isF id)) := ⟨_, op_isN, SO.of fun B μ m H v u dx dy Q QV M tx ty ⟨h, q⟩ k => by
  refine ⟨of_decide_eq_true (by rw [ty.nonI]; exact h), ?_⟩
  rw [tx.nonI]
  exact SO.pure M k (.bl _) q⟩
theorem o_isnot : OpD X (compareOp .IsNot) (oL (isF (!·))) := ⟨_, op_notN, SO.of fun B μ m H v u dx dy Q QV M tx ty ⟨h, q⟩ k => by
  refine ⟨of_decide_eq_true (by rw [ty.nonI]; exact h), ?_⟩
  rw [tx.nonI]
  exact SO.pure M k (.bl _) q⟩
/-! ### in -/
def flatD : D → Bool
  | .non | .bl _ | .int _ | .str _ => true
  | _ => false
def subS (x y : Str) : Bool := !(Builtin.Str.occurrences y x 0 y.length 1).isEmpty
/-- x in y: flat items; a text in a text; plain data in a list -/
def inD (g : Bool → Bool) : F2
  | .str x, .str y, Q => Q (.bl (g (subS x y)))
  | x, .tup ds, Q => flatD x = true ∧ ds.all flatD = true ∧ Q (.bl (g (ds.any fun y => deq y x)))
  | x, .lst ds, Q => plainD x = true ∧ plainL ds = true ∧ depD x ≤ 64 ∧ depL ds + 1 ≤ 64 ∧ Q (.bl (g (ds.any fun y => deq y x)))
  | _, _, _ => False
theorem flat_v {K : Frag} {B H : Hp} {v : V} {d : D} (t : Top K B H v d) (h : flatD d = true) : flatV v = true := by
  cases d with
  | non => cases t; rfl
  | bl b => cases t; rfl
  | int b => cases t; rfl
  | str b => cases t; rfl
  | _ => cases h
theorem flat_vs {K : Frag} {B : Hp} : ∀ {vs : List V} {ds : List D}, RvL K B vs ds → ds.all flatD = true → vs.all flatV = true
  | _, _, .nil, _ => rfl
  | _, _, .cons a t, h => by
    rw [List.all_cons] at h ⊢
    have h := Bool.and_eq_true_iff.mp h
    rw [flat_v (H := B) (Rv.top (Le.refl B) a) h.1, flat_vs t h.2]
    rfl
theorem deq_v {K : Frag} {B H B2 H2 : Hp} {v u : V} {d e : D} (t : Top K B H v d) (t2 : Top K B2 H2 u e) (h : flatD d = true) (k : flatD e = true) : eqV v u = deq d e := by
  cases d with
  | non => cases t; cases e <;> first | (cases t2; rfl) | cases k
  | bl b => cases t; cases e <;> first | (cases t2; rfl) | cases k
  | int b => cases t; cases e <;> first | (cases t2; rfl) | cases k
  | str b => cases t; cases e <;> first | (cases t2; rfl) | cases k
  | _ => cases h
theorem inV_d {K : Frag} {B H : Hp} {v : V} {d : D} (t : Top K B H v d) (h : flatD d = true) : ∀ {vs : List V} {ds : List D}, RvL K B vs ds → ds.all flatD = true → inV v vs = ds.any fun y => deq y d
  | _, _, .nil, _ => rfl
  | _, _, .cons (ds := ds) a r, k => by
    rw [List.all_cons] at k
    have k := Bool.and_eq_true_iff.mp k
    show (eqV _ v || inV v _) = (_ || _)
    rw [inV_d t h r k.2, deq_v (Rv.top (Le.refl B) a) t k.1 h]
theorem any_py : ∀ {ds : List D} {x : D}, plainL ds = true → plainD x = true → ((pyL ds).any fun z => PyData.eqv z (pyD x)) = ds.any fun y => deq y x
  | [], _, _, _ => rfl
  | d :: ds, x, h, k => by
    have h := Bool.and_eq_true_iff.mp h
    show (PyData.eqv (pyD d) (pyD x) || (pyL ds).any _) = (deq d x || ds.any _)
    rw [deq_py h.1 k, any_py h.2 k]
theorem o_in (hu : X.A.units + 65 < cLine) : OpD X (compareOp .In) (oL (inD id)) := by
  refine ⟨_, op_in_str.or (op_in_seq.or (op_inD hu)), SO.of fun B μ m H v u dx dy Q QV M tx ty q k => ?_⟩
  unfold inD at q
  split at q
  · cases tx with
    | str h1 => cases ty with
      | str h2 => exact .inl ⟨_, _, rfl, rfl, SO.pure M k (.bl _) q⟩
  · obtain ⟨a, vs, rfl, hs, r⟩ := ty
    obtain ⟨q1, q2, q⟩ := q
    refine .inr (.inl ⟨a, vs, rfl, .inr (M.le.tup hs), flat_v tx q1, flat_vs r q2, ?_⟩)
    rw [inV_d tx q1 r q2]
    exact SO.pure M k (.bl _) q
  · obtain ⟨q1, q2, q3, q4, q⟩ := q
    obtain ⟨a, b, c, d⟩ := eqD_ok (dy := .lst _) M.le tx ty q1 q2 q3 q4
    refine .inr (.inr ⟨_, pyL _, a, b, c, d, ?_⟩)
    rw [any_py q2 q1]
    exact SO.pure M k (.bl _) q
  · exact q.elim
theorem o_notin (hu : X.A.units + 65 < cLine) : OpD X (compareOp .NotIn) (oL (inD (!·))) := by
  refine ⟨_, op_notIn_str.or (op_notIn_seq.or (op_notInD hu)), SO.of fun B μ m H v u dx dy Q QV M tx ty q k => ?_⟩
  unfold inD at q
  split at q
  · cases tx with
    | str h1 => cases ty with
      | str h2 => exact .inl ⟨_, _, rfl, rfl, SO.pure M k (.bl _) q⟩
  · obtain ⟨a, vs, rfl, hs, r⟩ := ty
    obtain ⟨q1, q2, q⟩ := q
    refine .inr (.inl ⟨a, vs, rfl, .inr (M.le.tup hs), flat_v tx q1, flat_vs r q2, ?_⟩)
    rw [inV_d tx q1 r q2]
    exact SO.pure M k (.bl _) q
  · obtain ⟨q1, q2, q3, q4, q⟩ := q
    obtain ⟨a, b, c, d⟩ := eqD_ok (dy := .lst _) M.le tx ty q1 q2 q3 q4
    refine .inr (.inr ⟨_, pyL _, a, b, c, d, ?_⟩)
    rw [any_py q2 q1]
    exact SO.pure M k (.bl _) q
  · exact q.elim
end
end Fs
set_option Elab.async false
set_option linter.all false
set_option maxRecDepth 100000
set_option maxHeartbeats 8000000
namespace Fs
open PySem PySem.Spec PyProof.Rows L2
/-! ### subscripts -/
def ixD : F2
  | .lst ds, .int i, Q => ∃ d, atI ds i = some d ∧ Q d
  | .tup ds, .int i, Q => ∃ d, atI ds i = some d ∧ Q d
  | .str x, .int i, Q => x.length ≤ sizeLine ∧ ∃ c, atI x.cps.toList i = some c ∧ Q (.str ⟨#[c]⟩)
  | _, _, _ => False
theorem atI_d {K : Frag} {B : Hp} {vs : List V} {ds : List D} {i : Int} {d : D} (r : RvL K B vs ds) (h : atI ds i = some d) : ∃ v, atI vs i = some v ∧ Rv K B v d := by
  unfold atI at h ⊢
  rw [r.len]
  cases q : ixN ds.length i with
  | none => rw [q] at h; cases h
  | some j =>
    rw [q] at h
    obtain ⟨v, h1, h2⟩ := r.at (i := j) (d := d) h
    exact ⟨v, h1, h2⟩
theorem atI_mem {α : Type} {xs : List α} {i : Int} {x : α} (h : atI xs i = some x) : x ∈ xs := by
  unfold atI at h
  cases q : ixN xs.length i with
  | none => rw [q] at h; cases h
  | some j =>
    rw [q] at h
    exact List.mem_of_getElem? h
section
variable {X : Cx} {E : XK}
theorem d_ix {a b : Expr} {ta tb : DTE} {pos : Pos} (ha : DE X E a ta) (hb : DE X E b tb) (hs : PlainIx b := by exact fun _ _ => rfl) : DE X E (.Subscript a b pos) (tO2 (oL ixD) ta tb) := by
  obtain ⟨t1, p1, k1⟩ := ha.ex
  obtain ⟨t2, p2, k2⟩ := hb.ex
  refine ⟨_, pe_ix ((IxR.or ix_list ix_tup).or ix_str) p1 p2 hs, SE.two (SO.of fun B μ m H v u dx dy Q QV M tx ty q k => ?_) k1 k2⟩
  unfold ixD at q
  split at q
  · obtain ⟨p, vs, rfl, hp, r⟩ := tx
    cases ty
    obtain ⟨d, hd, q⟩ := q
    obtain ⟨z, hz, rz⟩ := atI_d r hd
    exact .inl (.inl ⟨p, vs, _, z, rfl, rfl, .inl (.inl hp), hz, SO.pure M k rz q⟩)
  · obtain ⟨p, vs, rfl, hp, r⟩ := tx
    cases ty
    obtain ⟨d, hd, q⟩ := q
    obtain ⟨z, hz, rz⟩ := atI_d r hd
    exact .inl (.inr ⟨p, vs, _, z, rfl, rfl, M.le.tup hp, hz, SO.pure M k rz q⟩)
  · cases tx with
    | str h1 =>
      cases ty
      obtain ⟨hl, c, hc, q⟩ := q
      refine .inr ⟨_, _, c, rfl, rfl, hl, hc, SO.pure M k (.str ?_) q⟩
      refine okS_iff.mpr fun c' h' => ?_
      have e : c' = c := by simpa using h'
      rw [e]
      exact okS_iff.mp h1 _ (atI_mem hc)
  · exact q.elim
/-! ### slices -/
abbrev DTO := En → Me → (Option Int → Me → Prop) → QX → Prop
structure DO (X : Cx) (E : XK) (e : Option Expr) (T : DTO) : Prop where
  ex : ∃ t, PO X e t ∧ ∀ B μ en m σ H (Q : Option Int → Me → Prop) (Qx : QX) (QV : Option Int → Hp → Prop), Rel X.K B μ en m σ H → ExOf X.K E B μ m H Qx → T en m Q Qx →
    (∀ B' μ' m' H' b, Stp B μ m H B' μ' m' H' → Rel X.K B' μ' en m' σ H' → Q b m' → QV b H') → t σ H QV
def tNoP : DTO := fun _ m Q _ => Q none m
def iD : W → (Int → Prop) → Prop
  | .v (.int i), Q => Q i
  | _, _ => False
def tSoP (te : DTE) : DTO := fun en m Q Qx => te en m (fun x m1 => iD x fun i => Q (some i) m1) Qx
theorem iD_ok {K : Frag} {B : Hp} {μ : List Addr} {v : V} {x : W} {Q : Int → Prop} (r : RW K B μ v x) (q : iD x Q) : ∃ i, v = .int i ∧ Q i := by
  unfold iD at q
  split at q
  · cases (show Rv K B v (.int _) from r)
    exact ⟨_, rfl, q⟩
  · exact q.elim
theorem do_none : DO X E none tNoP := ⟨_, po_none, fun B μ en m σ H Q Qx QV R hx T k => k B μ m H none .refl R T⟩
theorem do_some {e : Expr} {te : DTE} (h : DE X E e te) : DO X E (some e) (tSoP te) := by
  obtain ⟨t1, p1, k1⟩ := h.ex
  refine ⟨_, po_some p1, fun B μ en m σ H Q Qx QV R hx T k => ?_⟩
  refine k1 B μ en m σ H _ Qx _ R hx T fun B1 μ1 m1 H1 x v s1 R1 r q => ?_
  obtain ⟨i, rfl, q⟩ := iD_ok r q
  exact ⟨i, rfl, k B1 μ1 m1 H1 _ s1 R1 q⟩
def cutD (xs : List D) (lo hi : Option Int) : List D := (xs.drop (HT.sIx xs.length 0 lo)).take (HT.sIx xs.length xs.length hi - HT.sIx xs.length 0 lo)
theorem cut_d {K : Frag} {B : Hp} {vs : List V} {ds : List D} (r : RvL K B vs ds) (lo hi : Option Int) : RvL K B (cutV vs lo hi) (cutD ds lo hi) := by
  unfold cutV cutD
  rw [r.len]
  exact (r.drop _).take _
def slD (lo hi : Option Int) : D → (D → Prop) → Prop
  | .lst ds, Q => Q (.lst (cutD ds lo hi))
  | .tup ds, Q => Q (.tup (cutD ds lo hi))
  | .str x, Q => x.length ≤ sizeLine ∧ Q (.str (Txt.slice x lo hi))
  | _, _ => False
theorem okS_slice {x : Str} {lo hi : Option Int} (h : okS x = true) : okS (Txt.slice x lo hi) = true := by
  rw [← C8.cutS_slice]
  refine okS_iff.mpr fun c hc => okS_iff.mp h c ?_
  unfold cutS at hc
  simp only at hc
  exact List.mem_of_mem_drop (List.mem_of_mem_take hc)
def tSlD (te : DTE) (tl th : DTO) : DTE := fun en m Q Qx => te en m (fun x m1 => tl en m1 (fun l m2 => th en m2 (fun u m3 => look x m3 fun d => slD l u d fun r => Q (.v r) m3) Qx) Qx) Qx
theorem d_slice {e : Expr} {lo hi : Option Expr} {te : DTE} {tl th : DTO} {p2 pos : Pos} (he : DE X E e te) (hl : DO X E lo tl) (hh : DO X E hi th) : DE X E (.Subscript e (.Slice lo hi none p2) pos) (tSlD te tl th) := by
  obtain ⟨t1, p1, k1⟩ := he.ex
  obtain ⟨t2, p2, k2⟩ := hl.ex
  obtain ⟨t3, p3, k3⟩ := hh.ex
  refine ⟨_, pe_slice ((SlR.or sl_list sl_tupA).or C8.sl_txt) p1 p2 p3, fun B μ en m σ H Q Qx QV R hx T k => ?_⟩
  refine k1 B μ en m σ H _ Qx _ R hx T fun B1 μ1 m1 H1 x v s1 R1 r T1 => ?_
  refine k2 B1 μ1 en m1 σ H1 _ Qx _ R1 (hx.step s1 R1.mem R.mem.le) T1 fun B2 μ2 m2 H2 l s2 R2 T2 => ?_
  have s12 := s1.trans R1.mem s2 R.mem.le
  refine k3 B2 μ2 en m2 σ H2 _ Qx _ R2 (hx.step s12 R2.mem R.mem.le) T2 fun B3 μ3 m3 H3 u s3 R3 T3 => ?_
  have s13 := s12.trans R2.mem s3 R.mem.le
  obtain ⟨d, tx, q⟩ := look_ok R3.mem ((r.to s2.same s2.pre).to s3.same s3.pre) T3
  have fin : ∀ B' H' d z, Stp B3 μ3 m3 H3 B' μ3 m3 H' → MemOk X.K B' μ3 m3 H' → Rv X.K B' z d → Q (.v d) m3 → QV z H' := fun B' H' d z s' M' rz q => by
    have st := s13.trans R3.mem s' R.mem.le
    exact k B' μ3 m3 H' (.v d) z st (R.stp st M') rz q
  cases d with
  | lst ds =>
    obtain ⟨p, vs, rfl, hp, rl⟩ := tx
    exact .inl (.inl ⟨p, vs, rfl, .inl (.inl hp), fun p np => SO.new (Q := fun d => Q (.v d) m3) R3.mem fin np (new_lst R3.mem np (cut_d rl l u)) q⟩)
  | tup ds =>
    obtain ⟨p, vs, rfl, hp, rl⟩ := tx
    refine .inl (.inr ⟨p, vs, rfl, R3.mem.le.tup hp, fun hw => ?_, fun _ p np => SO.new (Q := fun d => Q (.v d) m3) R3.mem fin np (new_tup R3.mem np (cut_d rl l u)) q⟩)
    have e : cutD ds l u = ds := by
      unfold cutD
      rw [← rl.len, hw.1, hw.2, List.drop_zero, Nat.sub_zero, List.take_of_length_le (by rw [rl.len]; exact Nat.le_refl _)]
    have q : Q (.v (.tup (cutD ds l u))) m3 := q
    rw [e] at q
    exact SO.pure (Q := fun d => Q (.v d) m3) R3.mem fin (.tup hp rl) q
  | str z =>
    cases tx with
    | str h1 => exact .inr ⟨_, rfl, q.1, SO.pure (Q := fun d => Q (.v d) m3) R3.mem fin (.str (okS_slice h1)) q.2⟩
  | _ => exact q.elim
end
/-! ### calls of built-in functions -/
abbrev DCa := List W → Me → (D → Prop) → Prop
def SC (X : Cx) (r : List V → Hp → VK → Prop) (o : DCa) : Prop := ∀ B μ m H xs vs (Q : D → Prop) (QV : VK), MemOk X.K B μ m H → RWs X.K B μ vs xs → o xs m Q →
  (∀ B' H' d z, Stp B μ m H B' μ m H' → MemOk X.K B' μ m H' → Rv X.K B' z d → Q d → QV z H') → r vs H QV
def tCa (o : DCa) (ta : DTA) : DTE := fun en m Q Qx => ta en m (fun xs m1 => o xs m1 fun d => Q (.v d) m1) Qx
section
variable {X : Cx} {E : XK} {x : Str} {e : Expr} {es : List Expr} {p pos : Pos} {ta : DTA} {o : DCa} {r : List V → Hp → VK → Prop}
theorem SA.ca {t : TA} (h : SA X E t ta) (so : SC X r o) : SE X E (fun σ H Q => t σ H fun xs H1 => r xs H1 Q) (tCa o ta) := by
  intro B μ en m σ H Q Qx QV R hx T k
  refine h B μ en m σ H _ Qx _ R hx T fun B1 μ1 m1 H1 xs vs s1 R1 r1 q => ?_
  refine so B1 μ1 m1 H1 xs vs _ _ R1.mem r1 q fun B2 H2 d z s2 M2 rz q2 => ?_
  have st := s1.trans R1.mem s2 R.mem.le
  exact k B2 μ1 m1 H2 (.v d) z st (R.stp st M2) rz q2
theorem d_fn {id : String} (hc : CallR X (.builtin id) r) (so : SC X r o) (hm : X.mg x = none) (hv : bootBuiltins x = some (.builtin id)) (ha : DA X E (e :: es) ta) (hg : Gl X x := by rfl) (hn : x ≠ "__name__" := by decide) (hdb : (x == ("__debug__" : Str)) = false := by decide)
    (he : starEach (e :: es) X.env = (false, eval e X.env) :: starEach es X.env := by rfl) (hpl : (backTo pos (starEach es X.env)).any (·.1) = false := by rfl) :
    DE X E (.Call (.Name x p) (e :: es) [] pos) (tCa o ta) := by
  obtain ⟨t1, p1, k1⟩ := ha.ex
  exact ⟨_, pe_callB hc hg hm hv p1 hn hdb he hpl, k1.ca so⟩
theorem d_tyc {T : String} (hc : CallR X (.type T) r) (so : SC X r o) (hm : X.mg x = none) (hv : bootBuiltins x = some (.type T)) (ha : DA X E (e :: es) ta) (hg : Gl X x := by rfl) (hn : x ≠ "__name__" := by decide) (hdb : (x == ("__debug__" : Str)) = false := by decide)
    (he : starEach (e :: es) X.env = (false, eval e X.env) :: starEach es X.env := by rfl) (hpl : (backTo pos (starEach es X.env)).any (·.1) = false := by rfl) :
    DE X E (.Call (.Name x p) (e :: es) [] pos) (tCa o ta) := by
  obtain ⟨t1, p1, k1⟩ := ha.ex
  exact ⟨_, pe_callTy hc hg hm hv p1 hn hdb he hpl, k1.ca so⟩
theorem CallR.or {f : Value} {r r' : List V → Hp → VK → Prop} (h : CallR X f r) (h' : CallR X f r') : CallR X f (fun xs H Q => r xs H Q ∨ r' xs H Q) := by
  intro pins s σ H xs us Q I rx q
  rcases q with q | q
  · exact h pins s σ H xs us Q I rx q
  · exact h' pins s σ H xs us Q I rx q
/-- of one argument, by what it shows -/
def c1 (f : D → (D → Prop) → Prop) : DCa := fun xs m Q => match xs with
  | [x] => look x m fun d => f d Q
  | _ => False
theorem SC.of1 {f : D → (D → Prop) → Prop} (h : ∀ B μ m H v d (Q : D → Prop) (QV : VK), MemOk X.K B μ m H → Top X.K B H v d → f d Q →
    (∀ B' H' d z, Stp B μ m H B' μ m H' → MemOk X.K B' μ m H' → Rv X.K B' z d → Q d → QV z H') → r [v] H QV) : SC X r (c1 f) := by
  intro B μ m H xs vs Q QV M rs q k
  cases rs with
  | nil => exact q.elim
  | cons a t =>
    cases t with
    | cons _ _ => exact q.elim
    | nil =>
      obtain ⟨d, td, q⟩ := look_ok M a q
      exact h B μ m H _ d Q QV M td q k
def c2 (f : F2) : DCa := fun xs m Q => match xs with
  | [x, y] => look x m fun d => look y m fun e => f d e Q
  | _ => False
theorem SC.of2 {f : F2} (h : ∀ B μ m H v u d e (Q : D → Prop) (QV : VK), MemOk X.K B μ m H → Top X.K B H v d → Top X.K B H u e → f d e Q →
    (∀ B' H' d z, Stp B μ m H B' μ m H' → MemOk X.K B' μ m H' → Rv X.K B' z d → Q d → QV z H') → r [v, u] H QV) : SC X r (c2 f) := by
  intro B μ m H xs vs Q QV M rs q k
  cases rs with
  | nil => exact q.elim
  | cons a t =>
    cases t with
    | nil => exact q.elim
    | cons b t =>
      cases t with
      | cons _ _ => exact q.elim
      | nil =>
        obtain ⟨d, td, q⟩ := look_ok M a q
        obtain ⟨e, te, q⟩ := look_ok M b q
        exact h B μ m H _ _ d e Q QV M td te q k
/-! len -/
def lenD : D → (D → Prop) → Prop
  | .lst ds, Q => Q (.int ds.length)
  | .tup ds, Q => Q (.int ds.length)
  | .str x, Q => x.length ≤ sizeLine ∧ Q (.int x.length)
  | .dic ds, Q => Q (.int ds.length)
  | _, _ => False
/-- len of a dict, locked or not -/
theorem call_lenF : CallR X (.builtin "len") (fun xs H Q => ∃ d kvs, xs = [.ref d] ∧ Rd H d (.dK kvs) ∧ Q (.int kvs.length) H) := by
  intro pins s σ H xs us Q I r h
  obtain ⟨d, kvs, rfl, hd, q⟩ := h
  obtain ⟨u, rfl, rx⟩ := vals1 r
  cases rx
  obtain ⟨z, dd, vs, rel, hD⟩ := (show ObjOk X.prog X.w H s.heap d (.dK kvs) from hd.ok I.hok)
  have hl := line63
  have hs : sizeLine = 16777216 := sizeLine_eq
  have rl := rel.length
  refine call_len_dict dd hD (by omega) ?_
  exact ⟨.int _, H, I.tok _, ⟨_, by rw [← rl]⟩, q⟩
theorem c_len : SC X (fun xs H Q => (∃ p ys, xs = [.ref p] ∧ (SqL X.K H p ys ∨ SqT X.K H p ys) ∧ Q (.int ys.length) H) ∨ (∃ z, xs = [.str z] ∧ z.length ≤ sizeLine ∧ Q (.int z.length) H) ∨ (∃ d kvs, xs = [.ref d] ∧ Rd H d (.dK kvs) ∧ Q (.int kvs.length) H)) (c1 lenD) := SC.of1 fun B μ m H v d Q QV M td q k => by
  cases d with
  | lst ds =>
    obtain ⟨p, vs, rfl, hp, r⟩ := td
    exact .inl ⟨p, vs, rfl, .inl (.inl (.inl hp)), SO.pure M k (.int _) (by rw [r.len]; exact q)⟩
  | tup ds =>
    obtain ⟨p, vs, rfl, hp, r⟩ := td
    exact .inl ⟨p, vs, rfl, .inr (M.le.tup hp), SO.pure M k (.int _) (by rw [r.len]; exact q)⟩
  | str x =>
    cases td
    exact .inr (.inl ⟨_, rfl, q.1, SO.pure M k (.int _) q.2⟩)
  | dic ds =>
    obtain ⟨p, vs, rfl, hp, r⟩ := td
    exact .inr (.inr ⟨p, vs, rfl, hp, SO.pure M k (.int _) (by rw [r.len]; exact q)⟩)
  | _ => exact q.elim
theorem cr_len : CallR X (.builtin "len") (fun xs H Q => (∃ p ys, xs = [.ref p] ∧ (SqL X.K H p ys ∨ SqT X.K H p ys) ∧ Q (.int ys.length) H) ∨ (∃ z, xs = [.str z] ∧ z.length ≤ sizeLine ∧ Q (.int z.length) H) ∨ (∃ d kvs, xs = [.ref d] ∧ Rd H d (.dK kvs) ∧ Q (.int kvs.length) H)) := call_len_seq.or (call_len_str.or call_lenF)
theorem d_len (hm : X.mg "len" = none) (ha : DA X E [e] ta) (hg : Gl X "len" := by rfl) (he : starEach [e] X.env = (false, eval e X.env) :: starEach [] X.env := by rfl) (hpl : (backTo pos (starEach [] X.env)).any (·.1) = false := by rfl) : DE X E (.Call (.Name "len" p) [e] [] pos) (tCa (c1 lenD) ta) :=
  d_fn cr_len c_len hm PySem.boot_len ha hg (by decide) (by decide) he hpl
/-! int(x), str(i), abs -/
def intD : D → (D → Prop) → Prop
  | .int i, Q => Q (.int i)
  | .bl b, Q => Q (.int (if b then 1 else 0))
  | .str x, Q => ∃ n, PySem.intText? x = some n ∧ x.length ≤ 640 ∧ Q (.int n)
  | _, _ => False
theorem c_int : SC X (fun xs H Q => ((∃ i, xs = [.int i] ∧ Q (.int i) H) ∨ ∃ k, xs = [.bl k] ∧ Q (.int (if k then 1 else 0)) H) ∨ (∃ a n, xs = [.str a] ∧ PySem.intText? a = some n ∧ a.length ≤ 640 ∧ Q (.int n) H)) (c1 intD) := SC.of1 fun B μ m H v d Q QV M td q k => by
  cases d with
  | int i => cases td; exact .inl (.inl ⟨_, rfl, SO.pure M k (.int _) q⟩)
  | bl i => cases td; exact .inl (.inr ⟨_, rfl, SO.pure M k (.int _) q⟩)
  | str x =>
    cases td
    obtain ⟨n, h1, h2, q⟩ := q
    exact .inr ⟨_, n, rfl, h1, h2, SO.pure M k (.int _) q⟩
  | _ => exact q.elim
theorem d_toInt (hm : X.mg "int" = none) (ha : DA X E [e] ta) (hg : Gl X "int" := by rfl) (he : starEach [e] X.env = (false, eval e X.env) :: starEach [] X.env := by rfl) (hpl : (backTo pos (starEach [] X.env)).any (·.1) = false := by rfl) : DE X E (.Call (.Name "int" p) [e] [] pos) (tCa (c1 intD) ta) :=
  d_tyc (call_int1.or call_int_str) c_int hm (by decide +kernel) ha hg (by decide) (by decide) he hpl
theorem char_lt (c : Char) : c.toNat < 0x110000 := by
  have h := c.valid
  unfold UInt32.isValidChar Nat.isValidChar at h
  show c.val.toNat < 0x110000
  omega
theorem okS_ofString (z : String) : okS (Str.ofString z) = true := by
  rw [Str.ofString_eq_toList]
  refine okS_iff.mpr fun c hc => ?_
  simp only [List.mem_map] at hc
  obtain ⟨d, _, rfl⟩ := hc
  exact char_lt d
theorem okS_int (i : Int) : okS (toString i : Str) = true := okS_ofString _
def strD : D → (D → Prop) → Prop
  | .int i, Q => i.natAbs.log2 < 1920 ∧ Q (.str (toString i))
  | .str x, Q => Q (.str x)
  | _, _ => False
theorem c_str : SC X (fun xs H Q => (∃ i, xs = [.int i] ∧ i.natAbs.log2 < 1920 ∧ Q (.str (toString i)) H) ∨ (∃ a, xs = [.str a] ∧ Q (.str a) H)) (c1 strD) := SC.of1 fun B μ m H v d Q QV M td q k => by
  cases d with
  | int i => cases td; exact .inl ⟨_, rfl, q.1, SO.pure M k (.str (okS_int i)) q.2⟩
  | str i => cases td with
    | str h => exact .inr ⟨_, rfl, SO.pure M k (.str h) q⟩
  | _ => exact q.elim
theorem d_toStr (hm : X.mg "str" = none) (ha : DA X E [e] ta) (hg : Gl X "str" := by rfl) (he : starEach [e] X.env = (false, eval e X.env) :: starEach [] X.env := by rfl) (hpl : (backTo pos (starEach [] X.env)).any (·.1) = false := by rfl) : DE X E (.Call (.Name "str" p) [e] [] pos) (tCa (c1 strD) ta) :=
  d_tyc (call_str_int.or SkE.call_str_str) c_str hm (by decide +kernel) ha hg (by decide) (by decide) he hpl
def absD : D → (D → Prop) → Prop
  | .int i, Q => Q (.int (i.natAbs : Nat))
  | _, _ => False
theorem d_abs (hm : X.mg "abs" = none) (ha : DA X E [e] ta) (hg : Gl X "abs" := by rfl) (he : starEach [e] X.env = (false, eval e X.env) :: starEach [] X.env := by rfl) (hpl : (backTo pos (starEach [] X.env)).any (·.1) = false := by rfl) : DE X E (.Call (.Name "abs" p) [e] [] pos) (tCa (c1 absD) ta) :=
  d_fn call_abs (SC.of1 fun B μ m H v d Q QV M td q k => by
    cases d with
    | int i =>
      cases td
      have e : (if i < 0 then -i else i) = ((i.natAbs : Nat) : Int) := by split <;> omega
      exact ⟨_, rfl, by rw [e]; exact SO.pure M k (.int _) q⟩
    | _ => exact q.elim) hm (by decide +kernel) ha hg (by decide) (by decide) he hpl
/-! list(x), tuple(x) -/
def toLst : D → (D → Prop) → Prop
  | .lst ds, Q => Q (.lst ds)
  | .tup ds, Q => Q (.lst ds)
  | _, _ => False
theorem d_list (hm : X.mg "list" = none) (ha : DA X E [e] ta) (hg : Gl X "list" := by rfl) (he : starEach [e] X.env = (false, eval e X.env) :: starEach [] X.env := by rfl) (hpl : (backTo pos (starEach [] X.env)).any (·.1) = false := by rfl) : DE X E (.Call (.Name "list" p) [e] [] pos) (tCa (c1 toLst) ta) :=
  d_tyc call_list_of (SC.of1 fun B μ m H v d Q QV M td q k => by
    cases d with
    | lst ds =>
      obtain ⟨p, vs, rfl, hp, r⟩ := td
      exact ⟨p, vs, rfl, .inl (.inl (.inl hp)), fun l nl => SO.new M k nl (new_lst M nl r) q⟩
    | tup ds =>
      obtain ⟨p, vs, rfl, hp, r⟩ := td
      exact ⟨p, vs, rfl, .inr (M.le.tup hp), fun l nl => SO.new M k nl (new_lst M nl r) q⟩
    | _ => exact q.elim) hm (by decide +kernel) ha hg (by decide) (by decide) he hpl
def toTup : D → (D → Prop) → Prop
  | .lst ds, Q => Q (.tup ds)
  | .tup ds, Q => Q (.tup ds)
  | _, _ => False
theorem d_tuple (hm : X.mg "tuple" = none) (ha : DA X E [e] ta) (hg : Gl X "tuple" := by rfl) (he : starEach [e] X.env = (false, eval e X.env) :: starEach [] X.env := by rfl) (hpl : (backTo pos (starEach [] X.env)).any (·.1) = false := by rfl) : DE X E (.Call (.Name "tuple" p) [e] [] pos) (tCa (c1 toTup) ta) :=
  d_tyc call_tuple_of (SC.of1 fun B μ m H v d Q QV M td q k => by
    cases d with
    | lst ds =>
      obtain ⟨p, vs, rfl, hp, r⟩ := td
      exact ⟨p, vs, rfl, .inl ⟨.inl (.inl hp), fun l nl => SO.new M k nl (new_tup M nl r) q⟩⟩
    | tup ds =>
      obtain ⟨p, vs, rfl, hp, r⟩ := td
      exact ⟨p, vs, rfl, .inr ⟨M.le.tup hp, SO.pure M k (.tup hp r) q⟩⟩
    | _ => exact q.elim) hm (by decide +kernel) ha hg (by decide) (by decide) he hpl
/-! all, any, sum -/
def bools : List D → (List Bool → Prop) → Prop
  | [], Q => Q []
  | .bl b :: r, Q => bools r fun bs => Q (b :: bs)
  | _ :: _, _ => False
theorem bools_ok {K : Frag} {B : Hp} : ∀ {ds : List D} {vs : List V} {Q : List Bool → Prop}, RvL K B vs ds → bools ds Q → ∃ bs, vs = bs.map V.bl ∧ Q bs
  | [], _, _, .nil, q => ⟨[], rfl, q⟩
  | .bl b :: r, _, Q, .cons a t, q => by
    cases a
    obtain ⟨bs, rfl, k⟩ := bools_ok (Q := fun bs => Q (b :: bs)) t q
    exact ⟨b :: bs, rfl, k⟩
  | .non :: _, _, _, _, q => q.elim
  | .int _ :: _, _, _, _, q => q.elim
  | .str _ :: _, _, _, _, q => q.elim
  | .ty _ :: _, _, _, _, q => q.elim
  | .fn _ :: _, _, _, _, q => q.elim
  | .tup _ :: _, _, _, _, q => q.elim
  | .lst _ :: _, _, _, _, q => q.elim
  | .dic _ :: _, _, _, _, q => q.elim
  | .obj _ _ :: _, _, _, _, q => q.elim
  | .exc _ _ :: _, _, _, _, q => q.elim
def blL (f : List Bool → Bool) : D → (D → Prop) → Prop
  | .lst ds, Q => bools ds fun bs => Q (.bl (f bs))
  | _, _ => False
theorem d_all (hc : X.calm = true) (hm : X.mg "all" = none) (ha : DA X E [e] ta) (hg : Gl X "all" := by rfl) (he : starEach [e] X.env = (false, eval e X.env) :: starEach [] X.env := by rfl) (hpl : (backTo pos (starEach [] X.env)).any (·.1) = false := by rfl) : DE X E (.Call (.Name "all" p) [e] [] pos) (tCa (c1 (blL fun bs => bs.all id)) ta) :=
  d_fn (cr_all hc) (SC.of1 fun B μ m H v d Q QV M td q k => by
    cases d with
    | lst ds =>
      obtain ⟨p, vs, rfl, hp, r⟩ := td
      obtain ⟨bs, rfl, q⟩ := bools_ok r q
      exact ⟨p, bs, rfl, .inl (.inl hp), SO.pure M k (.bl _) q⟩
    | _ => exact q.elim) hm (by decide +kernel) ha hg (by decide) (by decide) he hpl
theorem d_any (hc : X.calm = true) (hm : X.mg "any" = none) (ha : DA X E [e] ta) (hg : Gl X "any" := by rfl) (he : starEach [e] X.env = (false, eval e X.env) :: starEach [] X.env := by rfl) (hpl : (backTo pos (starEach [] X.env)).any (·.1) = false := by rfl) : DE X E (.Call (.Name "any" p) [e] [] pos) (tCa (c1 (blL fun bs => bs.any id)) ta) :=
  d_fn (cr_any hc) (SC.of1 fun B μ m H v d Q QV M td q k => by
    cases d with
    | lst ds =>
      obtain ⟨p, vs, rfl, hp, r⟩ := td
      obtain ⟨bs, rfl, q⟩ := bools_ok r q
      exact ⟨p, bs, rfl, .inl (.inl hp), SO.pure M k (.bl _) q⟩
    | _ => exact q.elim) hm (by decide +kernel) ha hg (by decide) (by decide) he hpl
end
end Fs
set_option Elab.async false
set_option linter.all false
set_option maxRecDepth 100000
set_option maxHeartbeats 8000000
namespace Fs
open PySem PySem.Spec PyProof.Rows L2
section
variable {X : Cx} {E : XK} {tg : Expr}
/-! ### iterables -/
def chD (x : Str) : List D := x.cps.toList.map fun c => .str ⟨#[c]⟩
theorem walkD_fn {K : Frag} {B0 : Hp} {J : It} {its : List D} {f : Nat → V} (w : Walk J its.length (fun _ => True) (YFn f)) (h : ∀ (i : Nat) (d : D), its[i]? = some d → Rv K B0 (f i) d) : WalkD K B0 J its :=
  ⟨_, _, w, fun _ _ _ _ _ _ => True.intro, fun i B μ mem H x H' hi s M ⟨y1, y2⟩ => by
    subst y1 y2
    exact ⟨B, its[i], List.getElem?_eq_getElem hi, .refl, M, (h i _ (List.getElem?_eq_getElem hi)).to s⟩⟩
theorem walkD_lst {K : Frag} {B0 : Hp} {a : Addr} {vs : List V} {ds : List D} (h : B0 a = some (.lst vs)) (r : RvL K B0 vs ds) : WalkD K B0 (Itl K a) ds := by
  refine ⟨fun H => SqL K H a vs, YAt vs, by rw [← r.len]; exact walk_list, fun B μ mem H s M => .inl (.inl (M.le _ _ (s _ _ h))), fun i B μ mem H x H' hi s M ⟨y1, y2⟩ => ?_⟩
  subst y1
  obtain ⟨d, hd, rd⟩ := r.at' y2
  exact ⟨B, d, hd, .refl, M, rd.to s⟩
theorem walkD_tup {K : Frag} {B0 : Hp} {a : Addr} {vs : List V} {ds : List D} (h : TqT K B0 a vs) (r : RvL K B0 vs ds) : WalkD K B0 (Itt K a) ds := by
  refine ⟨fun H => SqT K H a vs, YAt vs, by rw [← r.len]; exact walk_tup, fun B μ mem H s M => M.le.tup (TqT.to s h), fun i B μ mem H x H' hi s M ⟨y1, y2⟩ => ?_⟩
  subst y1
  obtain ⟨d, hd, rd⟩ := r.at' y2
  exact ⟨B, d, hd, .refl, M, rd.to s⟩
theorem walkD_str {K : Frag} {B0 : Hp} {x : Str} (h : okS x = true) : WalkD K B0 (Its x) (chD x) := by
  refine ⟨fun _ => True, fun i H v H' => H' = H ∧ ∃ c, x.cps[i]? = some c ∧ v = .str ⟨#[c]⟩, by unfold chD; rw [List.length_map, Array.length_toList]; exact walk_str, fun _ _ _ _ _ _ => True.intro, fun i B μ mem H y H' hi s M ⟨y1, c, hc, y2⟩ => ?_⟩
  subst y1 y2
  rw [← Array.getElem?_toList] at hc
  refine ⟨B, .str ⟨#[c]⟩, ?_, .refl, M, .str (okS_iff.mpr fun c' hc' => ?_)⟩
  · unfold chD
    rw [List.getElem?_map, hc]
    rfl
  · have e : c' = c := by simpa using hc'
    rw [e]
    exact okS_iff.mp h _ (List.mem_of_getElem? hc)
/-- a key as a datum -/
def kD : Key → D
  | .inl i => .int i
  | .inr x => .str x
/-- by what is walked, whatever it is -/
def iAny (K : Frag) (te : TE) : TI := fun σ H R => te σ H fun x H1 => (∃ a xs, x = .ref a ∧ SqL K H1 a xs ∧ R (Itl K a) H1) ∨ (∃ a xs, x = .ref a ∧ SqT K H1 a xs ∧ R (Itt K a) H1) ∨ (∃ z, x = .str z ∧ R (Its z) H1) ∨
  ∃ d o kvs, x = .ref d ∧ H1 d = some (.frz o (.dK kvs)) ∧ R (Itk d o kvs) H1
theorem pi_any {e : Expr} {te : TE} (he : PE X e te) : PI X tg e (iAny X.K te) := by
  refine ⟨fun pins s σ H R I h => ?_⟩
  refine thn (he.run pins s σ H _ I h) fun v s1 ⟨x, H1, I1, r1, q1⟩ => ?_
  rcases q1 with ⟨a, xs, rfl, hq, q⟩ | ⟨a, xs, rfl, hq, q⟩ | ⟨z, rfl, q⟩ | ⟨d, o, kvs, rfl, hd, q⟩
  · cases r1
    obtain ⟨its, rv, p, hz⟩ := I1.list hq
    exact wpAny_pyIter_list p.isList (pi_one (tk := s1.toks) I1 _ (turn_list a _) ⟨_, Heap.get?_push_size _ rfl, rfl, rfl⟩ q)
  · cases r1
    obtain ⟨its, rv, p, hz⟩ := I1.tuple hq
    exact wpAny_pyIter_tuple (show s1.heap.IsTuple a its.toArray from p) (pi_one (tk := s1.toks) I1 _ (turn_tuple a _) ⟨_, Heap.get?_push_size _ rfl, rfl, rfl⟩ q)
  · obtain ⟨t, rfl⟩ := r1
    cases ha : z.cps.all (· < 128)
    · exact wpAny_pyIter_wide ha (pi_one (tk := s1.toks) I1 _ (turn_str _ z t "str_iterator" (.inr rfl)) ⟨_, Heap.get?_push_size _ rfl, rfl, rfl⟩ q)
    · exact wpAny_pyIter_ascii ha (pi_one (tk := s1.toks) I1 _ (turn_str _ z t "str_ascii_iterator" (.inl rfl)) ⟨_, Heap.get?_push_size _ rfl, rfl, rfl⟩ q)
  · cases r1
    obtain ⟨hs, hgd, hx, es, ep, vs, hdt, hsz, kv, hm⟩ := I1.frzK hd
    refine iter_keys hs hgd hx hdt (pi_one (tk := s1.toks) I1 _ (turn_keys _ hdt) ⟨_, Heap.get?_push_size _ rfl, rfl, ?_⟩ q)
    rw [hsz] <;> rfl
def iterD : D → (List D → Prop) → Prop
  | .lst ds, Q => Q ds
  | .tup ds, Q => Q ds
  | .str x, Q => Q (chD x)
  | .dic kvs, Q => Q (kvs.map fun p => kD p.1)
  | _, _ => False
/-- an own list is walked as a datum alone -/
def tIt (te : DTE) : DTI := fun en m Q Qx => te en m (fun x m1 => oD x fun d => iterD d fun its => Q its m1) Qx
theorem kD_rv {K : Frag} {B : Hp} {k : Key} (h : KeyOk k) : Rv K B (kV k) (kD k) := by
  cases k with
  | inl i => exact .int i
  | inr x => exact .str h
theorem RvK.at' {K : Frag} {H : Hp} : ∀ {vs : List (Key × V)} {ds : List (Key × D)} {i : Nat} {k : Key} {v : V}, RvK K H vs ds → vs[i]? = some (k, v) → ∃ d, ds[i]? = some (k, d) ∧ Rv K H v d ∧ KeyOk k
  | _, _, _, _, _, .nil, e => by simp at e
  | _, _, 0, k, v, .cons (d := d) ko h _, e => by
    simp at e
    obtain ⟨rfl, rfl⟩ := e
    exact ⟨d, rfl, h, ko⟩
  | _, _, i + 1, k, v, .cons _ _ t, e => by
    obtain ⟨d, h1, h2⟩ := RvK.at' (i := i) (k := k) (v := v) t (by simpa using e)
    exact ⟨d, by simpa using h1, h2⟩
theorem walkD_keys {K : Frag} {B0 : Hp} {d : Addr} {o : Obj} {vs : List (Key × V)} {ds : List (Key × D)} (h : B0 d = some (.frz o (.dK vs))) (r : RvK K B0 vs ds) : WalkD K B0 (Itk d o vs) (ds.map fun p => kD p.1) := by
  refine ⟨fun H => H d = some (.frz o (.dK vs)), fun i H x H' => H' = H ∧ ∃ k v, vs[i]? = some (k, v) ∧ x = kV k, by rw [List.length_map, ← r.len]; exact walk_keys, fun B μ mem H s M => M.le _ _ (s _ _ h), fun i B μ mem H x H' hi s M ⟨y1, k, v, y2, y3⟩ => ?_⟩
  subst y1 y3
  obtain ⟨dd, hd, _, ko⟩ := r.at' y2
  exact ⟨B, kD k, by rw [List.getElem?_map, hd]; rfl, .refl, M, kD_rv ko⟩
theorem di_seq {e : Expr} {te : DTE} (he : DE X E e te) : DI X E tg e (tIt te) := by
  obtain ⟨t1, p1, k1⟩ := he.ex
  refine ⟨_, pi_any p1, fun B μ en m σ H Q Qx QV R hx T k => ?_⟩
  refine k1 B μ en m σ H _ Qx _ R hx T fun B1 μ1 m1 H1 x v s1 R1 r q => ?_
  cases x with
  | loc n => exact q.elim
  | v d =>
    cases r with
    | lst h rl => exact .inl ⟨_, _, rfl, .inl (.inl (R1.mem.le _ _ h)), k B1 μ1 m1 H1 _ _ s1 R1 (walkD_lst h rl) q⟩
    | tup h rl => exact .inr (.inl ⟨_, _, rfl, R1.mem.le.tup h, k B1 μ1 m1 H1 _ _ s1 R1 (walkD_tup h rl) q⟩)
    | str h => exact .inr (.inr (.inl ⟨_, rfl, k B1 μ1 m1 H1 _ _ s1 R1 (walkD_str h) q⟩))
    | dic h rl => exact .inr (.inr (.inr ⟨_, _, _, rfl, R1.mem.le _ _ h, k B1 μ1 m1 H1 _ _ s1 R1 (walkD_keys h rl) q⟩))
    | non => exact q.elim
    | bl _ => exact q.elim
    | int _ => exact q.elim
    | ty _ => exact q.elim
    | fn _ => exact q.elim
    | obj _ _ => exact q.elim
    | exc _ _ _ => exact q.elim
/-! range -/
def rngD (lo : Int) (n : Nat) : List D := (List.range n).map fun i => .int (lo + (i : Nat))
theorem walkD_range {K : Frag} {B0 : Hp} {lo : Int} {n : Nat} : WalkD K B0 (Itr lo n) (rngD lo n) := by
  refine walkD_fn (f := fun i => .int (lo + i)) (by unfold rngD; rw [List.length_map, List.length_range]; exact walk_range) fun i d h => ?_
  unfold rngD at h
  rw [List.getElem?_map] at h
  cases q : (List.range n)[i]? with
  | none => rw [q] at h; cases h
  | some j =>
    rw [q] at h
    have e : i = j := by
      have z := List.getElem?_range (n := n) (i := i) (by
        have := (List.getElem?_eq_some_iff.mp q).1
        simpa using this)
      rw [z] at q
      exact Option.some.inj q
    subst e
    cases h
    exact .int _
def rng1 : List W → (List D → Prop) → Prop
  | [.v (.int j)], Q => -(2 ^ 62) ≤ j ∧ j < 2 ^ 62 ∧ Q (rngD 0 j.toNat)
  | _, _ => False
def rng2 : List W → (List D → Prop) → Prop
  | [.v (.int i), .v (.int j)], Q => (-(2 ^ 62) ≤ i ∧ i < 2 ^ 62 ∧ -(2 ^ 62) ≤ j ∧ j < 2 ^ 62) ∧ Q (rngD i (j - i).toNat)
  | _, _ => False
def tRg (f : List W → (List D → Prop) → Prop) (ta : DTA) : DTI := fun en m Q Qx => ta en m (fun xs m1 => f xs fun its => Q its m1) Qx
theorem di_range1 {a : Expr} {ta : DTA} {p pos : Pos} (hm : X.mg "range" = none) (ha : DA X E [a] ta) (hg : Gl X "range" := by rfl) (hs : starEach [a] X.env = [(false, eval a X.env)] := by rfl) : DI X E tg (.Call (.Name "range" p) [a] [] pos) (tRg rng1 ta) := by
  obtain ⟨t1, p1, k1⟩ := ha.ex
  refine ⟨_, pi_range1 hg hm p1 hs, fun B μ en m σ H Q Qx QV R hx T k => ?_⟩
  refine k1 B μ en m σ H _ Qx _ R hx T fun B1 μ1 m1 H1 xs vs s1 R1 r q => ?_
  unfold rng1 at q
  split at q
  · cases r with
    | cons a t =>
      cases t
      cases a
      exact ⟨_, rfl, q.1, q.2.1, k B1 μ1 m1 H1 _ _ s1 R1 walkD_range q.2.2⟩
  · exact q.elim
theorem di_range2 {a b : Expr} {ta : DTA} {p pos : Pos} (hm : X.mg "range" = none) (ha : DA X E [a, b] ta) (hg : Gl X "range" := by rfl) (hs : starEach [a, b] X.env = [(false, eval a X.env), (false, eval b X.env)] := by rfl) (hs2 : starEach [b] X.env = [(false, eval b X.env)] := by rfl) : DI X E tg (.Call (.Name "range" p) [a, b] [] pos) (tRg rng2 ta) := by
  obtain ⟨t1, p1, k1⟩ := ha.ex
  refine ⟨_, pi_range2 hg hm p1 hs hs2, fun B μ en m σ H Q Qx QV R hx T k => ?_⟩
  refine k1 B μ en m σ H _ Qx _ R hx T fun B1 μ1 m1 H1 xs vs s1 R1 r q => ?_
  unfold rng2 at q
  split at q
  · cases r with
    | cons a t =>
      cases t with
      | cons b t =>
        cases t
        cases a
        cases b
        exact ⟨_, _, rfl, q.1, k B1 μ1 m1 H1 _ _ s1 R1 walkD_range q.2⟩
  · exact q.elim
/-! enumerate(list), zip(list, list) -/
theorem walkD_pair {K : Frag} {B0 : Hp} {J : It} {its : List D} {G : Hp → Prop} {f g : Nat → Option V} {n : Nat} (hn : n = its.length) (w : Walk J n G (YPair f g)) (hG : ∀ B μ mem H, Same B0 B → MemOk K B μ mem H → G H)
    (h : ∀ (i : Nat) x y, i < its.length → f i = some x → g i = some y → ∃ d e, its[i]? = some (.tup [d, e]) ∧ Rv K B0 x d ∧ Rv K B0 y e) : WalkD K B0 J its := by
  subst hn
  refine ⟨G, _, w, hG, fun i B μ mem H x H' hi s M ⟨T, a, b, e1, nT, e2, e3, e4⟩ => ?_⟩
  subst e1 e2
  obtain ⟨d, e, h1, h2, h3⟩ := h i a b hi e3 e4
  have st := Stp.laid M nT (o := .tup [a, b])
  exact ⟨_, .tup [d, e], h1, st, M.laid nT, .tup (.inl upd_same) (.cons (h2.to (s.trans st.same)) (.cons (h3.to (s.trans st.same)) .nil))⟩
def enumD : Nat → List D → List D
  | _, [] => []
  | i, d :: ds => .tup [.int i, d] :: enumD (i + 1) ds
theorem enumD_len : ∀ (i : Nat) (ds : List D), (enumD i ds).length = ds.length
  | _, [] => rfl
  | i, _ :: ds => congrArg Nat.succ (enumD_len (i + 1) ds)
theorem enumD_at : ∀ (i k : Nat) (ds : List D) (d : D), ds[k]? = some d → (enumD i ds)[k]? = some (.tup [.int ((i + k : Nat) : Int), d])
  | _, _, [], _, h => by simp at h
  | i, 0, d :: ds, e, h => by
    simp at h
    subst h
    rfl
  | i, k + 1, d :: ds, e, h => by
    have z := enumD_at (i + 1) k ds e (by simpa using h)
    show (enumD (i + 1) ds)[k]? = _
    rw [z]
    congr 4
    omega
def enuW : List W → (List D → Prop) → Prop
  | [.v (.lst ds)], Q => Q (enumD 0 ds)
  | _, _ => False
theorem di_enum {e : Expr} {ta : DTA} {elts : List Expr} {kk : Nat} {tpos p pos : Pos} (hm : X.mg "enumerate" = none) (ha : DA X E [e] ta) (hg : Gl X "enumerate" := by rfl) (hs : starEach [e] X.env = [(false, eval e X.env)] := by rfl) : DI X E (.Tuple elts kk tpos) (.Call (.Name "enumerate" p) [e] [] pos) (tRg enuW ta) := by
  obtain ⟨t1, p1, k1⟩ := ha.ex
  refine ⟨_, pi_enum hg hm p1 hs, fun B μ en m σ H Q Qx QV R hx T k => ?_⟩
  refine k1 B μ en m σ H _ Qx _ R hx T fun B1 μ1 m1 H1 xs vs s1 R1 r q => ?_
  unfold enuW at q
  split at q
  · rename_i ds
    cases r with
    | cons a t =>
      cases t
      cases (show Rv X.K B1 _ (.lst _) from a) with
      | lst h rl =>
        refine ⟨_, _, rfl, .inl (.inl (R1.mem.le _ _ h)), k B1 μ1 m1 H1 _ _ s1 R1 ?_ q⟩
        refine walkD_pair (by rw [enumD_len, ← rl.len]) walk_enum (fun B μ mem H s M => .inl (.inl (M.le _ _ (s _ _ h)))) fun i x y hi e1 e2 => ?_
        cases e1
        obtain ⟨d, hd, rd⟩ := rl.at' e2
        exact ⟨.int ((i : Nat) : Int), d, by rw [enumD_at 0 i _ d hd, Nat.zero_add], .int _, rd⟩
  · exact q.elim
def zipD : List D → List D → List D
  | a :: as, b :: bs => .tup [a, b] :: zipD as bs
  | _, _ => []
theorem zipD_len : ∀ (as bs : List D), (zipD as bs).length = min as.length bs.length
  | [], _ => by simp [zipD]
  | _ :: _, [] => by simp [zipD]
  | _ :: as, _ :: bs => by simp [zipD, zipD_len as bs]
theorem zipD_at : ∀ (k : Nat) (as bs : List D) (a b : D), as[k]? = some a → bs[k]? = some b → (zipD as bs)[k]? = some (.tup [a, b])
  | _, [], _, _, _, h, _ => by simp at h
  | _, _ :: _, [], _, _, _, h => by simp at h
  | 0, a :: as, b :: bs, x, y, h, h' => by
    simp at h h'
    subst h h'
    rfl
  | k + 1, _ :: as, _ :: bs, a, b, h, h' => by
    show (zipD as bs)[k]? = _
    exact zipD_at k as bs a b (by simpa using h) (by simpa using h')
def zipW : List W → (List D → Prop) → Prop
  | [.v (.lst as), .v (.lst bs)], Q => Q (zipD as bs)
  | _, _ => False
theorem di_zip {e e2 : Expr} {ta : DTA} {elts : List Expr} {kk : Nat} {tpos p pos : Pos} (hm : X.mg "zip" = none) (ha : DA X E [e, e2] ta) (hg : Gl X "zip" := by rfl) (hs : starEach [e, e2] X.env = (false, eval e X.env) :: starEach [e2] X.env := by rfl) (hpl : (backTo pos (starEach [e2] X.env)).any (·.1) = false := by rfl) : DI X E (.Tuple elts kk tpos) (.Call (.Name "zip" p) [e, e2] [] pos) (tRg zipW ta) := by
  obtain ⟨t1, p1, k1⟩ := ha.ex
  refine ⟨_, pi_zip hg hm p1 hs hpl, fun B μ en m σ H Q Qx QV R hx T k => ?_⟩
  refine k1 B μ en m σ H _ Qx _ R hx T fun B1 μ1 m1 H1 xs vs s1 R1 r q => ?_
  unfold zipW at q
  split at q
  · cases r with
    | cons a t =>
      cases t with
      | cons b t =>
        cases t
        cases (show Rv X.K B1 _ (.lst _) from a) with
        | lst h rl =>
          cases (show Rv X.K B1 _ (.lst _) from b) with
          | lst h2 rl2 =>
            refine ⟨_, _, _, _, rfl, .inl (.inl (R1.mem.le _ _ h)), .inl (.inl (R1.mem.le _ _ h2)), k B1 μ1 m1 H1 _ _ s1 R1 ?_ q⟩
            refine walkD_pair (by rw [zipD_len, ← rl.len, ← rl2.len]) (walk_zip rfl) (fun B μ mem H s M => ⟨.inl (.inl (M.le _ _ (s _ _ h))), .inl (.inl (M.le _ _ (s _ _ h2)))⟩) fun i x y hi e1 e2 => ?_
            obtain ⟨d, hd, rd⟩ := rl.at' e1
            obtain ⟨e, he, re⟩ := rl2.at' e2
            exact ⟨d, e, zipD_at i _ _ d e hd he, rd, re⟩
  · exact q.elim
/-! ### methods of texts -/
def isSt : W → Me → Prop
  | .v (.str _), _ => True
  | _, _ => False
theorem isSt_ok : STy X "str" isSt := by
  intro B μ m H x v M r q
  unfold isSt at q
  split at q
  · cases (show Rv X.K B v (.str _) from r)
    rfl
  · exact q.elim
/-- of a text and one argument -/
def m1 (f : Str → D → (D → Prop) → Prop) : DMt := fun x xs m Q => match x, xs with
  | .v (.str a), [y] => look y m fun d => f a d fun r => Q r m
  | _, _ => False
theorem SM.of1 {r : V → List V → Hp → VK → Prop} {f : Str → D → (D → Prop) → Prop} (h : ∀ B μ m H a v d (Q : D → Prop) (QV : VK), MemOk X.K B μ m H → okS a = true → Top X.K B H v d → f a d Q →
    (∀ B' H' d z, Stp B μ m H B' μ m H' → MemOk X.K B' μ m H' → Rv X.K B' z d → Q d → QV z H') → r (.str a) [v] H QV) : SM X r (m1 f) := by
  intro B μ m H x xs v vs Q QV M rx rs q k
  unfold m1 at q
  split at q
  · cases (show Rv X.K B v (.str _) from rx) with
    | str ho =>
      cases rs with
      | cons a t =>
        cases t
        obtain ⟨d, td, q⟩ := look_ok M a q
        exact h B μ m H _ _ d (fun r => Q r m) QV M ho td q fun B' H' d z s M' rz q' => k B' m H' d z s M' rz q'
  · exact q.elim
def texts : List D → (List Str → Prop) → Prop
  | [], Q => Q []
  | .str b :: r, Q => texts r fun bs => Q (b :: bs)
  | _ :: _, _ => False
theorem texts_ok {K : Frag} {B : Hp} : ∀ {ds : List D} {vs : List V} {Q : List Str → Prop}, RvL K B vs ds → texts ds Q → ∃ bs, vs = bs.map V.str ∧ (∀ b ∈ bs, okS b = true) ∧ Q bs
  | [], _, _, .nil, q => ⟨[], rfl, by simp, q⟩
  | .str b :: r, _, Q, .cons a t, q => by
    cases a with
    | str hb =>
      obtain ⟨bs, rfl, ho, k⟩ := texts_ok (Q := fun bs => Q (b :: bs)) t q
      exact ⟨b :: bs, rfl, by simp [hb, ho]; exact ho, k⟩
  | .non :: _, _, _, _, q => q.elim
  | .int _ :: _, _, _, _, q => q.elim
  | .bl _ :: _, _, _, _, q => q.elim
  | .ty _ :: _, _, _, _, q => q.elim
  | .fn _ :: _, _, _, _, q => q.elim
  | .tup _ :: _, _, _, _, q => q.elim
  | .lst _ :: _, _, _, _, q => q.elim
  | .dic _ :: _, _, _, _, q => q.elim
  | .obj _ _ :: _, _, _, _, q => q.elim
  | .exc _ _ :: _, _, _, _, q => q.elim
theorem jfold_cps : ∀ (sep : Str) (rest : List Str) (acc : Array Nat), (rest.foldl (fun acc p => acc ++ sep.cps ++ p.cps) acc).toList = acc.toList ++ rest.flatMap (fun p => sep.cps.toList ++ p.cps.toList)
  | _, [], acc => by simp
  | sep, p :: rest, acc => by
    rw [List.foldl_cons, jfold_cps sep rest]
    simp
theorem okS_join {sep : Str} (h : okS sep = true) : ∀ {zs : List Str}, (∀ z ∈ zs, okS z = true) → okS (Txt.join sep zs) = true
  | [], _ => okS_iff.mpr fun c hc => by
    have hc : c ∈ (#[] : Array Nat).toList := hc
    simp at hc
  | x :: rest, k => by
    refine okS_iff.mpr fun c hc => ?_
    have e : Txt.join sep (x :: rest) = (⟨rest.foldl (fun acc p => acc ++ sep.cps ++ p.cps) x.cps⟩ : Str) := rfl
    rw [e] at hc
    have hc : c ∈ (rest.foldl (fun acc p => acc ++ sep.cps ++ p.cps) x.cps).toList := hc
    rw [jfold_cps] at hc
    rcases List.mem_append.mp hc with hc | hc
    · exact okS_iff.mp (k x List.mem_cons_self) c hc
    · obtain ⟨p, hp, hc⟩ := List.mem_flatMap.mp hc
      rcases List.mem_append.mp hc with hc | hc
      · exact okS_iff.mp h c hc
      · exact okS_iff.mp (k p (List.mem_cons_of_mem _ hp)) c hc
def joinF : Str → D → (D → Prop) → Prop
  | a, .lst ds, Q => texts ds fun ys => (ys.map (·.length)).sum + ys.length * a.length ≤ 16777216 ∧ Q (.str (Txt.join a ys))
  | _, _, _ => False
theorem d_join {o e : Expr} {to : DTE} {ta : DTA} {apos cpos : Pos} (ho : DE X E o to) (ha : DA X E [e] ta)
    (hbase : attributeBase o "join" X.env (eval o X.env) = eval o X.env := by rfl)
    (hfew : ((backTo cpos (starEach [e] X.env)).all (fun x => !x.1) && (backToKw cpos (keywordEach [] X.env)).all (fun x => x.1.isSome)
      && decide ([e].length + ([] : List Keyword).length + (if ([] : List Keyword).isEmpty then 0 else 1) < 30)) = true := by rfl)
    (hline : (apos.endLine == cpos.line) = true := by rfl) (hs : starEach [e] X.env = (false, eval e X.env) :: starEach [] X.env := by rfl) (hplain : (backTo cpos (starEach [] X.env)).any (·.1) = false := by rfl) :
    DE X E (.Call (.Attribute o "join" apos) [e] [] cpos) (tMe isSt (m1 joinF) to ta) :=
  d_bm PySem.F.plainAttrs_str PySem.F.slot_str_join PySem.F.type_str_join mt_join (SM.of1 fun B μ m H a v d Q QV M ha td q k => by
    cases d with
    | lst ds =>
      obtain ⟨p, vs, rfl, hp, r⟩ := td
      obtain ⟨bs, rfl, ho, q1, q⟩ := texts_ok r q
      exact ⟨a, p, bs, rfl, rfl, .inl (.inl (.inl hp)), q1, SO.pure M k (.str (okS_join ha ho)) q⟩
    | _ => exact q.elim) isSt_ok ho ha hbase hfew hline hs hplain
/-! ### f-strings -/
inductive DJ (X : Cx) (E : XK) : List Expr → List DTE → Prop where
  | nil : DJ X E [] []
  | cons {e : Expr} {t : DTE} {es : List Expr} {ts : List DTE} (h : DE X E e t) (r : DJ X E es ts) : DJ X E (e :: es) (t :: ts)
def sD : W → (Str → Prop) → Prop
  | .v (.str x), Q => Q x
  | _, _ => False
theorem sD_ok {K : Frag} {B : Hp} {μ : List Addr} {v : V} {x : W} {Q : Str → Prop} (r : RW K B μ v x) (q : sD x Q) : ∃ z, v = .str z ∧ okS z = true ∧ Q z := by
  unfold sD at q
  split at q
  · cases (show Rv K B v (.str _) from r) with
    | str h => exact ⟨_, rfl, h, q⟩
  · exact q.elim
/-- the texts one behind the other -/
def tJo : List DTE → Str → En → Me → (Str → Me → Prop) → QX → Prop
  | [], acc, _, m, Q, _ => Q acc m
  | t :: ts, acc, en, m, Q, Qx => t en m (fun x m1 => sD x fun y => (acc ++ y).length ≤ sizeLine ∧ tJo ts (acc ++ y) en m1 Q Qx) Qx
theorem DJ.pj {es : List Expr} {ts : List DTE} (h : DJ X E es ts) : ∃ us, PJ X es us ∧ ∀ (acc : Str) B μ en m σ H (Q : Str → Me → Prop) (Qx : QX) (QV : Str → Hp → Prop), okS acc = true → Rel X.K B μ en m σ H → ExOf X.K E B μ m H Qx → tJo ts acc en m Q Qx →
    (∀ B' μ' m' H' z, okS z = true → Stp B μ m H B' μ' m' H' → Rel X.K B' μ' en m' σ H' → Q z m' → QV z H') → tJs us acc σ H QV := by
  induction h with
  | nil => exact ⟨[], .nil, fun acc B μ en m σ H Q Qx QV ho R hx T k => k B μ m H acc ho .refl R T⟩
  | cons h r ih =>
    obtain ⟨t1, p1, k1⟩ := h.ex
    obtain ⟨us, p2, k2⟩ := ih
    refine ⟨t1 :: us, .cons p1 p2, fun acc B μ en m σ H Q Qx QV ho R hx T k => ?_⟩
    refine k1 B μ en m σ H _ Qx _ R hx T fun B1 μ1 m1 H1 x v s1 R1 r q => ?_
    obtain ⟨z, rfl, hz, q1, q⟩ := sD_ok r q
    refine ⟨z, rfl, q1, k2 _ B1 μ1 en m1 σ H1 _ Qx _ (okS_app ho hz) R1 (hx.step s1 R1.mem R.mem.le) q fun B2 μ2 m2 H2 z2 h2 s2 R2 q2 => ?_⟩
    exact k B2 μ2 m2 H2 z2 h2 (s1.trans R1.mem s2 R.mem.le) R2 q2
def tJoin (ts : List DTE) : DTE := fun en m Q Qx => tJo ts Str.empty en m (fun z m1 => Q (.v (.str z)) m1) Qx
theorem okS_empty : okS Str.empty = true := okS_iff.mpr fun c hc => by
  have hc : c ∈ (#[] : Array Nat).toList := hc
  simp at hc
theorem d_joined {v1 v2 : Expr} {rest : List Expr} {ts : List DTE} {pos : Pos} (h : DJ X E (v1 :: v2 :: rest) ts) : DE X E (.JoinedStr (v1 :: v2 :: rest) pos) (tJoin ts) := by
  obtain ⟨us, p, k⟩ := h.pj
  refine ⟨_, pe_joined p, fun B μ en m σ H Q Qx QV R hx T kk => ?_⟩
  exact k Str.empty B μ en m σ H _ Qx _ okS_empty R hx T fun B' μ' m' H' z hz s R' q => kk B' μ' m' H' (.v (.str z)) _ s R' (RW.d (.str hz)) q
def tFm (te : DTE) : DTE := fun en m Q Qx => te en m (fun x m1 => match x with
  | .v (.str y) => y.length ≤ sizeLine ∧ Q (.v (.str y)) m1
  | .v (.int i) => i.natAbs.log2 < 1920 ∧ Q (.v (.str (toString i))) m1
  | _ => False) Qx
theorem d_fmt {e : Expr} {te : DTE} {pos : Pos} (he : DE X E e te) : DE X E (.FormattedValue e (-1) none pos) (tFm te) := by
  obtain ⟨t1, p1, k1⟩ := he.ex
  refine ⟨_, pe_fmt p1, fun B μ en m σ H Q Qx QV R hx T k => ?_⟩
  refine k1 B μ en m σ H _ Qx _ R hx T fun B1 μ1 m1 H1 x v s1 R1 r q => ?_
  split at q
  · cases (show Rv X.K B1 v (.str _) from r) with
    | str h => exact .inl ⟨_, rfl, q.1, k B1 μ1 m1 H1 _ _ s1 R1 (RW.d (.str h)) q.2⟩
  · cases (show Rv X.K B1 v (.int _) from r)
    exact .inr ⟨_, rfl, q.1, k B1 μ1 m1 H1 (.v (.str (toString _))) _ s1 R1 (RW.d (.str (okS_int _))) q.2⟩
  · exact q.elim
/-! ### isinstance with built-in types -/
def tyD' : D → Option String
  | .non => some "NoneType" | .bl _ => some "bool" | .int _ => some "int" | .str _ => some "str" | .lst _ => some "list" | .tup _ => some "tuple" | .dic _ => some "dict"
  | _ => none
def isTD : Tg → D → Bool
  | .list, .lst _ => true
  | .tuple, .tup _ => true
  | .dict, .dic _ => true
  | .bool, .bl _ => true
  | .int, .bl _ => true
  | .int, .int _ => true
  | .str, .str _ => true
  | _, _ => false
def tgS : String → Option Tg
  | "list" => some .list | "tuple" => some .tuple | "dict" => some .dict | "bool" => some .bool | "int" => some .int | "str" => some .str
  | _ => none
theorem tgS_nm {s : String} {t : Tg} (h : tgS s = some t) : s = t.nm := by
  unfold tgS at h
  split at h <;> cases h <;> rfl
theorem tyD_kit {d : D} {s : String} (h : tyD' d = some s) (t : Tg) : kitB s t.nm = some (isTD t d) := by
  cases d <;> cases h <;> cases t <;> simp only [Tg.nm, isTD] <;> decide +kernel
theorem Top.ty {K : Frag} {B H : Hp} (le : Le B H) {v : V} {d : D} {s : String} (t : Top K B H v d) (h : tyD' d = some s) : TyX K H v (.type s) := by
  cases d with
  | non => cases t; cases h; exact .base .non
  | bl b => cases t; cases h; exact .base (.bl b)
  | int b => cases t; cases h; exact .base (.int b)
  | str b => cases t; cases h; exact .base (.str b)
  | tup _ => obtain ⟨a, vs, rfl, hs, _⟩ := t; cases h; exact SqT.ty (le.tup hs)
  | lst _ => obtain ⟨a, vs, rfl, hs, _⟩ := t; cases h; exact .base (.lst hs)
  | dic _ =>
    obtain ⟨a, vs, rfl, hs, _⟩ := t
    cases h
    rcases hs with hs | ⟨o, hs⟩
    · exact .base (.dK hs)
    · exact .fDict hs
  | ty _ => cases h
  | fn _ => cases h
  | obj _ _ => cases h
  | exc _ _ => cases h
def isiD : F2 := fun d c Q => match c with
  | .ty n => (match tgS n with
    | some t => (tyD' d).isSome = true ∧ Q (.bl (isTD t d))
    | none => False)
  | _ => False
theorem c_isi : SC X (rIsi X.K) (c2 isiD) := SC.of2 fun B μ m H v u d e Q QV M td te q k => by
  unfold isiD at q
  cases e with
  | ty n =>
    cases te
    cases ht : tgS n with
    | none => simp only [ht] at q
    | some t =>
      simp only [ht] at q
      obtain ⟨s, hs⟩ := Option.isSome_iff_exists.mp q.1
      have en := tgS_nm ht
      subst en
      exact ⟨v, _, _, _, _, rfl, .ty _, Top.ty M.le td hs, kit_ty (tyD_kit hs t), SO.pure M k (.bl _) q.2⟩
  | _ => exact q.elim
theorem d_isi {e e2 : Expr} {ta : DTA} {p pos : Pos} (hm : X.mg "isinstance" = none) (ha : DA X E [e, e2] ta) (hg : Gl X "isinstance" := by rfl) (he : starEach [e, e2] X.env = (false, eval e X.env) :: starEach [e2] X.env := by rfl) (hpl : (backTo pos (starEach [e2] X.env)).any (·.1) = false := by rfl) : DE X E (.Call (.Name "isinstance" p) [e, e2] [] pos) (tCa (c2 isiD) ta) :=
  d_fn call_isi c_isi hm (by decide +kernel) ha hg (by decide) (by decide) he hpl
end
end Fs
set_option Elab.async false
set_option linter.all false
set_option maxRecDepth 100000
set_option maxHeartbeats 8000000
namespace Fs
open PySem PySem.Spec PyProof.Rows L2
theorem u64 {k : Nat} {A : Around} (r : Room k A) : A.units + 64 < cLine := r.units
theorem u65 {k : Nat} {A : Around} (r : Room k A) : A.units + 65 < cLine := by have := r.un; omega
section
variable {X : Cx} {E : XK}
theorem dv (i : Nat) {x : Str} {pos : Pos} (hN : X.N[i]? = some x := by rfl) (hv : Vis X.env.scope x := by first | exact Or.inl rfl | exact Or.inr (Or.inl rfl) | exact Or.inr (Or.inr rfl)) (hd : (x == ("__debug__" : Str)) = false := by decide)
    (hcd : (x == ("__classdict__" : Str)) = false := by decide) : DE X E (.Name x pos) (tV i) := d_var hN hv hd hcd
theorem o_mul : OpD X (binaryOp .Mult) (oL mulD) := by
  refine ⟨_, op_mulW.or op_rep, SO.of fun B μ m H v u dx dy Q QV M tx ty q k => ?_⟩
  unfold mulD at q
  split at q
  · cases tx
    cases ty
    exact .inl ⟨_, _, rfl, rfl, q.1, SO.pure M k (.int _) q.2⟩
  · obtain ⟨a, vs, rfl, h1, r1⟩ := tx
    cases ty
    obtain ⟨q0, q1, q2, q⟩ := q
    exact .inr ⟨a, _, vs, rfl, rfl, h1, by omega, by omega, by rw [r1.len]; exact q2, fun p np => SO.new M k np (new_lst M np (r1.rep _)) q⟩
  · exact q.elim
def powD : F2 := intF fun i j Q => CPow i j ∧ Q (.int (i ^ j.toNat))
theorem o_pow : OpD X (binaryOp .Pow) (oL powD) := ⟨_, op_pow, SO.of fun B μ m H v u dx dy Q QV M tx ty q k => by
  obtain ⟨i, j, rfl, rfl, q1, q⟩ := intF_ok tx ty q
  exact ⟨_, _, rfl, rfl, q1, SO.pure M k (.int _) q⟩⟩
def negD : W → (D → Prop) → Prop
  | .v (.int i), Q => Q (.int (-i))
  | _, _ => False
def tUnD (f : W → (D → Prop) → Prop) (ta : DTE) : DTE := fun en m Q Qx => ta en m (fun x m1 => f x fun d => Q (.v d) m1) Qx
theorem o_neg : ∃ r, UnR X (unaryOp .USub) r ∧ ∀ B μ m H x v (Q : D → Prop) (QV : VK), MemOk X.K B μ m H → RW X.K B μ v x → negD x Q → (∀ z d, Rv X.K B z d → Q d → QV z H) → r v H QV := ⟨_, un_neg, fun B μ m H x v Q QV M r q k => by
  unfold negD at q
  split at q
  · cases (show Rv X.K B v (.int _) from r)
    exact ⟨_, rfl, k _ _ (.int _) q⟩
  · exact q.elim⟩
theorem d_un {a : Expr} {ta : DTE} {pos : Pos} {op : UnaryOp} {f : W → (D → Prop) → Prop} (ho : ∃ r, UnR X (unaryOp op) r ∧ ∀ B μ m H x v (Q : D → Prop) (QV : VK), MemOk X.K B μ m H → RW X.K B μ v x → f x Q → (∀ z d, Rv X.K B z d → Q d → QV z H) → r v H QV) (ha : DE X E a ta) : DE X E (.UnaryOp op a pos) (tUnD f ta) := by
  obtain ⟨t1, p1, k1⟩ := ha.ex
  obtain ⟨r, h1, h2⟩ := ho
  refine ⟨_, pe_un h1 p1, fun B μ en m σ H Q Qx QV R hx T k => ?_⟩
  refine k1 B μ en m σ H _ Qx _ R hx T fun B1 μ1 m1 H1 x v s1 R1 r1 q => ?_
  exact h2 B1 μ1 m1 H1 x v _ _ R1.mem r1 q fun z d rz qd => k B1 μ1 m1 H1 (.v d) z s1 R1 (RW.d rz) qd
/-! name = [..] -/
theorem SE.lc {elt tg iter : Expr} {is : List Nat} {own : List (Str × Nat)} {ti : DTI} {g : DTG} {tt : DTT} {te : DTE} {t0 : TI} (p0 : PI X tg iter t0) (k0 : ∀ B μ en m σ H (Q : List D → Me → Prop) (Qx : QX) (QV : It → Hp → Prop), Rel X.K B μ en m σ H → ExOf X.K E B μ m H Qx → ti en m Q Qx →
    (∀ B' μ' m' H' its J, Stp B μ m H B' μ' m' H' → Rel X.K B' μ' en m' σ H' → WalkD X.K B' J its → Q its m' → QV J H') → t0 σ H QV) (hv : is.all (fun i => (own.map (·.2)).contains i) = true) :
    SE X E (tLc t0 (Fs.lG X.K is g) (Fs.lT X.K E0 tt) (Fs.lE X.K E0 te) (own.map (·.2))) (tLcD ti g tt te (own.map (·.2))) := by
  have hv' : ∀ i ∈ is, i ∈ own.map (·.2) := fun i h => List.contains_iff_mem.mp (List.all_eq_true.mp hv i h)
  intro B μ en m σ H Q Qx QV R hx T k
  refine k0 B μ en m σ H _ Qx _ R hx T fun B1 μ1 m1 H1 its J s1 R1 ⟨G, Y, w, hG, hY⟩ q => ?_
  intro L nL
  obtain ⟨nb1, nl1⟩ := R1.mem.none nL
  have Rw := R1.wipe (own.map (·.2))
  generalize hen : wipeE en (own.map (·.2)) = enw at q Rw
  refine lc_it w (fun i H' => ∃ B' μ' m' vs acc, Stp B1 μ1 m1 H1 B' μ' m' H' ∧ MemOk X.K B' μ' m' H' ∧ B' L = none ∧ ¬ Live μ' m' L ∧ H' L = some (.lst vs) ∧ RvL X.K B' vs acc ∧ lcL g tt te enw (its.drop i) acc m' Q) ?_ (fun i H' _ ⟨B', μ', m', vs, acc, s', M', _⟩ => hG B' μ' m' H' s'.same M') (fun i x H2 H3 hi ⟨B', μ', m', vs, acc, s', M', nb, nl, hL, rv, q'⟩ y => ?_) (fun H' ⟨B', μ', m', vs, acc, s', M', nb, nl, hL, rv, q'⟩ => ?_)
  · have kp : ∀ b o, b ≠ L → H1 b = some o → upd H1 L (.lst []) b = some o := fun b o c e => by rw [upd_ne c]; exact e
    exact ⟨B1, μ1, m1, [], [], Stp.refl.touch nL kp, R1.mem.touch nb1 nl1 kp, nb1, nl1, upd_same, .nil, q⟩
  · obtain ⟨B3, d, hd, s3, m3, rd⟩ := hY i B' μ' m' H2 x H3 hi s'.same M' y
    have s13 := s'.trans M' s3 R1.mem.le
    obtain ⟨nb3, nl3⟩ := s3.hid L _ nl hL ⟨(fun _ z => nomatch z), (fun _ z => nomatch z)⟩ nb
    have hL3 := s3.out L _ nl hL (fun _ z => nomatch z)
    have R3 : Rel X.K B3 μ' enw m' (L2.wipe σ (own.map (·.2))) H3 := Rw.stp s13 m3
    rw [List.drop_eq_getElem_cons hi] at q'
    have ed : its[i] = d := by
      rw [List.getElem?_eq_getElem hi] at hd
      exact Option.some.inj hd
    rw [ed] at q'
    refine ⟨B3, μ', enw, m', .v d, _, R3, rd, q', fun B4 μ4 en4 m4 σ4 H4 s4 R4 st4 q4 => ⟨by rw [st4.wipe hv', wipe_wipe], ?_⟩⟩
    have s14 := s13.trans m3 s4 R1.mem.le
    obtain ⟨nb4, nl4⟩ := s4.hid L _ nl3 hL3 ⟨(fun _ z => nomatch z), (fun _ z => nomatch z)⟩ nb3
    have hL4 := s4.out L _ nl3 hL3 (fun _ z => nomatch z)
    refine ⟨B4, μ4, en4, m4, _, noX, R4, ExOf.no, q4, fun B5 μ5 m5 H5 b s5 R5 q5 => ?_⟩
    have s15 := s14.trans R4.mem s5 R1.mem.le
    obtain ⟨nb5, nl5⟩ := s5.hid L _ nl4 hL4 ⟨(fun _ z => nomatch z), (fun _ z => nomatch z)⟩ nb4
    have hL5 := s5.out L _ nl4 hL4 (fun _ z => nomatch z)
    have rv5 := rv.to ((s3.same.trans s4.same).trans s5.same)
    cases b with
    | false => exact iteF ⟨B5, μ5, m5, vs, acc, s15, R5.mem, nb5, nl5, hL5, rv5, q5⟩
    | true =>
      refine iteT ⟨B5, μ5, en4, m5, _, noX, R5, ExOf.no, q5, fun B6 μ6 m6 H6 y v s6 R6 r6 q6 => ?_⟩
      cases y with
      | loc n => exact q6.elim
      | v dy =>
        obtain ⟨lz, q6⟩ := q6
        have s16 := s15.trans R5.mem s6 R1.mem.le
        obtain ⟨nb6, nl6⟩ := s6.hid L _ nl5 hL5 ⟨(fun _ z => nomatch z), (fun _ z => nomatch z)⟩ nb5
        have hL6 := s6.out L _ nl5 hL5 (fun _ z => nomatch z)
        have rv6 := rv5.to s6.same
        have kp : ∀ b o, b ≠ L → H6 b = some o → upd H6 L (.lst (vs ++ [v])) b = some o := fun b o c e => by rw [upd_ne c]; exact e
        exact ⟨vs, hL6, by rw [rv6.len]; exact lz, B6, μ6, m6, vs ++ [v], acc ++ [dy], s16.touch nL kp, R6.mem.touch nb6 nl6 kp, nb6, nl6, upd_same, rv6.append (.one r6), q6⟩
  · rw [List.drop_length] at q'
    have same : Same B' (upd B' L (.lst vs)) := same_new nb _
    have M2 : MemOk X.K (upd B' L (.lst vs)) μ' m' H' := by
      refine ⟨fun a o e => ?_, M'.len, fun a l => ?_, fun n a x e1 e2 e3 => OO.to same (List.prefix_refl _) (fun _ z => z) (M'.at_ n a x e1 e2 e3), M'.inj, fun a ps e => by
        by_cases c : a = L
        · subst c
          rw [upd_same] at e
          cases e
        · rw [upd_ne c] at e
          exact M'.ntb a ps e⟩
      · by_cases c : a = L
        · subst c
          rw [upd_same] at e
          cases e
          exact hL
        · rw [upd_ne c] at e
          exact M'.le a o e
      · have c : a ≠ L := fun z => by
          subst z
          exact nl l
        rw [upd_ne c]
        exact M'.off a l
    have st : Stp B1 μ1 m1 H1 (upd B' L (.lst vs)) μ' m' H' := ⟨s'.same.trans same, s'.pre, s'.out, fun a o n e x b => by
      obtain ⟨h1, h2⟩ := s'.hid a o n e x b
      refine ⟨?_, h2⟩
      rw [upd_ne (ne_of_none e nL)]
      exact h1⟩
    have stt := s1.trans R1.mem st R.mem.le
    exact k _ μ' m' H' _ _ stt (R.stp stt M2) (RW.d (.lst upd_same (rv.to same))) q'
theorem ds_setLc {i : Nat} {y : Str} {py : Pos} {elt tg iter : Expr} {ifs : List Expr} {scope : Scope} {own : List (Str × Nat)} {is : List Nat} {pos spos : Pos} {ti : DTI} {g : DTG} {tt : DTT} {te : DTE} (hy : X.N[i]? = some y) (hyl : X.env.scope.names.lookup y = some .local)
    (hsw : swapsWith (.ListComp elt [⟨tg, iter, ifs, 0⟩] scope pos) (some (.Name y py)) spos.line X.env = pure true) (hc : X.calm = true) (hN : X.N.Nodup) (hi : DI X E tg iter ti) (ok : BlkOk X.N X.env.scope scope own)
    (hg : ∀ (s : Shared) (H : Hp) (C : Addr) (cl : List (Str × Addr)) (fp : List Addr), DG (X.blk s H scope (compEnvC scope cl C X.env) fp) tg is g) (ht : ∀ (s : Shared) (H : Hp) (C : Addr) (cl : List (Str × Addr)) (fp : List Addr), DTs (X.blk s H scope (compEnvC scope cl C X.env) fp) E0 ifs tt)
    (he : ∀ (s : Shared) (H : Hp) (C : Addr) (cl : List (Str × Addr)) (fp : List Addr), DE (X.blk s H scope (compEnvC scope cl C X.env) fp) E0 elt te) (hs : ∀ x, foldedSetIterable iter X.env x = pure x := by intro _; rfl) (hv : is.all (fun i => (own.map (·.2)).contains i) = true := by rfl) :
    DS X E (.Assign [.Name y py] (.ListComp elt [⟨tg, iter, ifs, 0⟩] scope pos) spos) (sSet i (tLcD ti g tt te (own.map (·.2)))) := by
  obtain ⟨t0, p0, k0⟩ := hi.ex
  have se := SE.lc (elt := elt) (E := E) (g := g) (tt := tt) (te := te) (own := own) p0 k0 hv
  refine ⟨_, ps_setLc hc hN hy hyl hsw p0 ok (g := lG X.K is g) (tt := lT X.K E0 tt) (te := lE X.K E0 te) (fun s H C cl fp => (hg s H C cl fp).pg) (fun s H C cl fp => (ht s H C cl fp).pts) (fun s H C cl fp => (he s H C cl fp).pe) hs, fun B μ en m σ H N D R hx T e => ?_⟩
  exact se B μ en m σ H _ _ _ R hx T fun B1 μ1 m1 H1 x v s1 R1 r q => e.nx B1 μ1 _ m1 _ H1 s1 (R1.set r) q
/-! name op= e -/
abbrev DIp := W → W → Me → (D → Prop) → Prop
def sAug (i : Nat) (te : DTE) (o : DIp) : DTS := fun en m N => match En.get en i with
  | some x => te en m (fun y m1 => o x y m1 fun d => N.nx (List.set en i (some (.v d))) m1) N.xc
  | none => False
def IpD (X : Cx) (op : Operator) (o : DIp) : Prop := ∃ r : TIp, PIp X op r ∧ SO X r o
theorem ds_aug {i : Nat} {x : Str} {e : Expr} {te : DTE} {op : Operator} {o : DIp} {pos' pos : Pos} (hN : X.N.Nodup) (hi : X.N[i]? = some x) (hx : Loc X.env.scope x) (he : DE X E e te) (ho : IpD X op o) (hf : X.fn x = true ∨ X.env.scope.names.lookup x = some .local := by first | exact .inl rfl | exact .inr rfl | assumption) : DS X E (.AugAssign (.Name x pos') op e pos) (sAug i te o) := by
  obtain ⟨t1, p1, k1⟩ := he.ex
  obtain ⟨r, h1, h2⟩ := ho
  refine ⟨_, ps_aug hN hi hx p1 h1 hf, fun B μ en m σ H N D R hx T e => ?_⟩
  unfold sAug at T
  split at T
  · rename_i x hg
    obtain ⟨v, hv, rv⟩ := R.env i x (En.get_some hg)
    refine ⟨v, hv, k1 B μ en m σ H _ _ _ R hx T fun B1 μ1 m1 H1 y u s1 R1 ry q => ?_⟩
    refine h2 B1 μ1 m1 H1 x y v u _ _ R1.mem (rv.to s1.same s1.pre) ry q fun B2 H2 d z s2 M2 rz q2 => ?_
    have st := s1.trans R1.mem s2 R.mem.le
    exact e.nx B2 μ1 _ m1 _ H2 st ((R.stp st M2).set (RW.d rz)) q2
  · exact T.elim
theorem ia_add : IpD X .Add (oL (intF fun i j Q => Q (.int (i + j)))) := ⟨_, ip_add, SO.of fun B μ m H v u dx dy Q QV M tx ty q k => by
  obtain ⟨i, j, rfl, rfl, q⟩ := intF_ok tx ty q
  exact ⟨_, _, rfl, rfl, SO.pure M k (.int _) q⟩⟩
theorem ia_sub : IpD X .Sub (oL (intF fun i j Q => Q (.int (i - j)))) := ⟨_, ip_sub, SO.of fun B μ m H v u dx dy Q QV M tx ty q k => by
  obtain ⟨i, j, rfl, rfl, q⟩ := intF_ok tx ty q
  exact ⟨_, _, rfl, rfl, SO.pure M k (.int _) q⟩⟩
/-! isinstance(x, (S, T)) -/
def isi2D (s t : String) (d : D) (Q : D → Prop) : Prop := match tgS s, tgS t with
  | some a, some b => (tyD' d).isSome = true ∧ Q (.bl (isTD a d || isTD b d))
  | _, _ => False
def tIsi2 (s t : String) (te : DTE) : DTE := fun en m Q Qx => te en m (fun x m1 => look x m1 fun d => isi2D s t d fun r => Q (.v r) m1) Qx
theorem d_isi2 {e a b : Expr} {te : DTE} {s t : String} {p pos tpos : Pos} {k : Nat} (hm : X.mg "isinstance" = none) (he : DE X E e te) (hpa : PE X a (tC (.ty s))) (hpb : PE X b (tC (.ty t))) (hg : Gl X "isinstance" := by rfl)
    (hst : starEach [e, .Tuple [a, b] k tpos] X.env = (false, eval e X.env) :: starEach [.Tuple [a, b] k tpos] X.env := by rfl) (hst2 : starEach [.Tuple [a, b] k tpos] X.env = (false, eval (.Tuple [a, b] k tpos) X.env) :: starEach [] X.env := by rfl)
    (hpl : (backTo pos (starEach [.Tuple [a, b] k tpos] X.env)).any (·.1) = false := by rfl) (h1 : starEach [a, b] X.env = (false, eval a X.env) :: starEach [b] X.env := by rfl) (h2 : starEach [b] X.env = (false, eval b X.env) :: starEach [] X.env := by rfl) :
    DE X E (.Call (.Name "isinstance" p) [e, .Tuple [a, b] k tpos] [] pos) (tIsi2 s t te) := by
  obtain ⟨t1, p1, k1⟩ := he.ex
  refine ⟨_, pe_callB call_isiT hg hm (by decide +kernel) (pa_cons p1 (pa_cons (pe_tup (pa_cons hpa (pa_cons hpb pa_nil h2) h1)) pa_nil hst2) hst) (by decide) (by decide) hst hpl, fun B μ en m σ H Q Qx QV R hx T k => ?_⟩
  refine k1 B μ en m σ H _ Qx _ R hx T fun B1 μ1 m1 H1 x v s1 R1 r q => ⟨by show 2 ≤ sizeLine; decide, fun p np => ?_⟩
  have sl := Stp.laid R1.mem np (o := .tup [.ty s, .ty t])
  have ml := R1.mem.laid np (o := .tup [.ty s, .ty t])
  obtain ⟨d, td, q2⟩ := look_ok ml (r.to sl.same sl.pre) q
  unfold isi2D at q2
  split at q2
  · rename_i a' b' e1 e2
    obtain ⟨ts, hs⟩ := Option.isSome_iff_exists.mp q2.1
    have en1 := tgS_nm e1
    have en2 := tgS_nm e2
    subst en1 en2
    refine ⟨v, p, [.ty a'.nm, .ty b'.nm], .type ts, [.type a'.nm, .type b'.nm], isTD a' d || isTD b' d, rfl, upd_same, .cons (.ty _) (.cons (.ty _) .nil), Top.ty ml.le td hs, ?_, ?_⟩
    · refine kitAny_cons (kit_ty (tyD_kit hs a')) (fun e => ?_) (fun e => by rw [e]; rfl)
      rw [e, Bool.false_or]
      refine kitAny_cons (kit_ty (tyD_kit hs b')) (fun e => ?_) (fun e => e)
      rw [e]
      rfl
    · have st := s1.trans R1.mem sl R.mem.le
      exact k _ μ1 m1 _ (.v (.bl _)) _ st (R.stp st ml) (RW.d (.bl _)) q2.2
  · exact q2.elim
/-! calls without arguments, with keywords -/
section
variable {CX : CXT} {k : Nat} {x : Str} {ps : List Str} {sp : SpD} {e : Expr} {es : List Expr} {p pos : Pos} {ta : DTA}
theorem d_call0 (G : Gd X.prog X.w X.K X.mg X.base CX k x ps (lift X.K sp)) (hr : Room k X.A) (hx : Passes CX X E) (hg : Gl X x := by rfl) (hdb : (x == ("__debug__" : Str)) = false := by decide) : DE X E (.Call (.Name x p) [] [] pos) (tCal sp tN) := by
  obtain ⟨f, fd, a, b, c, F⟩ := G.ex
  refine ⟨_, pe_call0 F hr hg a b c .nil hx hdb, (SA.call (E := E) (dv := []) (dw := []) (ta := tN) (fun B μ en m σ H Q Qx QV R hx T k => k B μ m H [] [] .refl R .nil T) fun _ => .nil).imp fun en m Q Qx q => ?_⟩
  unfold tCal at q ⊢
  simpa using q
structure DK (X : Cx) (E : XK) (kws : List Keyword) (T : DTA) : Prop where
  ex : ∃ t, PK X kws t ∧ SA X E t T
def tCalk (n j : Nat) (sp : SpD) (g : List W → List W → List W) (ta tk : DTA) : DTE := fun en m Q Qx => ta en m (fun xs m1 => tk en m1 (fun zs m2 => xs.length = n ∧ zs.length = j ∧ sp (g xs zs) m2 Q Qx) Qx) Qx
/-- the reordering is the same for worlds' values -/
def Reo (K : Frag) (gV : List V → List V → List V) (gW : List W → List W → List W) : Prop := ∀ B μ (vs : List V) (xs : List W) (us : List V) (zs : List W), RWs K B μ vs xs → RWs K B μ us zs → RWs K B μ (gV vs us) (gW xs zs)
theorem SE.callk {n j : Nat} {t tk : TA} {Tk : DTA} {gV : List V → List V → List V} {gW : List W → List W → List W} (hr : Reo X.K gV gW) (k1 : SA X E t ta) (k2 : SA X E tk Tk) : SE X E (tCallN n j (lift X.K sp) gV E t tk) (tCalk n j sp gW ta Tk) := by
  intro B μ en m σ H Q Qx QV R hx T k
  refine k1 B μ en m σ H _ Qx _ R hx T fun B1 μ1 m1 H1 xs vs s1 R1 r1 T1 => ?_
  refine k2 B1 μ1 en m1 σ H1 _ Qx _ R1 (hx.step s1 R1.mem R.mem.le) T1 fun B2 μ2 m2 H2 zs us s2 R2 r2 ⟨l1, l2, T2⟩ => ?_
  have r1' := r1.to s2.same s2.pre
  refine ⟨by rw [r1'.len]; exact l1, by rw [r2.len]; exact l2, ?_⟩
  have s12 := s1.trans R1.mem s2 R.mem.le
  refine ⟨B2, μ2, m2, _, _, Qx, R2.mem, hr _ _ _ _ _ _ r1' r2, T2, hx.step s12 R2.mem R.mem.le, fun B3 μ3 m3 H3 y v s3 m3' r3 q3 => ?_⟩
  have st := s12.trans R2.mem s3 R.mem.le
  exact k B3 μ3 m3 H3 y v st (R.stp st m3') r3 q3
theorem d_callk {n : Nat} {ks : List Str} {kws : List Keyword} {Tk : DTA} {gV : List V → List V → List V} {gW : List W → List W → List W} (G : Gk X.prog X.w X.K X.mg X.base CX k x n ks gV ps (lift X.K sp) ∧ Reo X.K gV gW) (hr : Room k X.A) (hx : Passes CX X E) (ha : DA X E (e :: es) ta) (hkw : DK X E kws Tk) (hg : Gl X x := by rfl)
    (hall : (backToKw pos (keywordEach kws X.env)).all (·.1.isSome) = true := by rfl) (hks : (backToKw pos (keywordEach kws X.env)).filterMap (·.1) = ks := by rfl)
    (hdb : (x == ("__debug__" : Str)) = false := by decide) (he : starEach (e :: es) X.env = (false, eval e X.env) :: starEach es X.env := by rfl)
    (hpl : ((backTo pos (starEach (e :: es) X.env)).any (·.1) || (backToKw pos (keywordEach kws X.env)).any (·.1.isNone)) = false := by rfl) : DE X E (.Call (.Name x p) (e :: es) kws pos) (tCalk n ks.length sp gW ta Tk) := by
  obtain ⟨t1, p1, k1⟩ := ha.ex
  obtain ⟨t2, p2, k2⟩ := hkw.ex
  exact ⟨_, pe_gk G.1 hr hx p1 p2 hg hall hks hdb he hpl, SE.callk G.2 k1 k2⟩
theorem d_callk0 {ks : List Str} {kws : List Keyword} {Tk : DTA} {gV : List V → List V → List V} {gW : List W → List W → List W} (G : Gk X.prog X.w X.K X.mg X.base CX k x 0 ks gV ps (lift X.K sp) ∧ Reo X.K gV gW) (hr : Room k X.A) (hx : Passes CX X E) (hkw : DK X E kws Tk) (hg : Gl X x := by rfl)
    (hall : (backToKw pos (keywordEach kws X.env)).all (·.1.isSome) = true := by rfl) (hks : (backToKw pos (keywordEach kws X.env)).filterMap (·.1) = ks := by rfl)
    (hdb : (x == ("__debug__" : Str)) = false := by decide)
    (hpl : ((backTo pos (starEach [] X.env)).any (·.1) || (backToKw pos (keywordEach kws X.env)).any (·.1.isNone)) = false := by rfl) : DE X E (.Call (.Name x p) [] kws pos) (tCalk 0 ks.length sp gW tN Tk) := by
  obtain ⟨t2, p2, k2⟩ := hkw.ex
  exact ⟨_, pe_gk0 G.1 hr hx p2 hg hall hks hdb hpl, SE.callk G.2 (fun B μ en m σ H Q Qx QV R hx T k => k B μ m H [] [] .refl R .nil T) k2⟩
end
end
/-! ### the laws' bag -/
section
variable {P : Program} {w : World} {K : Frag} {mg : Str → Option Value} {base : Heap} {k : Nat} {x : Str} {ps : List Str}
theorem Gd.up {sp : Sp} (G : Gd P w K mg base CX0 k x ps sp) : Gd P w K mg base (L2.CX P w) k x ps sp := by
  obtain ⟨f, fd, a, b, c, F⟩ := G.ex
  refine ⟨f, fd, a, b, c, F.len, fun A outer s H args us vs Q E hr he hb hv hs => codeAny_mono (F.run A outer s H args us vs Q E hr he hb hv hs) fun r s' h => ?_⟩
  cases r with
  | error e => exact (show False from h).elim
  | ok fl => cases fl <;> exact h
/-- the bag at n -/
def isBag (m : Me) (n : Nat) : Prop := m[n]? = some .bag
def spPullD : SpD := fun ws m Q _ => ∃ n k, ws = [.loc n, .v (.int k)] ∧ m[n]? = some .bag ∧ 0 < k ∧ k < 2 ^ 100 ∧ ∀ r, 0 ≤ r → r < k → Q (.v (.int r)) m
theorem set_self {α : Type} {l : List α} {n : Nat} {x : α} (h : l[n]? = some x) : l.set n x = l := by
  apply List.ext_getElem?
  intro i
  by_cases c : i = n
  · subst c
    rw [List.getElem?_set_self (List.getElem?_eq_some_iff.mp h).1, h]
  · rw [List.getElem?_set_ne (fun z => c z.symm)]
theorem lift_pull {vs : List V} {H : Hp} {Q : VK} {E E' : XK} (h : lift K spPullD vs H Q E) : spPull vs H Q E' := by
  obtain ⟨B, μ, m, ws, Qd, Qx, M, r, ⟨n, j, rfl, hm, h0, h1, q⟩, hx, hq⟩ := h
  cases r with
  | cons a t =>
    cases t with
    | cons b t =>
      cases t
      cases (show Rv K B _ (.int j) from b)
      obtain ⟨p, rfl, hp⟩ := a
      obtain ⟨l, i, rs, sd, ns, e1, e2, e3⟩ := (show BagB B H p from M.at_ n p _ hp hm rfl).ex
      refine ⟨p, l, j, rfl, ⟨i, rs, sd, ns, e1, M.le _ _ e2, e3⟩, h0, h1, fun z H' z0 z1 sx B' => ?_⟩
      have kp : ∀ b o, b ≠ p → H b = some o → H' b = some o := fun b o c e => sx.at c e
      obtain ⟨i', rs', sd', ns', f1, f2, f3⟩ := B'.ex
      have nl : l ≠ p := fun z => by
        subst z
        rw [M.off l ⟨n, _, hp, hm, rfl⟩] at e2
        cases e2
      have e4 := kp l _ nl (M.le _ _ e2)
      have new : OO K B μ H' p .bag := ⟨l, i', rs', sd', ns, f1, e2, f3⟩
      have M2 := M.store hp hm rfl rfl kp new (m' := .bag)
      have S2 := Stp.store (B := B) (m' := .bag) hp hm rfl kp
      rw [set_self hm] at M2 S2
      exact hq B μ m H' (.v (.int z)) _ S2 M2 (.int z) (q z z0 z1)
theorem pullD (G : Gd P w K mg base CX0 k x ps spPull) : Gd P w K mg base (L2.CX P w) k x ps (lift K spPullD) := G.up.imp fun _ _ _ _ h => lift_pull h
end
end Fs
set_option Elab.async false
set_option linter.all false
set_option maxRecDepth 100000
set_option maxHeartbeats 8000000
namespace Fs
open PySem PySem.Spec PyProof.Rows L2
/-- a comprehension without tests: its items one by one -/
inductive All2 (R : Nat → D → D → Prop) : Nat → List D → List D → Prop
  | nil {i : Nat} : All2 R i [] []
  | cons {i : Nat} {d y : D} {ds ys : List D} : R i d y → All2 R (i + 1) ds ys → All2 R i (d :: ds) (y :: ys)
theorem All2.len {R : Nat → D → D → Prop} {i : Nat} {ds ys : List D} (h : All2 R i ds ys) : ds.length = ys.length := by
  induction h with
  | nil => rfl
  | cons _ _ ih => rw [List.length_cons, List.length_cons, ih]
theorem lcL_all {g : DTG} {te : DTE} {en : En} {m : Me} (R : Nat → D → D → Prop) : ∀ {its acc : List D} {Q : W → Me → Prop} (i : Nat), acc.length + its.length ≤ sizeLine →
    (∀ j d (Qt : W → Me → Prop), its[j]? = some d → (∀ y, R (i + j) d y → Qt (.v y) m) → g (.v d) en m fun en1 m1 => te en1 m1 Qt noX) → (∀ ys, All2 R i its ys → Q (.v (.lst (acc ++ ys))) m) → lcL g tYs te en its acc m Q
  | [], acc, Q, i, _, _, k => by
    have z := k [] .nil
    rw [List.append_nil] at z
    exact z
  | d :: ds, acc, Q, i, hl, h, k => by
    rw [List.length_cons] at hl
    refine h 0 d _ rfl fun y r => ?_
    refine ⟨by omega, ?_⟩
    refine lcL_all R (i + 1) (by rw [List.length_append, List.length_singleton]; omega) (fun j e Qt he hq => h (j + 1) e Qt (by simpa using he) fun y r => hq y (by rw [show i + 1 + j = i + (j + 1) by omega]; exact r)) fun ys a => ?_
    rw [List.append_assoc]
    exact k (y :: ys) (.cons r a)
/-- .. that computes f of each item -/
theorem lcL_map {g : DTG} {te : DTE} {en : En} {m : Me} (f : D → D) : ∀ {its acc : List D} {Q : W → Me → Prop}, acc.length + its.length ≤ sizeLine →
    (∀ d (Qt : W → Me → Prop), d ∈ its → Qt (.v (f d)) m → g (.v d) en m fun en1 m1 => te en1 m1 Qt noX) → Q (.v (.lst (acc ++ its.map f))) m → lcL g tYs te en its acc m Q
  | [], acc, Q, _, _, k => by
    rw [List.map_nil, List.append_nil] at k
    exact k
  | d :: ds, acc, Q, hl, h, k => by
    rw [List.length_cons] at hl
    refine h d _ List.mem_cons_self ⟨by omega, ?_⟩
    refine lcL_map f (by rw [List.length_append, List.length_singleton]; omega) (fun e Qt he => h e Qt (List.mem_cons_of_mem _ he)) ?_
    rw [List.append_assoc]
    exact k
/-- .. with a test -/
theorem lcL_filter {g : DTG} {tt : DTT} {te : DTE} {en : En} {m : Me} (c : D → Bool) (f : D → D) : ∀ {its acc : List D} {Q : W → Me → Prop}, acc.length + its.length ≤ sizeLine →
    (∀ d (Qt : W → Me → Prop) (Qn : Me → Prop), d ∈ its → (c d = true → Qt (.v (f d)) m) → (c d = false → Qn m) → g (.v d) en m fun en1 m1 => tt en1 m1 (fun b m2 => if b = true then te en1 m2 Qt noX else Qn m2) noX) → Q (.v (.lst (acc ++ (its.filter c).map f))) m → lcL g tt te en its acc m Q
  | [], acc, Q, _, _, k => by
    rw [List.filter_nil, List.map_nil, List.append_nil] at k
    exact k
  | d :: ds, acc, Q, hl, h, k => by
    rw [List.length_cons] at hl
    have ih := fun (acc : List D) (Q : W → Me → Prop) (hl : acc.length + ds.length ≤ sizeLine) => lcL_filter (its := ds) (acc := acc) (Q := Q) c f hl fun e Qt Qn he => h e Qt Qn (List.mem_cons_of_mem _ he)
    refine h d _ (fun m2 => lcL g tt te en ds acc m2 Q) List.mem_cons_self (fun hc => ⟨by omega, ?_⟩) fun hc => ?_
    · refine ih _ _ (by rw [List.length_append, List.length_singleton]; omega) ?_
      rw [List.filter_cons_of_pos hc] at k
      rw [List.append_assoc]
      exact k
    · refine ih _ _ (by omega) ?_
      rw [List.filter_cons_of_neg (by rw [hc]; decide)] at k
      exact k
/-- a for by an invariant: what a turn is to reach is any N' -/
theorem sFor_inv {g : DTG} {tb : DTS} {N : Dn} (I : Nat → En → Me → Prop) : ∀ {its : List D} {en : En} {m : Me} (i : Nat), I i en m →
    (∀ j d en m (N' : Dn), its[j]? = some d → I (i + j) en m → N'.rt = N.rt → N'.xc = N.xc → N'.bk = N.nx → (∀ en' m', I (i + j + 1) en' m' → N'.nx en' m' ∧ N'.ct en' m') → g (.v d) en m fun en1 m1 => tb en1 m1 N') →
    (∀ en m, I (i + its.length) en m → N.nx en m) → sForL g tb its en m N
  | [], en, m, i, h, _, k => k _ _ h
  | d :: ds, en, m, i, h, t, k => by
    have nxt : ∀ en' m', I (i + 1) en' m' → sForL g tb ds en' m' N := fun en' m' h' => by
      refine sFor_inv I (i + 1) h' (fun j e en m N' he hi r1 r2 r3 hn => t (j + 1) e en m N' (by simpa using he) (by rw [show i + (j + 1) = i + 1 + j by omega]; exact hi) r1 r2 r3 fun en' m' z => hn en' m' (by rw [show i + 1 + j + 1 = i + (j + 1) + 1 by omega]; exact z)) fun en m z => k en m ?_
      rw [List.length_cons, show i + (ds.length + 1) = i + 1 + ds.length by omega]
      exact z
    exact t 0 d en m _ rfl h rfl rfl rfl fun en' m' z => ⟨nxt en' m' z, nxt en' m' z⟩
theorem sFor0 {g : DTG} {tb : DTS} {N : Dn} (I : Nat → En → Me → Prop) {its : List D} {en : En} {m : Me} (h : I 0 en m)
    (t : ∀ j d en m (N' : Dn), its[j]? = some d → I j en m → N'.rt = N.rt → N'.xc = N.xc → N'.bk = N.nx → (∀ en' m', I (j + 1) en' m' → N'.nx en' m' ∧ N'.ct en' m') → g (.v d) en m fun en1 m1 => tb en1 m1 N')
    (k : ∀ en m, I its.length en m → N.nx en m) : sForL g tb its en m N :=
  sFor_inv I 0 h (fun j d en m N' hd hi r1 r2 r3 hn => t j d en m N' hd (by rw [Nat.zero_add] at hi; exact hi) r1 r2 r3 fun en' m' z => hn en' m' (by rw [Nat.zero_add]; exact z)) fun en m z => k en m (by rw [Nat.zero_add] at z; exact z)
/-- a while by an invariant and a measure -/
theorem sWh_inv {c : DTT} {tb : DTS} {N : Dn} (I : Nat → En → Me → Prop) : ∀ (n : Nat) {en : En} {m : Me}, I n en m →
    (∀ n en m (N' : Dn), I n en m → N'.rt = N.rt → N'.xc = N.xc → N'.bk = N.nx → (∀ k en' m', k < n → I k en' m' → N'.nx en' m' ∧ N'.ct en' m') → c en m (fun b m1 => if b = true then tb en m1 N' else N.nx en m1) N.xc) → sWh c tb en m N := by
  intro n en m h t
  refine ⟨n + 1, ?_⟩
  -- more turns do no harm: by strong induction on the measure, for any number of turns above it
  have key : ∀ (n : Nat) (f : Nat) (en : En) (m : Me), n < f → I n en m → whN c tb f en m N := by
    intro n
    induction n using Nat.strongRecOn with
    | _ n ih =>
      intro f en m hf h
      cases f with
      | zero => omega
      | succ f =>
        refine t n en m { N with nx := fun en2 m2 => whN c tb f en2 m2 N, ct := fun en2 m2 => whN c tb f en2 m2 N, bk := N.nx } h rfl rfl rfl fun k en' m' hk hi => ?_
        have z := ih k hk f en' m' (by omega) hi
        exact ⟨z, z⟩
  exact key n (n + 1) en m (Nat.lt_succ_self n) h
theorem rngD_len (lo : Int) (n : Nat) : (rngD lo n).length = n := by unfold rngD; rw [List.length_map, List.length_range]
theorem rngD_at {lo : Int} {n j : Nat} {d : D} (h : (rngD lo n)[j]? = some d) : d = .int (lo + (j : Nat)) ∧ j < n := by
  unfold rngD at h
  rw [List.getElem?_map] at h
  cases q : (List.range n)[j]? with
  | none => rw [q] at h; cases h
  | some i =>
    rw [q] at h
    have l : j < n := by
      have := (List.getElem?_eq_some_iff.mp q).1
      simpa using this
    rw [List.getElem?_range l] at q
    cases q
    cases h
    exact ⟨rfl, l⟩
/-! ### the last own object -/
theorem lstAt_last {m : Me} {ds : List D} {Q : List D → Prop} (h : Q ds) : lstAt (m ++ [.lst ds]) m.length Q := by
  unfold lstAt
  rw [List.getElem?_append_right (Nat.le_refl _), Nat.sub_self]
  exact h
theorem set_last {α : Type} {m : List α} {a b : α} : (m ++ [a]).set m.length b = m ++ [b] := by
  rw [List.set_append_right _ _ (Nat.le_refl _), Nat.sub_self]
  rfl
theorem at_more {m : Me} {n : Nat} {x : MO} {l : Me} (h : m[n]? = some x) : (m ++ l)[n]? = some x := by
  rw [List.getElem?_append_left (List.getElem?_eq_some_iff.mp h).1]
  exact h
theorem sbs_self {n : Nat} {d : D} : sbs n d (some (.loc n)) = some (.v d) := by
  show (if n = n then some (W.v d) else some (W.loc n)) = _
  rw [if_pos rfl]
theorem get_sbs {en : En} {i n : Nat} {d : D} (h : En.get en i = some (.loc n)) : En.get (en.map (sbs n d)) i = some (.v d) := by
  have e := En.get_some h
  unfold En.get
  rw [List.getElem?_map, e]
  show sbs n d (some (.loc n)) = _
  exact sbs_self
theorem sFz_last {i : Nat} {u : DTS} {en : En} {m : Me} {ds : List D} {N : Dn} (h : En.get en i = some (.loc m.length)) (k : u (en.map (sbs m.length (.lst ds))) (m ++ [.gone]) N) : sFz i u en (m ++ [.lst ds]) N := by
  unfold sFz
  rw [h]
  refine lstAt_last ?_
  rw [set_last]
  exact k
/-- return x, x the last own list -/
theorem ret_last {i : Nat} {en : En} {m : Me} {ds : List D} {N : Dn} (h : En.get en i = some (.loc m.length)) (k : N.rt (.v (.lst ds)) (m ++ [.gone])) : sFz i (sRet (tV i)) en (m ++ [.lst ds]) N := by
  refine sFz_last h ?_
  unfold sRet tV
  rw [get_sbs h]
  exact k
end Fs
set_option Elab.async false
set_option linter.all false
set_option maxRecDepth 100000
set_option maxHeartbeats 8000000
namespace Fs
open PySem PySem.Spec PyProof.Rows L2
section
variable {X : Cx} {E : XK}
theorem dk_nil : DK X E [] tN := ⟨_, pk_nil, fun B μ en m σ H Q Qx QV R hx T k => k B μ m H [] [] .refl R .nil T⟩
theorem dk_cons {e : Expr} {nm : Option Str} {kpos : Pos} {kws : List Keyword} {te : DTE} {ta : DTA} (he : DE X E e te) (ha : DK X E kws ta) : DK X E (⟨nm, e, kpos⟩ :: kws) (tCn te ta) := by
  obtain ⟨t1, p1, k1⟩ := he.ex
  obtain ⟨t2, p2, k2⟩ := ha.ex
  refine ⟨_, pk_cons p1 p2, fun B μ en m σ H Q Qx QV R hx T k => ?_⟩
  refine k1 B μ en m σ H _ Qx _ R hx T fun B1 μ1 m1 H1 x v s1 R1 r1 T1 => ?_
  refine k2 B1 μ1 en m1 σ H1 _ Qx _ R1 (hx.step s1 R1.mem R.mem.le) T1 fun B2 μ2 m2 H2 xs vs s2 R2 r2 T2 => ?_
  exact k B2 μ2 m2 H2 _ _ (s1.trans R1.mem s2 R.mem.le) R2 (.cons (r1.to s2.same s2.pre) r2) T2
theorem Reo.snd {K : Frag} : Reo K (fun _ zs => zs) (fun _ zs => zs) := fun _ _ _ _ _ _ _ h => h
end
def repS (a : Str) (n : Nat) : Str := ⟨(List.replicate n a.cps).foldl (· ++ ·) #[]⟩
theorem repS_tl (a : Str) : ∀ n : Nat, (repS a n).cps.toList = (List.replicate n a.cps.toList).flatten := by
  intro n
  have key : ∀ (l : List (Array Nat)) (acc : Array Nat), (l.foldl (· ++ ·) acc).toList = acc.toList ++ (l.map (·.toList)).flatten := by
    intro l
    induction l with
    | nil => simp
    | cons x l ih => intro acc; rw [List.foldl_cons, ih]; simp
  show ((List.replicate n a.cps).foldl (· ++ ·) #[]).toList = _
  rw [key, List.map_replicate]
  rfl
theorem repS_len (a : Str) (n : Nat) : (repS a n).length = n * a.length := by
  show (repS a n).cps.size = n * a.cps.size
  rw [← Array.length_toList, repS_tl, List.length_flatten, List.map_replicate, List.sum_replicate_nat, Array.length_toList]
theorem op_mulS {X : Cx} : OpR X (binaryOp .Mult) (fun x y H Q => ∃ a n, x = .str a ∧ y = .int n ∧ 1 < n ∧ n < 2 ^ 20 ∧ 0 < a.length ∧ a.length * n.toNat ≤ sizeLine ∧ Q (.str (repS a n.toNat)) H) := by
  intro pins s σ H x y v u Q I rx ry h
  obtain ⟨a, n, rfl, rfl, h1, h2, h3, h4, q⟩ := h
  obtain ⟨t, rfl⟩ := rx
  obtain ⟨t', rfl⟩ := ry
  have e : (n == 1 || a.length == 0) = false := by
    rw [Bool.or_eq_false_iff]
    exact ⟨beq_eq_false_iff_ne.mpr (by omega), beq_eq_false_iff_ne.mpr (by omega)⟩
  have hl : a.length ≤ sizeLine := by
    refine Nat.le_trans ?_ h4
    exact Nat.le_mul_of_pos_right _ (by omega)
  have ln := sizeLine_eq
  refine PySem.P.mul_str (by rw [decide_eq_false (by omega), decide_eq_false (by omega)]; rfl) (fun _ _ => ?_) (fun _ _ => decide_eq_false (by omega)) ?_
  · intro z
    have : (a.length : Int) * n ≤ 2 ^ 63 - 1 := by
      have : ((a.length * n.toNat : Nat) : Int) ≤ (sizeLine : Int) := by omega
      rw [Int.natCast_mul, Int.toNat_of_nonneg (by omega)] at this
      omega
    have := Int.le_ediv_of_mul_le (by omega : (0 : Int) < n) this
    omega
  · rw [if_neg (by omega), if_neg (by rw [e]; decide)]
    exact ⟨by show (repS a n.toNat).length ≤ _; rw [repS_len, Nat.mul_comm]; exact h4, ⟨.str (repS a n.toNat), H, I.tok _, ⟨_, rfl⟩, q⟩⟩
def mulSD : F2
  | .str a, .int n, Q => 1 < n ∧ n < 2 ^ 20 ∧ 0 < a.length ∧ a.length * n.toNat ≤ sizeLine ∧ Q (.str (repS a n.toNat))
  | _, _, _ => False
theorem o_mulS {X : Cx} : OpD X (binaryOp .Mult) (oL mulSD) := by
  refine ⟨_, op_mulS, SO.of fun B μ m H v u dx dy Q QV M tx ty q k => ?_⟩
  unfold mulSD at q
  split at q
  · cases tx with
    | str h1 => cases ty with
      | int =>
        obtain ⟨q1, q2, q3, q4, q⟩ := q
        refine ⟨_, _, rfl, rfl, q1, q2, q3, q4, SO.pure M k (.str (okS_iff.mpr fun c hc => ?_)) q⟩
        rw [repS_tl] at hc
        obtain ⟨l, hl, hc⟩ := List.mem_flatten.mp hc
        rw [(List.mem_replicate.mp hl).2] at hc
        exact okS_iff.mp h1 c hc
  · exact q.elim
end Fs
set_option Elab.async false
set_option linter.all false
set_option maxRecDepth 100000
set_option maxHeartbeats 8000000
namespace Fs
open PySem PySem.Spec PyProof.Rows L2
/-- t looks the names up in the dict at D, one behind another, and goes on as r -/
def KwTo {α : Type} (D : Addr) : List (Str × Value) → Sem α → Sem α → Prop
  | [], t, r => t = r
  | q :: l, t, r => ∃ (β γ : Type) (k1 : Option Value → Sem β) (k2 : β → Sem γ) (k3 : γ → Sem α) (a : β), t = ((nsGet D q.1 >>= k1) >>= k2) >>= k3 ∧ k1 (some q.2) = pure a ∧ KwTo D l (k2 a >>= k3) r
theorem KwTo.one {α β γ : Type} {D : Addr} {q : Str × Value} {l : List (Str × Value)} {t r : Sem α} {k1 : Option Value → Sem β} {k2 : β → Sem γ} {k3 : γ → Sem α} {a : β} (h1 : t = ((nsGet D q.1 >>= k1) >>= k2) >>= k3) (h2 : k1 (some q.2) = pure a) (h3 : KwTo D l (k2 a >>= k3) r) : KwTo D (q :: l) t r := ⟨β, γ, k1, k2, k3, a, h1, h2, h3⟩
theorem KwTo.run {α : Type} {K : Frag} {M : Model} {A : Around} {E : Value → Shared → Prop} {s : Shared} {Q : α → Shared → Prop} {D : Addr} (X : K.In s.heap) : ∀ {l : List (Str × Value)} {t r : Sem α}, (∀ q ∈ l, PySem.W.nsIn K D q.1 = some (some q.2)) → KwTo D l t r → wpAny M A r Q E s → wpAny M A t Q E s
  | [], t, r, _, e, h => by
    rw [show t = r from e]
    exact h
  | q :: l, t, r, hl, e, h => by
    obtain ⟨β, γ, k1, k2, k3, a, rfl, e2, e3⟩ := e
    rw [bind_assoc]
    have l1 : PySem.W.Looks M s.heap (nsGet D q.1 >>= k1) a := (PySem.W.looks_nsIn X (hl q List.mem_cons_self)).andThen (PySem.W.Looks.of_pure e2)
    exact wpAny_bind (l1.here (KwTo.run X (fun p hp => hl p (List.mem_cons_of_mem _ hp)) e3 h))
/-- a function called with positional values and keywords ks -/
def FnRK (P : Program) (w : World) (K : Frag) (mg : Str → Option Value) (base : Heap) (k : Nat) (f : Addr) (ks : List Str) (sp : List V → List V → Hp → VK → Prop) : Prop :=
  ∀ (A : Around) (outer : List Env) (s : Shared) (H : Hp) (us ws : List Value) (vs zs : List V) (Q : VK), Room k A → Env0 P w K mg base A outer s H → Vals vs us → Vals zs ws → zs.length = ks.length → sp vs zs H Q →
    codeAny (model P w) A (.call (.ref f) ⟨us, ks.zip ws⟩) (CR CX0 outer P w H s Q E0) s
section
variable {P : Program} {w : World} {K : Frag} {mg : Str → Option Value} {base : Heap} {x qual : Str} {params : Arguments} {body : List Stmt} {scope : Scope} {kws : List (Str × V)} {f : Addr} {fd : FuncData} {N ps : List Str} {k : Nat}
theorem fnk_star {sp : List V → Hp → VK → Prop} (F : FunD K x qual params body scope [] kws f fd) (hk : kws ≠ []) (S : FnScope N ps scope) (ks : List Str) (ms : List (Str × V)) (hms : ∀ q ∈ ms, q ∈ kws) (g : {α : Type} → List α → List α → List α)
    (hrel : ∀ {zs mz : List V} {ws mv : List Value}, Vals zs ws → Vals mz mv → Vals (g zs mz) (g ws mv)) (hlen : ∀ (zs : List V), zs.length = ks.length → (g zs (ms.map (·.2))).length + 1 = ps.length)
    (hb : ∀ (D : Addr) (doc pm : Value) (an : Option Addr) (cdv ct : Value) (us ws mv : List Value), ws.length = ks.length → mv.length = ms.length →
      KwTo D ((ms.map (·.1)).zip mv) (bindArgs (PySem.W.fnOf x qual params body scope .none (.ref D) doc pm an cdv ct) ⟨us, ks.zip ws⟩) (newTuple us >>= fun t => pure (ps.zip (g ws mv ++ [t]))))
    (hbody : ∀ (cdv : Value) (A : Around) (outer : List Env) (s : Shared) (H : Hp) (vs : List V) (Q : VK), Room k (A.deeper (envOfC qual scope s.heap.objs.size f cdv)) → sp vs H Q →
      ∃ t, PSs (cxOf CX0 P w K mg base N qual scope f cdv A outer s H E0).nox body t ∧ t { nx := fun _ H' => Q .non H', rt := Q } (L2.start N vs) H) :
    FnRK P w K mg base (k + 1) f ks (fun vs zs H Q => vs.length ≤ sizeLine ∧ ∀ p, H p = none → sp (g zs (ms.map (·.2)) ++ [V.ref p]) (upd H p (.tup vs)) Q) := by
  intro A outer s H us ws vs zs Q hr e0 r rz lz hsp
  obtain ⟨hz, hq⟩ := hsp
  obtain ⟨oc, od, dV, kV, doc, pm, an, cdv, ct, osl, rfl, lk, hcd, hD, hK⟩ := F.ex
  rcases hD with ⟨_, rfl⟩ | ⟨e, _⟩
  case inr => exact absurd rfl e
  rcases hK with e | ⟨D, rfl, hkw⟩
  · exact absurd e hk
  obtain ⟨mv, hl, rk, hks⟩ := kwd_vals (ms := ms) fun q hm => hkw q (hms q hm)
  have hn : H s.heap.objs.size = none := e0.hok.fresh (Nat.le_refl _)
  have KX : K.In s.heap := e0.mod.kin.keeps fun b o e => (e0.bs b o e).1
  have hl2 : us.length ≤ sizeLine := by rw [← r.length]; exact hz
  refine StX.run_bnd lk hcd S hr e0 (G := fun xs H2 => ∃ p, H p = none ∧ xs = g zs (ms.map (·.2)) ++ [V.ref p] ∧ H2 = upd H p (.tup vs)) (fun A' Ex Q' h => ?_) fun s2 H2 xs ⟨p, hp, ex, eH⟩ hr' => ?_
  · refine KwTo.run KX hks (hb D doc pm an cdv ct us ws mv (by rw [← rz.length]; exact lz) hl) ?_
    refine wpAny_bind (wpAny_newTuple (wpAny_pure ?_) hl2)
    have new : ObjOk P w (upd H s.heap.objs.size (.tup vs)) (s.heap.push ({ cls := .type "tuple", data := .seq us.toArray } : Obj)) s.heap.objs.size (.tup vs) := ⟨hz, us, r, ⟨_, Heap.get?_push_size _ rfl, rfl, _, rfl⟩⟩
    have un := StX.un_laid (fs := frs outer) (s := s) (o := ({ cls := .type "tuple", data := .seq us.toArray } : Obj)) (u := .tup vs) hn
    exact h _ _ (g zs (ms.map (·.2)) ++ [V.ref s.heap.objs.size]) _ (StX.env0_laid e0 new) un rfl (fun e s' z => z.elim) ((hrel rz rk).append (.cons rfl .nil))
      (by rw [List.length_append]; exact hlen zs lz) ⟨_, hn, rfl, rfl⟩
  · subst ex eH
    obtain ⟨t, h1, h2⟩ := hbody cdv A outer s2 _ _ Q hr' (hq p hp)
    exact ⟨t, h1.nox, h2⟩
end
section
variable {X : Cx} {k : Nat} {f : Addr} {x : Str} {ks : List Str} {sp : List V → List V → Hp → VK → Prop} {p pos : Pos}
/-- f(e, .., k = v, ..) of such a function -/
def tCallK (m : Nat) (sp : List V → List V → Hp → VK → Prop) (t tk : TA) : TE := fun σ H Q => t σ H fun vs H1 => tk σ H1 fun zs H2 => zs.length = m ∧ sp vs zs H2 Q
theorem run_fnk {pins : List (Addr × Obj)} {σ : L2.St} {H : Hp} {s : Shared} {Q : VK} {us ws : List Value} {vs zs : List V} (F : FnRK X.prog X.w X.K X.mg X.base k f ks sp) (hr : Room k X.A) (I : Inv X pins σ H s) (r : Vals vs us) (rz : Vals zs ws) (l : zs.length = ks.length) (h : sp vs zs H Q) :
    wpAny (model X.prog X.w) X.A (call (.ref f) us (ks.zip ws)) (fun u s' => ∃ v H', Inv X pins σ H' s' ∧ RelV v u ∧ Q v H') X.xe s := by
  refine wpAny_call (codeAny_mono (F X.A X.stack s H us ws vs zs Q hr I.env0 r rz l h) ?_)
  intro z s2 hz
  cases z with
  | error e => exact (show False from hz).elim
  | ok fl =>
    cases fl with
    | ret u => exact I.after hz
    | next => exact (show False from hz).elim
    | brk => exact (show False from hz).elim
    | cont => exact (show False from hz).elim
variable {e : Expr} {es : List Expr} {kws : List Keyword} {t tk : TA}
/-- such a def of the module's top -/
structure GsK (P : Program) (w : World) (K : Frag) (mg : Str → Option Value) (base : Heap) (k : Nat) (x : Str) (ks : List Str) (sp : List V → List V → Hp → VK → Prop) : Prop where
  ex : ∃ f, mg x = some (.ref f) ∧ PySem.W.keepIn K (.ref f) = true ∧ FnRK P w K mg base k f ks sp
theorem pe_k (G : GsK X.prog X.w X.K X.mg X.base k x ks sp) (hr : Room k X.A) (ha : PA X (e :: es) t) (hkw : PK X kws tk) (hg : Gl X x := by rfl)
    (hall : (backToKw pos (keywordEach kws X.env)).all (·.1.isSome) = true := by rfl) (hks : (backToKw pos (keywordEach kws X.env)).filterMap (·.1) = ks := by rfl)
    (hdb : (x == ("__debug__" : Str)) = false := by decide) (he : starEach (e :: es) X.env = (false, eval e X.env) :: starEach es X.env := by rfl)
    (hpl : ((backTo pos (starEach (e :: es) X.env)).any (·.1) || (backToKw pos (keywordEach kws X.env)).any (·.1.isNone)) = false := by rfl) : PE X (.Call (.Name x p) (e :: es) kws pos) (tCallK ks.length sp t tk) := by
  obtain ⟨f, hm, hk, F⟩ := G.ex
  constructor
  intro pins s σ H Q I h
  refine wpAny_Call_Name_kw (ld_glob I hg hm ?_ hdb)
  refine PySem.W.callWith_KW (h₀ := X.base) I.ok.mod.kin hk hall (thn (ha.run pos pins s σ H _ I h) fun us s1 ⟨vs, H1, I1, r, q⟩ => ?_) hpl he
  refine thn (hkw.run pos pins s1 σ H1 _ I1 q) fun ws s2 ⟨zs, H2, I2, rz, l, q2⟩ => ⟨I2.kIn, ?_⟩
  rw [hks]
  exact run_fnk F hr I2 r rz l q2
theorem pe_kp (G : GsK X.prog X.w X.K X.mg X.base k x [] sp) (hr : Room k X.A) (ha : PA X (e :: es) t) (hg : Gl X x := by rfl) (hdb : (x == ("__debug__" : Str)) = false := by decide)
    (he : starEach (e :: es) X.env = (false, eval e X.env) :: starEach es X.env := by rfl) (hpl : (backTo pos (starEach es X.env)).any (·.1) = false := by rfl) : PE X (.Call (.Name x p) (e :: es) [] pos) (fun σ H Q => t σ H fun vs H1 => sp vs [] H1 Q) := by
  obtain ⟨f, hm, hk, F⟩ := G.ex
  constructor
  intro pins s σ H Q I h
  refine wpAny_Call_Name_kw (ld_glob I hg hm ?_ hdb)
  refine PySem.W.callWith_K (h₀ := X.base) I.ok.mod.kin hk (thn (ha.run pos pins s σ H _ I h) fun us s1 ⟨vs, H1, I1, r, q⟩ => ⟨I1.kIn, ?_⟩) he hpl
  exact run_fnk (ws := []) F hr I1 r .nil rfl q
theorem pe_k0 (G : GsK X.prog X.w X.K X.mg X.base k x [] sp) (hr : Room k X.A) (hg : Gl X x := by rfl) (hdb : (x == ("__debug__" : Str)) = false := by decide) : PE X (.Call (.Name x p) [] [] pos) (fun _ H Q => sp [] [] H Q) := by
  obtain ⟨f, hm, hk, F⟩ := G.ex
  constructor
  intro pins s σ H Q I h
  exact wpAny_Call_Name_kw (ld_glob I hg hm (PySem.W.callWith_K0 I.kIn hk (run_fnk (us := []) (ws := []) F hr I .nil .nil rfl h)) hdb)
end
end Fs
set_option Elab.async false
set_option linter.all false
set_option maxRecDepth 100000
set_option maxHeartbeats 8000000
namespace Fs
open PySem PySem.Spec PyProof.Rows L2
/-! ### constants -/
mutual
def conU (K : Frag) : Nat → Value → D → Bool
  | _, .none, .non => true
  | _, .bool b, .bl c => b == c
  | _, .int i _, .int j => decide (i = j)
  | _, .str x _, .str y => decide (x = y) && okS y
  | n + 1, .ref a, .tup ds => (match K.lookup a with
    | some ⟨.type c, _, .seq its _, _⟩ => decide (c = "tuple") && (decide (its.size ≤ sizeLine) && conUs K n its.toList ds)
    | _ => false)
  | _, _, _ => false
def conUs (K : Frag) : Nat → List Value → List D → Bool
  | _, [], [] => true
  | n, u :: us, d :: ds => conU K n u d && conUs K n us ds
  | _, _, _ => false
end
mutual
theorem conU_ok {K : Frag} : ∀ {n : Nat} {d : D} {u : Value}, conU K n u d = true → ∃ v, RelV v u ∧ ∀ B, Rv K B v d
  | n, .non, u, h => by
    cases u <;> first | exact ⟨.non, rfl, fun _ => .non⟩ | (exfalso; cases n <;> cases h)
  | n, .bl c, u, h => by
    cases u <;> first
      | (have h : (_ == c) = true := h
         exact ⟨.bl c, by rw [eq_of_beq h]; rfl, fun _ => .bl c⟩)
      | (exfalso; cases n <;> cases h)
  | n, .int j, u, h => by
    cases u <;> first
      | (have h := of_decide_eq_true (show decide (_ = j) = true from h)
         exact ⟨.int j, by rw [h]; exact ⟨_, rfl⟩, fun _ => .int j⟩)
      | (exfalso; cases n <;> cases h)
  | n, .str y, u, h => by
    cases u <;> first
      | (have h := Bool.and_eq_true_iff.mp (show (decide (_ = y) && okS y) = true from h)
         exact ⟨.str y, by rw [of_decide_eq_true h.1]; exact ⟨_, rfl⟩, fun _ => .str h.2⟩)
      | (exfalso; cases n <;> cases h)
  | n + 1, .tup ds, u, h => by
    cases u with
    | ref a =>
      have h : (match K.lookup a with
        | some ⟨.type c, _, .seq its _, _⟩ => decide (c = "tuple") && (decide (its.size ≤ sizeLine) && conUs K n its.toList ds)
        | _ => false) = true := h
      cases q : K.lookup a with
      | none =>
        rw [q] at h
        cases h
      | some o =>
        obtain ⟨oc, od, dt, osl⟩ := o
        rw [q] at h
        cases oc with
        | type c =>
          cases dt with
          | seq its k =>
            have h := Bool.and_eq_true_iff.mp (show (decide (c = "tuple") && (decide (its.size ≤ sizeLine) && conUs K n its.toList ds)) = true from h)
            have h2 := Bool.and_eq_true_iff.mp h.2
            obtain ⟨vs, r, hv⟩ := conUs_ok h2.2
            exact ⟨.ref a, rfl, fun B => .tup (.inr ⟨_, its, k, q, congrArg Value.type (of_decide_eq_true h.1), rfl, of_decide_eq_true h2.1, r⟩) (hv B)⟩
          | _ => cases h
        | _ => cases dt <;> cases h
    | _ => cases h
  | 0, .tup ds, u, h => by cases u <;> cases h
  | n, .ty _, u, h => by cases u <;> cases n <;> cases h
  | n, .fn _, u, h => by cases u <;> cases n <;> cases h
  | n, .lst _, u, h => by cases u <;> cases n <;> cases h
  | n, .dic _, u, h => by cases u <;> cases n <;> cases h
  | n, .obj _ _, u, h => by cases u <;> cases n <;> cases h
  | n, .exc _ _, u, h => by cases u <;> cases n <;> cases h
theorem conUs_ok {K : Frag} : ∀ {n : Nat} {ds : List D} {us : List Value}, conUs K n us ds = true → ∃ vs, Vals vs us ∧ ∀ B, RvL K B vs ds
  | _, [], [], _ => ⟨[], .nil, fun _ => .nil⟩
  | _, [], _ :: _, h => by cases h
  | _, _ :: _, [], h => by cases h
  | n, d :: ds, u :: us, h => by
    have h := Bool.and_eq_true_iff.mp (show (conU K n u d && conUs K n us ds) = true from h)
    obtain ⟨v, r, hv⟩ := conU_ok h.1
    obtain ⟨vs, rs, hvs⟩ := conUs_ok h.2
    exact ⟨v :: vs, .cons r rs, fun B => .cons (hv B) (hvs B)⟩
end
section
variable {X : Cx} {E : XK}
theorem d_con {n : Nat} {x : Str} {d : D} {u : Value} {pos : Pos} (hm : X.mg x = some u) (h : conU X.K n u d = true) (hg : Gl X x := by rfl) (hd : (x == ("__debug__" : Str)) = false := by decide) : DE X E (.Name x pos) (tK d) := by
  obtain ⟨v, r, hv⟩ := conU_ok h
  exact d_glob hm r hv hg hd
/-! ### starred items -/
def itemsOf : D → (List D → Prop) → Prop
  | .lst ds, Q => Q ds
  | .tup ds, Q => Q ds
  | _, _ => False
def tStr (te : DTE) (ta : DTA) : DTA := fun en m Q Qx => te en m (fun x m1 => look x m1 fun d => itemsOf d fun ds => ta en m1 (fun xs m2 => Q (ds.map .v ++ xs) m2) Qx) Qx
theorem RvL.ws' {K : Frag} {B : Hp} {μ : List Addr} {vs us : List V} {ds : List D} {xs : List W} (h : RvL K B vs ds) (r : RWs K B μ us xs) : RWs K B μ (vs ++ us) (ds.map .v ++ xs) := by
  induction vs generalizing ds with
  | nil => cases h; exact r
  | cons v vs ih => cases h with
    | cons a t => exact .cons (RW.d a) (ih t)
theorem da_star {e : Expr} {p : Pos} {es : List Expr} {te : DTE} {ta : DTA} (he : DE X E e te) (ha : DA X E es ta) (hs : starEach (.Starred e p :: es) X.env = (true, eval e X.env) :: starEach es X.env := by rfl) : DA X E (.Starred e p :: es) (tStr te ta) := by
  obtain ⟨t1, p1, k1⟩ := he.ex
  obtain ⟨t2, p2, k2⟩ := ha.ex
  refine ⟨_, StX.pa_star p1 p2 hs, fun B μ en m σ H Q Qx QV R hx T k => ?_⟩
  refine k1 B μ en m σ H _ Qx _ R hx T fun B1 μ1 m1 H1 x v s1 R1 r1 T1 => ?_
  obtain ⟨d, td, q2⟩ := look_ok R1.mem r1 T1
  unfold itemsOf at q2
  split at q2
  · obtain ⟨a, vs, rfl, hp, r⟩ := td
    refine ⟨a, vs, rfl, .inr (.inl (.inl hp)), ?_⟩
    refine k2 B1 μ1 en m1 σ H1 _ Qx _ R1 (hx.step s1 R1.mem R.mem.le) q2 fun B2 μ2 m2 H2 xs us s2 R2 r2 T2 => ?_
    exact k B2 μ2 m2 H2 _ _ (s1.trans R1.mem s2 R.mem.le) R2 ((r.to s2.same).ws' r2) T2
  · obtain ⟨a, vs, rfl, hp, r⟩ := td
    refine ⟨a, vs, rfl, .inl (R1.mem.le.tup hp), ?_⟩
    refine k2 B1 μ1 en m1 σ H1 _ Qx _ R1 (hx.step s1 R1.mem R.mem.le) q2 fun B2 μ2 m2 H2 xs us s2 R2 r2 T2 => ?_
    exact k B2 μ2 m2 H2 _ _ (s1.trans R1.mem s2 R.mem.le) R2 ((r.to s2.same).ws' r2) T2
  · exact q2.elim
end
end Fs
set_option Elab.async false
set_option linter.all false
set_option maxRecDepth 100000
set_option maxHeartbeats 8000000
namespace Fs
open PySem PySem.Spec PyProof.Rows L2
theorem len1d {α : Type} {zs : List α} (h : zs.length = 1) : ∃ a, zs = [a] := by
  match zs, h with
  | [a], _ => exact ⟨a, rfl⟩
theorem cutD_to (xs : List D) (k : Nat) : cutD xs none (some (k : Int)) = xs.take k := by
  unfold cutD
  rw [HT.sIx_none, HT.sIx_nat, List.drop_zero, Nat.sub_zero]
  by_cases h : k ≤ xs.length
  · rw [Nat.min_eq_left h]
  · rw [Nat.min_eq_right (by omega), List.take_of_length_le (Nat.le_refl _), List.take_of_length_le (by omega)]
theorem cutD_from (xs : List D) (k : Nat) : cutD xs (some (k : Int)) none = xs.drop k := by
  unfold cutD
  rw [HT.sIx_none, HT.sIx_nat]
  by_cases h : k ≤ xs.length
  · rw [Nat.min_eq_left h, List.take_of_length_le (by rw [List.length_drop]; omega)]
  · rw [Nat.min_eq_right (by omega), List.drop_of_length_le (Nat.le_refl _), List.drop_of_length_le (by omega)]
    simp
/-- what a call of such a def asks: g puts the keywords' values and the defaults in the parameters' order, the tuple of the others comes last -/
def liftS (K : Frag) (g : List W → List W) (sp : SpD) : List V → List V → Hp → VK → Prop := fun vs zs H Q => vs.length ≤ sizeLine ∧ ∃ B μ m ds ws Qd, MemOk K B μ m H ∧ RvL K B vs ds ∧ RWs K B μ zs ws ∧ sp (g ws ++ [.v (.tup ds)]) m Qd noX ∧
  ∀ B' μ' m' H' x v, Stp B μ m H B' μ' m' H' → MemOk K B' μ' m' H' → RW K B' μ' v x → Qd x m' → Q v H'
theorem RWs.append {K : Frag} {B : Hp} {μ : List Addr} {vs us : List V} {xs ys : List W} (a : RWs K B μ vs xs) (b : RWs K B μ us ys) : RWs K B μ (vs ++ us) (xs ++ ys) := by
  induction a with
  | nil => exact b
  | cons h _ ih => exact .cons h ih
theorem oDs_star : ∀ {ds : List D} {xs : List W} {Q : List D → Prop}, (oDs xs fun es => Q (ds ++ es)) → oDs (ds.map .v ++ xs) Q
  | [], _, _, h => h
  | d :: ds, xs, Q, h => oDs_star (ds := ds) (Q := fun es => Q (d :: es)) h
theorem liftS_to {K : Frag} {gW : List W → List W} {gV : List V → List V} {sp : SpD} {vs zs : List V} {H : Hp} {Q : VK} (hg : ∀ B μ zs ws, RWs K B μ zs ws → RWs K B μ (gV zs) (gW ws)) (h : liftS K gW sp vs zs H Q) : vs.length ≤ sizeLine ∧ ∀ p, H p = none → lift K sp (gV zs ++ [V.ref p]) (upd H p (.tup vs)) Q E0 := by
  obtain ⟨h1, B, μ, m, ds, ws, Qd, M, r, rz, hs, hq⟩ := h
  refine ⟨h1, fun p np => ?_⟩
  have sl := Stp.laid M np (o := .tup vs)
  refine ⟨_, μ, m, _, Qd, noX, M.laid np, RWs.append (hg _ _ _ _ (rz.to sl.same (List.prefix_refl _))) (.cons (RW.d (.tup (.inl upd_same) (r.to sl.same))) .nil), hs, ExOf.no, fun B' μ' m' H' x v s M' rr q => hq B' μ' m' H' x v (sl.trans (M.laid np) s M.le) M' rr q⟩
section
variable {P : Program} {w : World} {K : Frag} {mg : Str → Option Value} {base : Heap} {x : Str} {st : Stmt} {kwd : List (Str × V)} {f : Addr} {fd : FuncData} {N ps : List Str} {k : Nat} {sp : SpD}
theorem fnk_d (F : FunD K x x (defArgs st) (defBody st) (defScope st) [] kwd f fd) (hk : kwd ≠ []) (S : FnScope N ps (defScope st)) (ks : List Str) (ms : List (Str × V)) (hms : ∀ q ∈ ms, q ∈ kwd) (g : {α : Type} → List α → List α → List α) (gW : List W → List W)
    (hrel : ∀ {zs mz : List V} {ws mv : List Value}, Vals zs ws → Vals mz mv → Vals (g zs mz) (g ws mv)) (hlen : ∀ (zs : List V), zs.length = ks.length → (g zs (ms.map (·.2))).length + 1 = ps.length) (hg : ∀ B μ zs ws, RWs K B μ zs ws → RWs K B μ (g zs (ms.map (·.2))) (gW ws))
    (hb : ∀ (D : Addr) (doc pm : Value) (an : Option Addr) (cdv ct : Value) (us ws mv : List Value), ws.length = ks.length → mv.length = ms.length →
      KwTo D ((ms.map (·.1)).zip mv) (bindArgs (PySem.W.fnOf x x (defArgs st) (defBody st) (defScope st) .none (.ref D) doc pm an cdv ct) ⟨us, ks.zip ws⟩) (newTuple us >>= fun t => pure (ps.zip (g ws mv ++ [t]))))
    (hbody : ∀ (f : Addr) (cdv : Value) (A : Around) (outer : List Env) (s : Shared) (H : Hp), Room k (A.deeper (envOfC x (defScope st) s.heap.objs.size f cdv)) →
      ∃ T, DSs (cxOf CX0 P w K mg base N x (defScope st) f cdv A outer s H E0).nox E0 (defBody st) T ∧ ∀ ws m Qd Qx, sp ws m Qd Qx → T (startE N ws) m (defN m Qd Qx)) : FnRK P w K mg base (k + 1) f ks (liftS K gW sp) := by
  have z := fnk_star (sp := fun vs H Q => lift K sp vs H Q E0) F hk S ks ms hms g hrel hlen hb (fun cdv A outer s H vs Q hr h => by
    obtain ⟨T, hd, hT⟩ := hbody f cdv A outer s H hr
    obtain ⟨t, hp, hs⟩ := hd.ex
    exact ⟨t, hp, hs.def_ hT h⟩)
  intro A outer s H us ws vs zs Q hr e0 r rz l q
  exact z A outer s H us ws vs zs Q hr e0 r rz l (liftS_to (gV := fun zs => g zs (ms.map (·.2))) hg q)
/-- .. without keyword-only parameters -/
theorem fnk_d0 (F : FunD K x x (defArgs st) (defBody st) (defScope st) [] [] f fd) (S : FnScope N ps (defScope st)) (hlen : ps.length = 1)
    (hb : ∀ (kV doc pm : Value) (an : Option Addr) (cdv ct : Value) (us : List Value), bindArgs (PySem.W.fnOf x x (defArgs st) (defBody st) (defScope st) .none kV doc pm an cdv ct) ⟨us, []⟩ = (newTuple us >>= fun t => pure (ps.zip [t])))
    (hbody : ∀ (f : Addr) (cdv : Value) (A : Around) (outer : List Env) (s : Shared) (H : Hp), Room k (A.deeper (envOfC x (defScope st) s.heap.objs.size f cdv)) →
      ∃ T, DSs (cxOf CX0 P w K mg base N x (defScope st) f cdv A outer s H E0).nox E0 (defBody st) T ∧ ∀ ws m Qd Qx, sp ws m Qd Qx → T (startE N ws) m (defN m Qd Qx)) : FnRK P w K mg base (k + 1) f [] (liftS K (fun ws => ws) sp) := by
  intro A outer s H us ws vs zs Q hr e0 r rz lz hsp
  obtain ⟨hz, hq⟩ := liftS_to (gV := fun zs => zs) (fun _ _ _ _ h => h) hsp
  obtain ⟨oc, od, dV, kV, doc, pm, an, cdv, ct, osl, rfl, lk, hcd, hD, hK⟩ := F.ex
  rcases hD with ⟨_, rfl⟩ | ⟨e, _⟩
  case inr => exact absurd rfl e
  have hzs : zs = [] := List.length_eq_zero_iff.mp lz
  subst hzs
  cases rz
  have hn : H s.heap.objs.size = none := e0.hok.fresh (Nat.le_refl _)
  have hl2 : us.length ≤ sizeLine := by rw [← r.length]; exact hz
  refine StX.run_bnd lk hcd S hr e0 (G := fun xs H2 => ∃ p, H p = none ∧ xs = [V.ref p] ∧ H2 = upd H p (.tup vs)) (fun A' Ex Q' h => ?_) fun s2 H2 xs ⟨p, hp, ex, eH⟩ hr' => ?_
  · show wpAny _ _ (bindArgs _ ⟨us, []⟩) _ _ _
    rw [hb]
    refine wpAny_bind (wpAny_newTuple (wpAny_pure ?_) hl2)
    have new : ObjOk P w (upd H s.heap.objs.size (.tup vs)) (s.heap.push ({ cls := .type "tuple", data := .seq us.toArray } : Obj)) s.heap.objs.size (.tup vs) := ⟨hz, us, r, ⟨_, Heap.get?_push_size _ rfl, rfl, _, rfl⟩⟩
    have un := StX.un_laid (fs := frs outer) (s := s) (o := ({ cls := .type "tuple", data := .seq us.toArray } : Obj)) (u := .tup vs) hn
    exact h _ _ [V.ref s.heap.objs.size] _ (StX.env0_laid e0 new) un rfl (fun e s' z => z.elim) (.cons rfl .nil) hlen.symm ⟨_, hn, rfl, rfl⟩
  · subst ex eH
    obtain ⟨T, hd, hT⟩ := hbody f cdv A outer s2 (upd H p (.tup vs)) hr'
    obtain ⟨t, hp', hs⟩ := hd.ex
    exact ⟨t, hp'.nox, hs.def_ hT (hq p hp)⟩
end
section
variable {X : Cx} {E : XK} {k : Nat} {x : Str} {ks : List Str} {sp : SpD} {gW : List W → List W} {e : Expr} {es : List Expr} {kws : List Keyword} {ta tk : DTA} {p pos : Pos}
def tCalS (j : Nat) (gW : List W → List W) (sp : SpD) (ta tk : DTA) : DTE := fun en m Q Qx => ta en m (fun xs m1 => tk en m1 (fun zs m2 => zs.length = j ∧ oDs xs fun ds => ds.length ≤ sizeLine ∧ sp (gW zs ++ [.v (.tup ds)]) m2 Q noX) Qx) Qx
theorem RvL.of_ws {K : Frag} {B : Hp} {μ : List Addr} : ∀ {vs : List V} {xs : List W} {Q : List D → Prop}, RWs K B μ vs xs → oDs xs Q → ∃ ds, RvL K B vs ds ∧ Q ds := fun r q => oDs_ok r q
theorem SE.calS {j : Nat} {t t2 : TA} (k1 : SA X E t ta) (k2 : SA X E t2 tk) : SE X E (tCallK j (liftS X.K gW sp) t t2) (tCalS j gW sp ta tk) := by
  intro B μ en m σ H Q Qx QV R hx T kk
  refine k1 B μ en m σ H _ Qx _ R hx T fun B1 μ1 m1 H1 xs vs s1 R1 r1 T1 => ?_
  refine k2 B1 μ1 en m1 σ H1 _ Qx _ R1 (hx.step s1 R1.mem R.mem.le) T1 fun B2 μ2 m2 H2 zs us s2 R2 r2 ⟨l2, T2⟩ => ?_
  have st := s1.trans R1.mem s2 R.mem.le
  obtain ⟨ds, rl, hz, T3⟩ := oDs_ok r1 T2
  refine ⟨by rw [r2.len]; exact l2, by rw [rl.len]; exact hz, B2, μ2, m2, ds, zs, Q, R2.mem, rl.to s2.same, r2, T3, fun B' μ' m' H' x v s M' r q => ?_⟩
  have st3 := st.trans R2.mem s R.mem.le
  exact kk B' μ' m' H' x v st3 (R.stp st3 M') r q
theorem d_callS (G : GsK X.prog X.w X.K X.mg X.base k x ks (liftS X.K gW sp)) (hr : Room k X.A) (ha : DA X E (e :: es) ta) (hkw : DK X E kws tk) (hg : Gl X x := by rfl)
    (hall : (backToKw pos (keywordEach kws X.env)).all (·.1.isSome) = true := by rfl) (hks : (backToKw pos (keywordEach kws X.env)).filterMap (·.1) = ks := by rfl)
    (hdb : (x == ("__debug__" : Str)) = false := by decide) (he : starEach (e :: es) X.env = (false, eval e X.env) :: starEach es X.env := by rfl)
    (hpl : ((backTo pos (starEach (e :: es) X.env)).any (·.1) || (backToKw pos (keywordEach kws X.env)).any (·.1.isNone)) = false := by rfl) : DE X E (.Call (.Name x p) (e :: es) kws pos) (tCalS ks.length gW sp ta tk) := by
  obtain ⟨t1, p1, k1⟩ := ha.ex
  obtain ⟨t2, p2, k2⟩ := hkw.ex
  exact ⟨_, pe_k G hr p1 p2 hg hall hks hdb he hpl, SE.calS k1 k2⟩
theorem d_callSp (G : GsK X.prog X.w X.K X.mg X.base k x [] (liftS X.K gW sp)) (hr : Room k X.A) (ha : DA X E (e :: es) ta) (hg : Gl X x := by rfl) (hdb : (x == ("__debug__" : Str)) = false := by decide)
    (he : starEach (e :: es) X.env = (false, eval e X.env) :: starEach es X.env := by rfl) (hpl : (backTo pos (starEach es X.env)).any (·.1) = false := by rfl) : DE X E (.Call (.Name x p) (e :: es) [] pos) (tCalS 0 gW sp ta tN) := by
  obtain ⟨t1, p1, k1⟩ := ha.ex
  refine ⟨_, pe_kp G hr p1 hg hdb he hpl, fun B μ en m σ H Q Qx QV R hx T kk => ?_⟩
  refine k1 B μ en m σ H _ Qx _ R hx T fun B1 μ1 m1 H1 xs vs s1 R1 r1 ⟨_, T2⟩ => ?_
  obtain ⟨ds, rl, hz, T3⟩ := oDs_ok r1 T2
  refine ⟨by rw [rl.len]; exact hz, B1, μ1, m1, ds, [], Q, R1.mem, rl, .nil, T3, fun B' μ' m' H' x v s M' r q => ?_⟩
  have st3 := s1.trans R1.mem s R.mem.le
  exact kk B' μ' m' H' x v st3 (R.stp st3 M') r q
theorem d_callS0 (G : GsK X.prog X.w X.K X.mg X.base k x [] (liftS X.K gW sp)) (hr : Room k X.A) (hg : Gl X x := by rfl) (hdb : (x == ("__debug__" : Str)) = false := by decide) : DE X E (.Call (.Name x p) [] [] pos) (tCalS 0 gW sp tN tN) := by
  refine ⟨_, pe_k0 G hr hg hdb, fun B μ en m σ H Q Qx QV R hx T kk => ?_⟩
  obtain ⟨_, hz, T3⟩ := T
  exact ⟨hz, B, μ, m, [], [], Q, R.mem, .nil, .nil, T3, fun B' μ' m' H' x v s M' r q => kk B' μ' m' H' x v s (R.stp s M') r q⟩
end
end Fs
set_option Elab.async false
set_option linter.all false
set_option maxRecDepth 100000
set_option maxHeartbeats 8000000
namespace Fs
open PySem PySem.Spec PyProof.Rows L2
section
variable {X : Cx} {E : XK}
def gLs (n : Nat) (t : DTGs) : DTG := fun x en m Q => match x with
  | .v (.lst ds) => ds.length = n ∧ t (ds.map .v) en m Q
  | _ => False
theorem dg_lst {es : List Expr} {k : Nat} {t : DTGs} {n : Nat} {is : List Nat} {pos : Pos} (hc : X.calm = true) (h : DGs X es is t) (hn : (assignEach es X.env).length = n := by rfl) (hst : (assignEach es X.env).findIdx? (·.1) = none := by rfl) : DG X (.Tuple es k pos) is (gLs n t) := by
  obtain ⟨t1, p1, k1⟩ := h.ex
  refine ⟨_, pg_lst hc p1 hn hst, fun B μ en m σ H x v Q QV R r T k => ?_⟩
  unfold gLs at T
  split at T
  · rename_i ds
    obtain ⟨hl, T⟩ := T
    cases r with
    | lst hs hr => exact ⟨_, _, rfl, .inl (.inl (R.mem.le _ _ hs)), by rw [hr.len]; exact hl, k1 B μ en m σ H _ _ _ _ R hr.ws T k⟩
  · exact T.elim
def aIns : DMt := fun x xs m Q => match x, xs with
  | .loc n, [.v (.int i), .v d] => lstAt m n fun ds => ds.length < sizeLine ∧ 0 ≤ i ∧ i < 2 ^ 63 ∧ Q .non (m.set n (.lst (ds.take i.toNat ++ [d] ++ ds.drop i.toNat)))
  | _, _ => False
theorem aIns_ok : SM X (fun x vs H Q => ∃ (l : Addr) (xs : List V) (i : Int) (y : V), x = .ref l ∧ vs = [.int i, y] ∧ H l = some (.lst xs) ∧ xs.length < sizeLine ∧ 0 ≤ i ∧ i < 2 ^ 63 ∧
    Q .non (upd H l (.lst (xs.take i.toNat ++ [y] ++ xs.drop i.toNat)))) aIns := by
  intro B μ m H x xs v vs Q QV M r rs q k
  unfold aIns at q
  split at q
  · rename_i n i d
    obtain ⟨ds, hm, q⟩ := lstAt_ok q
    obtain ⟨a, rfl, ha⟩ := r
    obtain ⟨us, hv, rl⟩ := M.at_ n a _ ha hm rfl
    cases rs with
    | cons ri r2 =>
      cases (show Rv X.K B _ (.int i) from ri)
      cases r2 with
      | cons rd rn =>
        cases rn
        rename_i vd
        have kp : ∀ b o, b ≠ a → H b = some o → upd H a (.lst (us.take i.toNat ++ [vd] ++ us.drop i.toNat)) b = some o := fun b o c e => by rw [upd_ne c]; exact e
        refine ⟨a, us, i, vd, rfl, rfl, hv, by rw [rl.len]; exact q.1, q.2.1, q.2.2.1, ?_⟩
        have new : OO X.K B μ (upd H a (.lst (us.take i.toNat ++ [vd] ++ us.drop i.toNat))) a (.lst (ds.take i.toNat ++ [d] ++ ds.drop i.toNat)) := ⟨_, upd_same, ((rl.take _).append (.one rd)).append (rl.drop _)⟩
        exact k B _ _ .non _ (Stp.store ha hm rfl kp) (M.store ha hm rfl rfl kp new) .non q.2.2.2
  · exact q.elim
theorem d_insert {o e e2 : Expr} {to : DTE} {ta : DTA} {apos pos : Pos} (ho : DE X E o to) (ha : DA X E [e, e2] ta) (hb : attributeBase o "insert" X.env (eval o X.env) = eval o X.env := by rfl)
    (hfew : ((backTo pos (starEach [e, e2] X.env)).all (fun x => !x.1) && (backToKw pos (keywordEach [] X.env)).all (fun x => x.1.isSome)
      && decide ([e, e2].length + ([] : List Keyword).length + (if ([] : List Keyword).isEmpty then 0 else 1) < 30)) = true := by rfl)
    (hline : (apos.endLine == pos.line) = true := by rfl) (hs : starEach [e, e2] X.env = (false, eval e X.env) :: starEach [e2] X.env := by rfl) (hplain : (backTo pos (starEach [e2] X.env)).any (·.1) = false := by rfl) :
    DE X E (.Call (.Attribute o "insert" apos) [e, e2] [] pos) (tMe isOl aIns to ta) := d_bm PySem.F.plainAttrs_list PySem.F.slot_list_insert PySem.F.type_list_insert L2.mt_insert aIns_ok isOl_ok ho ha hb hfew hline hs hplain
end
section
variable {X : Cx} {E : XK} {a b : Expr} {ta tb : DTE} {pos : Pos}
def catD : D → D → (List D → Prop) → Prop
  | .lst p, .lst q, Q => p.length + q.length ≤ sizeLine ∧ Q (p ++ q)
  | _, _, _ => False
/-- a + b, lists: an own list -/
def tAddO (ta tb : DTE) : DTE := fun en m Q Qx => ta en m (fun x m1 => tb en m1 (fun y m2 => look x m2 fun dx => look y m2 fun dy => catD dx dy fun ds => Q (.loc m2.length) (m2 ++ [.lst ds])) Qx) Qx
theorem d_addO (ha : DE X E a ta) (hb : DE X E b tb) : DE X E (.BinOp a .Add b pos) (tAddO ta tb) := by
  obtain ⟨t1, p1, k1⟩ := ha.ex
  obtain ⟨t2, p2, k2⟩ := hb.ex
  refine ⟨_, pe_op op_cat p1 p2, fun B μ en m σ H Q Qx QV R hx T k => ?_⟩
  refine k1 B μ en m σ H _ Qx _ R hx T fun B0 μ0 m0 H0 x v s0 R0 r0 q0 => ?_
  refine k2 B0 μ0 en m0 σ H0 _ Qx _ R0 (hx.step s0 R0.mem R.mem.le) q0 fun B1 μ1 m1 H1 y u s1' R1 r1 q1 => ?_
  have s1 := s0.trans R0.mem s1' R.mem.le
  obtain ⟨dx, tx, q2⟩ := look_ok R1.mem (r0.to s1'.same s1'.pre) q1
  obtain ⟨dy, ty, q⟩ := look_ok R1.mem r1 q2
  unfold catD at q
  split at q
  · rename_i ds es
    obtain ⟨ax, vs, rfl, h1, rl1⟩ := tx
    obtain ⟨ay, us, rfl, h2, rl2⟩ := ty
    have rl := rl1.append rl2
    refine ⟨ax, ay, vs, us, rfl, rfl, h1, h2, by rw [rl1.len, rl2.len]; exact q.1, fun p np => ?_⟩
    have kp : ∀ a o, a ≠ p → H1 a = some o → upd H1 p (.lst (vs ++ us)) a = some o := fun a o c e => by rw [upd_ne c]; exact e
    have sl := Stp.push R1.mem np (m := .lst (ds ++ es)) kp
    have st := s1.trans R1.mem sl R.mem.le
    have mo := R1.mem.push np (m := .lst (ds ++ es)) (fun a o e => kp a o (ne_of_none (R1.mem.le a o e) np) (R1.mem.le a o e)) kp ⟨vs ++ us, upd_same, rl⟩
    refine k _ _ _ _ (.loc m1.length) _ st (R.stp st mo) ⟨p, rfl, ?_⟩ q.2
    rw [← R1.mem.len]
    simp
  · exact q.elim
end
theorem empty_app (z : Str) : Str.empty ++ z = z := by
  cases z with
  | mk a =>
    show (⟨#[] ++ a⟩ : Str) = ⟨a⟩
    simp
theorem app_assoc (x y z : Str) : (x ++ y) ++ z = x ++ (y ++ z) := by
  cases x with | mk a => cases y with | mk b => cases z with | mk c =>
    show (⟨(a ++ b) ++ c⟩ : Str) = ⟨a ++ (b ++ c)⟩
    rw [Array.append_assoc]
end Fs
set_option Elab.async false
set_option linter.all false
set_option maxRecDepth 100000
set_option maxHeartbeats 8000000
namespace Fs
open PySem PySem.Spec PyProof.Rows L2
section
variable {X : Cx} {E : XK} {o e : Expr} {to : DTE} {ta : DTA} {apos cpos : Pos}
def ssF (f : Str → Str → D) (a : Str) : D → (D → Prop) → Prop
  | .str b, Q => Q (f a b)
  | _, _ => False
theorem d_startswith (ho : DE X E o to) (ha : DA X E [e] ta)
    (hbase : attributeBase o "startswith" X.env (eval o X.env) = eval o X.env := by rfl)
    (hfew : ((backTo cpos (starEach [e] X.env)).all (fun x => !x.1) && (backToKw cpos (keywordEach [] X.env)).all (fun x => x.1.isSome)
      && decide ([e].length + ([] : List Keyword).length + (if ([] : List Keyword).isEmpty then 0 else 1) < 30)) = true := by rfl)
    (hline : (apos.endLine == cpos.line) = true := by rfl) (hs : starEach [e] X.env = (false, eval e X.env) :: starEach [] X.env := by rfl) (hplain : (backTo cpos (starEach [] X.env)).any (·.1) = false := by rfl) :
    DE X E (.Call (.Attribute o "startswith" apos) [e] [] cpos) (tMe isSt (m1 (ssF fun a b => .bl (Txt.startswith a b))) to ta) :=
  d_bm PySem.F.plainAttrs_str PySem.F.slot_str_startswith PySem.F.type_str_startswith mt_startswith (SM.of1 fun B μ m H a v d Q QV M ha td q k => by
    cases d with
    | str b =>
      cases td
      exact ⟨a, b, rfl, rfl, SO.pure M k (.bl _) q⟩
    | _ => exact q.elim) isSt_ok ho ha hbase hfew hline hs hplain
theorem d_endswith (ho : DE X E o to) (ha : DA X E [e] ta)
    (hbase : attributeBase o "endswith" X.env (eval o X.env) = eval o X.env := by rfl)
    (hfew : ((backTo cpos (starEach [e] X.env)).all (fun x => !x.1) && (backToKw cpos (keywordEach [] X.env)).all (fun x => x.1.isSome)
      && decide ([e].length + ([] : List Keyword).length + (if ([] : List Keyword).isEmpty then 0 else 1) < 30)) = true := by rfl)
    (hline : (apos.endLine == cpos.line) = true := by rfl) (hs : starEach [e] X.env = (false, eval e X.env) :: starEach [] X.env := by rfl) (hplain : (backTo cpos (starEach [] X.env)).any (·.1) = false := by rfl) :
    DE X E (.Call (.Attribute o "endswith" apos) [e] [] cpos) (tMe isSt (m1 (ssF fun a b => .bl (Txt.endswith a b))) to ta) :=
  d_bm PySem.F.plainAttrs_str PySem.F.slot_str_endswith PySem.F.type_str_endswith mt_endswith (SM.of1 fun B μ m H a v d Q QV M ha td q k => by
    cases d with
    | str b =>
      cases td
      exact ⟨a, b, rfl, rfl, SO.pure M k (.bl _) q⟩
    | _ => exact q.elim) isSt_ok ho ha hbase hfew hline hs hplain
theorem d_count (ho : DE X E o to) (ha : DA X E [e] ta)
    (hbase : attributeBase o "count" X.env (eval o X.env) = eval o X.env := by rfl)
    (hfew : ((backTo cpos (starEach [e] X.env)).all (fun x => !x.1) && (backToKw cpos (keywordEach [] X.env)).all (fun x => x.1.isSome)
      && decide ([e].length + ([] : List Keyword).length + (if ([] : List Keyword).isEmpty then 0 else 1) < 30)) = true := by rfl)
    (hline : (apos.endLine == cpos.line) = true := by rfl) (hs : starEach [e] X.env = (false, eval e X.env) :: starEach [] X.env := by rfl) (hplain : (backTo cpos (starEach [] X.env)).any (·.1) = false := by rfl) :
    DE X E (.Call (.Attribute o "count" apos) [e] [] cpos) (tMe isSt (m1 (ssF fun a b => .int (Txt.count a b))) to ta) :=
  d_bm PySem.F.plainAttrs_str PySem.F.slot_str_count PySem.F.type_str_count mt_count (SM.of1 fun B μ m H a v d Q QV M ha td q k => by
    cases d with
    | str b =>
      cases td
      exact ⟨a, b, rfl, rfl, SO.pure M k (.int _) q⟩
    | _ => exact q.elim) isSt_ok ho ha hbase hfew hline hs hplain
end
end Fs
set_option Elab.async false
set_option linter.all false
set_option maxRecDepth 100000
set_option maxHeartbeats 8000000
namespace Fs
open PySem PySem.Spec PyProof.Rows L2
theorem spl_sub (S : List Nat) : ∀ (l : List Nat) (k : Nat) (acc : List Nat), ∀ p ∈ TL.spl S k acc l, ∀ c ∈ p, c ∈ acc ∨ c ∈ l
  | [], k, acc, p, hp, c, hc => by
    have hp : p ∈ [acc] := by cases k <;> exact hp
    rw [List.mem_singleton.mp hp] at hc
    exact .inl hc
  | x :: l, 0, acc, p, hp, c, hc => by
    have hp : p ∈ (if TL.pre S (x :: l) = true then acc :: TL.spl S (S.length - 1) [] l else TL.spl S 0 (acc ++ [x]) l) := hp
    by_cases h : TL.pre S (x :: l) = true
    · rw [if_pos h] at hp
      rcases List.mem_cons.mp hp with e | hp
      · rw [e] at hc
        exact .inl hc
      · rcases spl_sub S l _ [] p hp c hc with z | z
        · cases z
        · exact .inr (List.mem_cons_of_mem _ z)
    · rw [if_neg h] at hp
      rcases spl_sub S l 0 (acc ++ [x]) p hp c hc with z | z
      · rcases List.mem_append.mp z with z | z
        · exact .inl z
        · rw [List.mem_singleton.mp z]
          exact .inr List.mem_cons_self
      · exact .inr (List.mem_cons_of_mem _ z)
  | x :: l, k + 1, acc, p, hp, c, hc => by
    have hp : p ∈ TL.spl S k acc l := hp
    rcases spl_sub S l k acc p hp c hc with z | z
    · exact .inl z
    · exact .inr (List.mem_cons_of_mem _ z)
theorem okS_split {a b : Str} (ha : okS a = true) (hb : TL.tl b ≠ []) (hk : ¬ Builtin.Str.strKind a < Builtin.Str.strKind b) : ∀ z ∈ Txt.split a b, okS z = true := fun z hz => by
  refine okS_iff.mpr fun c hc => ?_
  have h : TL.tl z ∈ (Txt.split a b).map TL.tl := List.mem_map_of_mem hz
  rw [TL.split_spl a b hb hk] at h
  rcases spl_sub _ _ _ _ _ h c hc with e | e
  · cases e
  · exact okS_iff.mp ha c e
theorem rvL_strs {K : Frag} {B : Hp} : ∀ {zs : List Str}, (∀ z ∈ zs, okS z = true) → RvL K B (zs.map V.str) (zs.map D.str)
  | [], _ => .nil
  | z :: zs, h => .cons (.str (h z List.mem_cons_self)) (rvL_strs fun y hy => h y (List.mem_cons_of_mem _ hy))
section
variable {X : Cx} {E : XK} {o e : Expr} {to : DTE} {ta : DTA} {apos cpos : Pos}
def spF (a : Str) : D → (D → Prop) → Prop
  | .str b, Q => b.cps.all (· < 256) = true ∧ TL.tl b ≠ [] ∧ a.length + 2 ≤ sizeLine ∧ Q (.lst ((Txt.split a b).map .str))
  | _, _ => False
theorem d_split (ho : DE X E o to) (ha : DA X E [e] ta)
    (hbase : attributeBase o "split" X.env (eval o X.env) = eval o X.env := by rfl)
    (hfew : ((backTo cpos (starEach [e] X.env)).all (fun x => !x.1) && (backToKw cpos (keywordEach [] X.env)).all (fun x => x.1.isSome)
      && decide ([e].length + ([] : List Keyword).length + (if ([] : List Keyword).isEmpty then 0 else 1) < 30)) = true := by rfl)
    (hline : (apos.endLine == cpos.line) = true := by rfl) (hs : starEach [e] X.env = (false, eval e X.env) :: starEach [] X.env := by rfl) (hplain : (backTo cpos (starEach [] X.env)).any (·.1) = false := by rfl) :
    DE X E (.Call (.Attribute o "split" apos) [e] [] cpos) (tMe isSt (m1 spF) to ta) :=
  d_bm PySem.F.plainAttrs_str PySem.F.slot_str_split PySem.F.type_str_split mt_split (SM.of1 fun B μ m H a v d Q QV M ha td q k => by
    cases d with
    | str b =>
      cases td
      obtain ⟨q1, q2, q3, q⟩ := q
      refine ⟨a, b, rfl, rfl, ?_, q3, fun p np => SO.new M k np (new_lst M np (rvL_strs (okS_split ha q2 (TL.kind_ok q1)))) q⟩
      cases hz : b.length with
      | zero => exact absurd ((TL.len0_tl b).mp hz) q2
      | succ n => rfl
    | _ => exact q.elim) isSt_ok ho ha hbase hfew hline hs hplain
end
end Fs
set_option Elab.async false
set_option linter.all false
set_option maxRecDepth 100000
set_option maxHeartbeats 8000000
namespace Fs
open PySem PySem.Spec PyProof.Rows L2
section
variable {X : Cx}
def rNotInT (K : Frag) : R2 := fun x y H Q => ∃ d ds, Dp K H x d ∧ Dp K H y (.tuple ds) ∧ SeqAt.shaped d = true ∧ SeqAt.shaped (.tuple ds) = true ∧ Q (.bl (!ds.any fun z => PyData.eqv z d)) H
theorem op_notInT (hu : X.A.units + 65 < cLine) : OpR X (compareOp .NotIn) (rNotInT X.K) := by
  intro pins s σ H x y v u Q I rx ry ⟨d, ds, hd, he, sd, se, q⟩
  obtain ⟨as, r1⟩ := Dp.reads I d x v hd rx
  obtain ⟨bs, r2⟩ := Dp.reads I (.tuple ds) y u he ry
  exact SeqAt.notIn_tuple_reads r2 r1 (SeqAt.canLay_of_shaped se) (SeqAt.canLay_of_shaped sd) (room_in_shaped sd hu) ⟨.bl _, H, I, rfl, q⟩
def ninP : F2
  | x, .tup ds, Q => plainD x = true ∧ plainL ds = true ∧ depD x ≤ 64 ∧ depL ds + 1 ≤ 64 ∧ Q (.bl (!ds.any fun y => deq y x))
  | _, _, _ => False
theorem o_notinP (hu : X.A.units + 65 < cLine) : OpD X (compareOp .NotIn) (oL ninP) := by
  refine ⟨_, op_notInT hu, SO.of fun B μ m H v u dx dy Q QV M tx ty q k => ?_⟩
  cases dy with
  | tup ds =>
    obtain ⟨q1, q2, q3, q4, q⟩ := q
    obtain ⟨a, b, c, d⟩ := eqD_ok (dy := .tup ds) M.le tx ty q1 q2 q3 q4
    refine ⟨_, pyL _, a, b, c, d, ?_⟩
    rw [any_py q2 q1]
    exact SO.pure M k (.bl _) q
  | _ => exact q.elim
end
section
variable {P : Program} {w : World} {K : Frag} {mg : Str → Option Value} {base : Heap} {CX : CXT} {x : Str} {st : Stmt} {kws : List (Str × V)} {N ps : List Str} {k : Nat} {sp : Sp} {f : Addr} {fd : FuncData}
/-- only the positional parameters are written: the keyword-only ones take their defaults -/
theorem binds_kwo (F : FunD K x x (defArgs st) (defBody st) (defScope st) [] kws f fd) (hk : kws ≠ [])
    (hb : ∀ (D : Addr) (doc pm : Value) (an : Option Addr) (cdv ct : Value) (us mv : List Value), us.length + kws.length = ps.length → mv.length = kws.length →
      KwTo D ((kws.map (·.1)).zip mv) (bindArgs (PySem.W.fnOf x x (defArgs st) (defBody st) (defScope st) .none (.ref D) doc pm an cdv ct) ⟨us, []⟩) (pure (ps.zip (us ++ mv)))) : ∃ ds, Vals (kws.map (·.2)) ds ∧ Binds K fd ps ds := by
  obtain ⟨oc, od, dV, kV, doc, pm, an, cdv, ct, osl, rfl, lk, hcd, hD, hK⟩ := F.ex
  rcases hD with ⟨_, rfl⟩ | ⟨e, _⟩
  case inr => exact absurd rfl e
  rcases hK with e | ⟨D, rfl, hkw⟩
  · exact absurd e hk
  obtain ⟨mv, hl, rk, hks⟩ := kwd_vals (ms := kws) fun q hm => hkw q hm
  refine ⟨mv, rk, fun s us X hlen M A E Q q => ?_⟩
  exact KwTo.run X hks (hb D doc pm an cdv ct us mv (by rw [List.length_append] at hlen; omega) hl) (wpAny_pure q)
theorem Fo.gkwo (F : Fo P w K mg base CX k x st [] kws ps sp) (G : Gsd K mg x st [] kws) (hk : kws ≠ [])
    (hb : ∀ (D : Addr) (doc pm : Value) (an : Option Addr) (cdv ct : Value) (us mv : List Value), us.length + kws.length = ps.length → mv.length = kws.length →
      KwTo D ((kws.map (·.1)).zip mv) (bindArgs (PySem.W.fnOf x x (defArgs st) (defBody st) (defScope st) .none (.ref D) doc pm an cdv ct) ⟨us, []⟩) (pure (ps.zip (us ++ mv)))) : Gdd P w K mg base CX k x ps (kws.map (·.2)) sp := by
  obtain ⟨f, fd, a, D⟩ := G
  obtain ⟨ds, v, b⟩ := binds_kwo D hk hb
  exact ⟨f, fd, ds, a, D.kp, v, b, F f fd D⟩
end
section
variable {X : Cx} {E : XK} {CX : CXT} {k : Nat} {x : Str} {ps : List Str} {sp : SpD} {e : Expr} {es : List Expr} {p pos : Pos} {ta : DTA}
theorem d_callD {dv : List V} {dw : List D} (G : Gdd X.prog X.w X.K X.mg X.base CX k x ps dv (lift X.K sp) ∧ ∀ B, RvL X.K B dv dw) (hr : Room k X.A) (hx : Passes CX X E) (ha : DA X E (e :: es) ta)
    (hg : Gl X x := by rfl) (hdb : (x == ("__debug__" : Str)) = false := by decide) (he : starEach (e :: es) X.env = (false, eval e X.env) :: starEach es X.env := by rfl) (hpl : (backTo pos (starEach es X.env)).any (·.1) = false := by rfl) :
    DE X E (.Call (.Name x p) (e :: es) [] pos) (tCal (fun ws => sp (ws ++ dw.map .v)) ta) := by
  obtain ⟨t1, p1, k1⟩ := ha.ex
  obtain ⟨f, fd, ds, a, b, c, d, F⟩ := G.1.ex
  exact ⟨_, pe_call F hr hg a b d c hx p1 hdb he hpl, k1.call G.2⟩
end
end Fs
set_option Elab.async false
set_option linter.all false
set_option maxRecDepth 100000
set_option maxHeartbeats 8000000
namespace Fs
open PySem PySem.Spec PyProof.Rows L2
/-- the keys of a list, each once -/
def hasK (l : List Key) (j : Key) : Bool := l.any fun x => decide (x = j)
def onK (l : List Key) (k : Key) : List Key := if hasK l k = true then l else l ++ [k]
def allK (l : List Key) : List Key := l.foldl onK []
theorem onK_len (l : List Key) (k : Key) : (onK l k).length = if hasK l k = true then l.length else l.length + 1 := by
  unfold onK
  by_cases h : hasK l k = true
  · rw [if_pos h, if_pos h]
  · rw [if_neg h, if_neg h, List.length_append]; rfl
theorem onK_has (l : List Key) (k j : Key) : hasK (onK l k) j = (hasK l j || decide (j = k)) := by
  unfold onK
  by_cases h : hasK l k = true
  · rw [if_pos h]
    by_cases e : j = k
    · subst e; rw [h]; rfl
    · simp [e]
  · rw [if_neg h]
    show (l ++ [k]).any _ = _
    rw [List.any_append]
    show (hasK l j || (decide (k = j) || false)) = _
    rw [Bool.or_false]
    by_cases e : j = k
    · subst e; rfl
    · have e' : ¬ k = j := fun z => e z.symm
      simp [e, e']
theorem onK_le (l : List Key) (k : Key) : (onK l k).length ≤ l.length + 1 := by
  unfold onK
  split
  · omega
  · rw [List.length_append]; exact Nat.le_refl _
/-- the set of these keys at a -/
def KS (P : Program) (w : World) (a : Addr) (l : List Key) : HO := SetK P w a (hasK l) l.length
section
variable {X : Cx} {pins : List (Addr × Obj)} {σ : L2.St} {H : Hp} {s : Shared} {D : Addr} {l : List Key} {E : Value → Shared → Prop}
theorem setOf_as {P : Program} {w : World} {h : Heap} {a : Addr} {S S' : Key → Bool} {n n' : Nat} (R : h.SetOf (mixKind P w) a S n) (e : ∀ k, S k = S' k) (en : n = n') : h.SetOf (mixKind P w) a S' n' := by
  cases (funext e : S = S')
  cases en
  exact R
theorem addK_ok {k : Key} {u : Value} {Q : Value → Shared → Prop} (I : Inv X pins σ H s) (hD : H D = some (KS X.prog X.w D l)) (r : RelV (kV k) u) (room : l.length + 1 < scanBound)
    (h : ∀ s', Inv X pins σ (upd H D (KS X.prog X.w D (onK l k))) s' → Q .none s') : wpAny (model X.prog X.w) X.A (call (.builtin "set.add") [.ref D, u]) Q E s := by
  refine call_set_add (knd := mixKind X.prog X.w) (kV_is r) (key_scan r) (setK_get I hD) room fun h' sb new => ?_
  have new : h'.SetOf (mixKind X.prog X.w) D (hasK (onK l k)) (onK l k).length := setOf_as new (fun j => (onK_has l k j).symm) (onK_len l k).symm
  obtain ⟨o, ho⟩ : ∃ o, h'.get? D = some o := let ⟨o, _, _, _, ho, _⟩ := new; ⟨o, ho⟩
  exact h _ (I.write (e := D) (t' := s.toks + 1) (by rw [hD]; exact True.intro) (.inl rfl) (fun b o hb hu => (sb.2 b hb).trans hu) ⟨o, ho⟩ (setK_new new))
theorem ks_fresh {P : Program} {w : World} {h : Heap} {led : Bool} : (h.push { cls := .type "set", dict := none, data := .set #[] 0 (.fresh 0 0 led) }).SetOf (mixKind P w) h.objs.size (hasK []) 0 :=
  setOf_as (S := fun _ => false) ⟨_, #[], 0, _, Heap.get?_push_size _ rfl, ⟨rfl, rfl, rfl⟩, rfl, (fun e he => by simp at he), (fun k => by simp), (by decide), (by rfl), rfl⟩ (fun _ => rfl) rfl
/-- the size of the set at D -/
theorem lenK_ok {Q : Value → Shared → Prop} (I : Inv X pins σ H s) (hD : H D = some (KS X.prog X.w D l)) (h : ∀ u s', RelV (.int l.length) u → Inv X pins σ H s' → Q u s') : wpAny (model X.prog X.w) X.A (call (.builtin "len") [.ref D]) Q E s := by
  have R := setK_get I hD
  obtain ⟨o, es, ep, t, ho, hex, hd, _, _, hb, hf, hn⟩ := R
  refine PySem.call_len_set ho hex hd hf (by unfold scanBound at hb; omega) (h _ _ ⟨_, by rw [hn]⟩ (I.tok _))
end
/-- {elt for target in iter if ..}: the keys one by one -/
def tSk (P : Program) (w : World) (wi : TI) (g : TG) (tt : TT) (te : TE) (vs : List Nat) : TE := fun σ H Q => wi σ H fun J H1 => ∀ D, H1 D = none → ∃ W : Nat → Nat → Hp → Prop, (∃ m, W 0 m (upd H1 D (KS P w D []))) ∧ ∀ i m H, W i m H →
  (J.stop i H ∧ Q (.ref D) H) ∨ (J.go i H ∧ ∃ Nx : Hp → Prop, (∀ H', Nx H' → ∃ m', m' < m ∧ W (i + 1) m' H') ∧ ∀ x H', J.yld i H x H' → g x (wipe σ vs) H' fun σ2 H2 => wipe σ2 vs = wipe σ vs ∧ tt σ2 H2 fun b H3 =>
    if b = true then te σ2 H3 fun y H4 => ∃ (k : Key) (l : List Key), y = kV k ∧ H4 D = some (KS P w D l) ∧ l.length + 1 < scanBound ∧ Nx (upd H4 D (KS P w D (onK l k))) else Nx H3)
section
variable {X : Cx} {pins : List (Addr × Obj)} {s : Shared} {σ : L2.St} {H : Hp} {Q : VK} {elt tg iter : Expr} {ifs : List Expr} {scope : Scope} {own : List (Str × Nat)} {pos pos' : Pos} {wi : TI} {g : TG} {tt : TT} {te : TE}
theorem sk_core {use : Option (Value → Sem Unit)} {Qf : Value → Shared → Prop} (hc : X.calm = true) (hN : X.N.Nodup) (I : Inv X pins σ H s) (hi : PI X tg iter wi) (ok : BlkOk X.N X.env.scope scope own)
    (hg : ∀ s H C cl fp, PG (X.blk s H scope (compEnvC scope cl C X.env) fp) tg g) (ht : ∀ s H C cl fp, PTs (X.blk s H scope (compEnvC scope cl C X.env) fp) ifs tt)
    (he : ∀ s H C cl fp, PE (X.blk s H scope (compEnvC scope cl C X.env) fp) elt te) (hs : ∀ x, foldedSetIterable iter X.env x = pure x)
    (h : tSk X.prog X.w wi g tt te (own.map (·.2)) σ H Q)
    (fin : ∀ D C s' m H', Inv X pins σ H' s' → Q (.ref D) H' → s'.heap.Ns C m → FpOk X pins H' C → compPost (model X.prog X.w) X.A X.xe use Qf (.ref D) C (.ok .next) s') :
    wpAny (model X.prog X.w) X.A (comprehension (.SetComp elt [⟨tg, iter, ifs, 0⟩] scope pos) scope X.env pos' (newSet (.type "set")) false (eval iter X.env) use) Qf X.xe s := by
  have closed : ∀ y ∈ scope.names, y.2 = .free → ∃ c, X.env.cells.lookup y.1 = some c := fun y hy e => (ok.free y hy e).elim (fun z => I.ok.has _ (.inl z)) fun z => I.ok.has _ (.inr z)
  refine wpAny_comprehension_free (use := use) rfl hs (closure_ok closed) ok.kind (fun y hy e => by rw [ok.uniq y hy, e]) ?_
  refine thn (hi.run pins s σ H _ I h) fun xv s1 hx => thn hx fun itv s2 h2 => ?_
  obtain ⟨it, fp, tn, J, H2, rfl, I2, T, st2, f2, q⟩ := h2
  refine PpSet.newSet_ok (newEnv_comp ?_)
  generalize hD : s2.heap.objs.size = D
  have hDn : H2 D = none := I2.hok.fresh (Nat.le_of_eq hD)
  obtain ⟨W, ⟨m0, w0⟩, turn⟩ := q D hDn
  generalize hs3 : ({ s2 with heap := s2.heap.push { cls := .type "set", dict := none, data := .set #[] 0 (.fresh 0 0 (!X.w.params.followText "set-order")) } } : Shared) = s3
  have hs3 := hs3.symm
  have I3 : Inv X pins σ (upd H2 D (KS X.prog X.w D [])) s3 := by
    subst hs3 hD
    exact I2.laid (t' := s2.toks) (fun b o e => Heap.get?_push_of_some _ e) (Nat.le_refl _) (setK_new ks_fresh)
  have h3 : ∀ b o, s2.heap.get? b = some o → s3.heap.get? b = some o := fun b o e => by
    rw [hs3]
    exact Heap.get?_push_of_some _ e
  have z3 : s3.heap.objs.size = s2.heap.objs.size + 1 := by
    rw [hs3]
    exact Heap.size_push _ _
  obtain ⟨H3, hH3⟩ : ∃ H3, H3 = upd H2 D (KS X.prog X.w D []) := ⟨_, rfl⟩
  rw [← hH3] at I3 w0
  have f3 : ∀ b ∈ fp, FpOk X pins H3 b ∧ b < s3.heap.objs.size := fun b hb => by
    obtain ⟨o, e, _⟩ := T.obj _ _ st2 b hb
    have lt : b < s2.heap.objs.size := Heap.lt_size e
    have lt3 : b < s3.heap.objs.size := by rw [z3]; exact Nat.lt_succ_of_lt lt
    refine ⟨⟨?_, (f2 b hb).2⟩, lt3⟩
    rw [hH3, upd_ne (by rw [← hD]; exact Nat.ne_of_lt lt)]
    exact (f2 b hb).1
  have st3 : tn 0 s3.heap := T.keep _ _ _ st2 fun b _ => h3 b
  have I4 := block_start I3 ok hN f3
  have pg := hg s3 H3 s3.heap.objs.size (cellsFrom (s3.heap.objs.size + 1) scope.names (cloFrom X.env.cells scope.names [])) fp
  have pt := ht s3 H3 s3.heap.objs.size (cellsFrom (s3.heap.objs.size + 1) scope.names (cloFrom X.env.cells scope.names [])) fp
  have pe := he s3 H3 s3.heap.objs.size (cellsFrom (s3.heap.objs.size + 1) scope.names (cloFrom X.env.cells scope.names [])) fp
  have nfp : ∀ b ∈ fp, H3 b = none := fun b hb => (f3 b hb).1.1
  have goal : codeAny (model X.prog X.w) X.A (.compStart (.SetComp elt [⟨tg, iter, ifs, 0⟩] scope pos) 0 (.ref it) (.ref D) (compEnvC scope (cellsFrom (s3.heap.objs.size + 1) scope.names (cloFrom X.env.cells scope.names [])) s3.heap.objs.size X.env)) (compPost (model X.prog X.w) X.A X.xe use Qf (.ref D) s3.heap.objs.size) { s3 with heap := pushCells (s3.heap.push { cls := .type "dict", data := .dict #[] }) scope.names } := by
    obtain ⟨ce, hce⟩ : ∃ ce, ce = compEnvC scope (cellsFrom (s3.heap.objs.size + 1) scope.names (cloFrom X.env.cells scope.names [])) s3.heap.objs.size X.env := ⟨_, rfl⟩
    rw [← hce] at I4 pg pt pe ⊢
    have cL : ce.locals = s3.heap.objs.size := by rw [hce] <;> rfl
    obtain ⟨s4, hs4⟩ : ∃ s4 : Shared, s4 = { s3 with heap := pushCells (s3.heap.push { cls := .type "dict", data := .dict #[] }) scope.names } := ⟨_, rfl⟩
    rw [← hs4] at I4 ⊢
    have st4 : tn 0 s4.heap := T.keep _ _ _ st3 fun b _ o e => by
      rw [hs4]
      exact pushCells_keeps _ _ _ _ (Heap.get?_push_of_some _ e)
    have stat : ∀ {σ' : L2.St} {H' : Hp} {s' : Shared}, Inv (X.blk s3 H3 scope ce fp) [] σ' H' s' → (∀ b ∈ fp, H' b = none) → ∀ b ∈ fp, FpOk (X.blk s3 H3 scope ce fp) [] H' b := fun J' hn b hb =>
      ⟨hn b hb, (J'.ok.exf b hb).1, J'.ok.exfs b hb, .inl hb, fun x c e => (J'.ok.exf b hb).2 x c e, fun p hp => absurd (show p ∈ ([] : List (Addr × Obj)) ++ [] from hp) (by simp)⟩
    refine PpSet.codeAny_compStart_set ?lp (T.self X.A 0 _ _ _ st4 ?lp)
    refine PpSet.compLoopS_any (fun n s' => ∃ i H', Inv (X.blk s3 H3 scope ce fp) [] (wipe σ (own.map (·.2))) H' s' ∧ tn i s'.heap ∧ (∀ b ∈ fp, H' b = none) ∧ W i n H') ?_ m0 ⟨0, H3, I4, st4, nfp, w0⟩
    rintro n s5 ⟨i, H5, I5, st5, n5, w5⟩
    rcases turn i n H5 w5 with ⟨stop, qq⟩ | ⟨go, Nx, hNx, step⟩
    · refine thnF (T.done (X.blk s3 H3 scope ce fp) rfl rfl rfl hc i [] s5 _ H5 (fun _ _ => False) I5 (stat I5 n5) st5 stop) fun r s6 ⟨hr, I6⟩ => ?_
      cases hr
      have I7 : Inv X pins σ H5 s6 := I3.call' (ch := fp) I6.os I6.base I6.hok I6.bare fun b hb =>
        let z := (f3 b hb).1.2
        ⟨z.2.2.1, z.1, z.2.2.2.1, z.2.2.2.2⟩
      have nC : H5 s3.heap.objs.size = none := cL ▸ I6.free
      obtain ⟨m, hn, _⟩ := I6.loc
      exact fin D s3.heap.objs.size s6 m H5 I7 qq (cL ▸ hn) (I3.fpOk (Nat.le_refl _) nC)
    · refine thnF (T.item (X.blk s3 H3 scope ce fp) rfl rfl rfl hc i [] s5 _ H5 (fun _ _ => False) I5 (stat I5 n5) st5 go) fun r s6 ⟨u, hr, h6⟩ => ?_
      cases hr
      refine thnF h6 fun _ s7 ⟨x, H7, I7, r7, y7, st7, n7⟩ => ?_
      have I7p := I7.pinned (stat I7 n7) (T.obj _ _ st7)
      refine thnF (pg.run _ s7 _ H7 x u _ I7p r7 (step x H7 y7)) fun _ s8 ⟨σ8, H8, I8, hw8, q8⟩ => ?_
      refine thnF (pt.run _ s8 σ8 H8 _ I8 q8) fun b s9 ⟨H9, I9, q9⟩ => ?_
      have next : ∀ {s' : Shared} {H' : Hp}, Inv (X.blk s3 H3 scope ce fp) ([] ++ pinsAt fp s7.heap) σ8 H' s' → Nx H' → ∃ m, m < n ∧ ∃ i H', Inv (X.blk s3 H3 scope ce fp) [] (wipe σ (own.map (·.2))) H' s' ∧ tn i s'.heap ∧ (∀ b ∈ fp, H' b = none) ∧ W i m H' := fun {s' H'} J' nx => by
        obtain ⟨m', lt, w'⟩ := hNx H' nx
        have held : ∀ b ∈ fp, ∀ o, s7.heap.get? b = some o → s'.heap.get? b = some o ∧ H' b = none := fun b hb o e =>
          let z := J'.pin (b, o) (List.mem_append_right _ (List.mem_append_right _ (mem_pinsAt hb e)))
          ⟨z.1, z.2.1⟩
        have hl : (wipe σ (own.map (·.2))).length = σ8.length := by rw [← hw8, wipe_length]
        refine ⟨m', lt, i + 1, H', ?_, T.keep _ _ _ st7 fun b hb o e => (held b hb o e).1, fun b hb => let ⟨o, e, _⟩ := T.obj _ _ st7 b hb; (held b hb o e).2, w'⟩
        exact (J'.unpinned (pins := [])).weak hl fun j v e => (wipe_some (hw8 ▸ e)).1
      cases b with
      | false => exact next I9 q9
      | true =>
        refine thnF (pe.run _ s9 σ8 H9 _ I9 q9) fun z s10 ⟨yv, H10, I10, r10, k0, l0, ey, hD10, room, nx⟩ => ?_
        subst ey
        exact addK_ok (X := X.blk s3 H3 scope ce fp) I10 hD10 r10 room fun s11 I11 => next I11 nx
  exact goal
theorem pe_sk (hc : X.calm = true) (hN : X.N.Nodup) (hi : PI X tg iter wi) (ok : BlkOk X.N X.env.scope scope own)
    (hg : ∀ s H C cl fp, PG (X.blk s H scope (compEnvC scope cl C X.env) fp) tg g) (ht : ∀ s H C cl fp, PTs (X.blk s H scope (compEnvC scope cl C X.env) fp) ifs tt)
    (he : ∀ s H C cl fp, PE (X.blk s H scope (compEnvC scope cl C X.env) fp) elt te) (hs : ∀ x, foldedSetIterable iter X.env x = pure x := by intro _; rfl) :
    PE X (.SetComp elt [⟨tg, iter, ifs, 0⟩] scope pos) (tSk X.prog X.w wi g tt te (own.map (·.2))) := by
  refine ⟨fun pins s σ H Q I h => ?_⟩
  rw [PpSet.eval_SetComp]
  refine sk_core hc hN I hi ok hg ht he hs h fun D C s' m H' I' q hn f => ⟨m, hn, fun h2 sb => ?_⟩
  obtain ⟨f0, f1, f2, f3, f4, f5⟩ := f
  exact ⟨.ref D, H', I'.turned (t' := s'.toks) (fun b o hb e => (sb.2 b hb).trans e) f0 f1 f3 f4 f5, rfl, q⟩
/-- len of an expression that makes such a set -/
def tLenK (P : Program) (w : World) (te : TE) : TE := fun σ H Q => te σ H fun x H1 => ∃ D l, x = .ref D ∧ H1 D = some (KS P w D l) ∧ Q (.int l.length) H1
theorem pe_lenK {e : Expr} {te : TE} {p pos : Pos} (hm : X.mg "len" = none) (he : PE X e te) (hg : Gl X "len" := by rfl) (hs : starEach [e] X.env = (false, eval e X.env) :: starEach [] X.env := by rfl) (hpl : (backTo pos (starEach [] X.env)).any (·.1) = false := by rfl) : PE X (.Call (.Name "len" p) [e] [] pos) (tLenK X.prog X.w te) := by
  refine ⟨fun pins s σ H Q I h => ?_⟩
  refine Call_ (ld_blt I hg hm PySem.boot_len ?_)
  rw [hs]
  refine Calls.callWith_builtin (by show (false || (backTo pos (starEach [] X.env)).any (·.1)) = false; rw [hpl] <;> rfl) (Calls.evalArgs_plain ?_)
  refine Calls.spliced_cons (thn (he.run pins s σ H _ I h) fun v s1 ⟨x, H1, I1, r1, D, l, ex, hD, q⟩ => Calls.spliced_nil ?_)
  subst ex
  cases r1
  exact lenK_ok I1 hD fun u s' ru I' => ⟨.int l.length, H1, I', ru, q⟩
end
end Fs
set_option Elab.async false
set_option linter.all false
set_option maxRecDepth 100000
set_option maxHeartbeats 8000000
namespace Fs
open PySem PySem.Spec PyProof.Rows L2
section
variable {prog : Program} {w : World} {A : Around} {R : Result → Shared → Prop} {I : Addr} {fp wr : List Addr} {G : Array GenState → Array GenState → Prop} {n : Nat} {P : Nat → Value → Prop} {St : Nat → Shared → Prop}
/-- the update walks the keys ks -/
theorem set_walk (W : WalksS prog w A.in1 I fp wr G n P St) (S : Addr) (hSf : S ∉ fp) (ks : List Key) (hn : ks.length = n) (hval : ∀ i v, P i v → ∃ k, ks[i]? = some k ∧ RelV (kV k) v) (hb : n + 1 < scanBound) :
    ∀ (m i : Nat) (s : Shared) (l : List Key), n - i = m → i ≤ n → St i s → l.length ≤ i → s.heap.SetOf (mixKind prog w) S (hasK l) l.length →
      (∀ s', Moved (S :: wr) G s s' → s'.heap.SetOf (mixKind prog w) S (hasK ((ks.drop i).foldl onK l)) ((ks.drop i).foldl onK l).length → R (.ok (.ret .none)) s') →
      codeAny (model prog w) A (.builtin "set.update.loop" ⟨[.ref S, .ref I], []⟩) R s := by
  have off : S ∉ wr := fun z => hSf (W.sub _ z)
  have more : ∀ b ∈ wr, b ∈ S :: wr := fun b z => List.mem_cons_of_mem _ z
  intro m
  induction m with
  | zero =>
    intro i s l hm hi hst hl hS hR
    obtain rfl : i = n := by omega
    refine codeAny_builtin PyProof.Rows.F.entry_set_update_loop ?_
    rw [Around.under_plainId PyProof.Rows.F.plain_set_update_loop _]
    show wpAny _ A.in1 (pyNext (.ref I) >>= _) _ _ s
    refine wpAny_bind (W.done s _ _ hst fun s' mv => ?_)
    show wpAny _ A.in1 (ret Value.none) _ _ s'
    refine wpAny_pure (hR s' (mv.mono more) ?_)
    rw [List.drop_of_length_le (by omega)]
    exact setOf_at hS fun o e => mv.heap S _ off e
  | succ m ih =>
    intro i s l hm hi hst hl hS hR
    have lt : i < n := by omega
    refine codeAny_builtin PyProof.Rows.F.entry_set_update_loop ?_
    rw [Around.under_plainId PyProof.Rows.F.plain_set_update_loop _]
    show wpAny _ A.in1 (pyNext (.ref I) >>= _) _ _ s
    refine wpAny_bind (W.item i s _ _ lt hst fun v s' hP hst' mv => ?_)
    obtain ⟨k, hk, rk⟩ := hval i v hP
    have hS1 : s'.heap.SetOf (mixKind prog w) S (hasK l) l.length := setOf_at hS fun o e => mv.heap S _ off e
    show wpAny _ A.in1 (holding [v] (setAdd S v) >>= _) _ _ s'
    refine wpAny_bind (wpAny_holding ?_)
    unfold setAdd
    refine wpAny_holding ?_
    refine wpAny_bind ((mixKind prog w).pyHash (k := k) (kV_is rk) ?_)
    refine wpAny_setAddHashed_of (knd := mixKind prog w) (s := { s' with toks := s'.toks + 1 }) (kV_is rk) (key_scan rk) hS1 (by omega) fun h2 sb hS2 => ?_
    have hS3 : h2.SetOf (mixKind prog w) S (hasK (onK l k)) (onK l k).length := setOf_as hS2 (fun j => (onK_has l k j).symm) (onK_len l k).symm
    have ed : ks.drop i = k :: ks.drop (i + 1) := by
      obtain ⟨h, e⟩ := List.getElem?_eq_some_iff.mp hk
      rw [← e]
      exact List.drop_eq_getElem_cons h
    rw [ed] at hR
    refine wpAny_pure ⟨plainId_quiet PyProof.Rows.F.plain_set_update_loop _, ih (i + 1) _ (onK l k) (by omega) lt (W.frame _ s' _ _ hst' (Nat.le_succ _) fun b z o e => ?_) (Nat.le_trans (onK_le l k) (by omega)) hS3 fun s3 mv3 hS4 => hR s3 ?_ hS4⟩
    · rw [sb.2 b fun c => hSf (c ▸ z)]
      exact e
    · refine Moved.trans W.gtrans ((mv.mono more).then_heap (Nat.le_succ _) fun b o z e => ?_) mv3
      rw [sb.2 b fun c => z (c ▸ List.mem_cons_self)]
      exact e
end
section
variable {prog : Program} {w : World} {A : Around} {E : Value → Shared → Prop} {s : Shared}
theorem vals_at {ks : List Key} {its : List Value} (r : Vals (ks.map kV) its) : ∀ (i : Nat) (v : Value), its[i]? = some v → ∃ k : Key, ks[i]? = some k ∧ RelV (kV k) v := fun i v e => by
  have hl := r.length
  rw [List.length_map] at hl
  obtain ⟨h, _⟩ := List.getElem?_eq_some_iff.mp e
  have hi : i < ks.length := by omega
  obtain ⟨u, hu, ru⟩ := r.get (i := i) (x := kV ks[i]) (by simp [hi])
  rw [e] at hu
  cases hu
  exact ⟨ks[i], by simp [hi], ru⟩
set_option maxHeartbeats 3200000 in
theorem call_set_keys {l : Addr} {items : Array Value} {ks : List Key} {Q : Value → Shared → Prop} (hh : A.handled = none) (hl : s.heap.IsList l items) (hi : Vals (ks.map kV) items.toList) (hb : ks.length + 1 < scanBound)
    (h : ∀ (h2 : Heap) (tk : Nat), h2.SetOf (mixKind prog w) s.heap.objs.size (hasK (allK ks)) (allK ks).length → (∀ b o, b < s.heap.objs.size → s.heap.get? b = some o → h2.get? b = some o) → Q (.ref s.heap.objs.size) { s with heap := h2, toks := tk }) :
    wpAny (model prog w) A (call (.type "set") [.ref l]) Q E s := by
  have hsz : ks.length = items.size := by
    have z := hi.length
    rw [List.length_map, Array.length_toList] at z
    exact z
  obtain ⟨c, tl, hmro⟩ := PySem.F.called_set.mro
  have hmade := PySem.F.called_set.made
  have hsub := PySem.F.called_set.sub
  refine wpAny_call (codeAny_of_tree ?_)
  show wpAny _ _ (callAny (.type "set") _) _ _ _
  refine wpAny_pure ⟨Code.quiet_builtin _ (by decide +kernel), codeAny_builtin PySem.F.entry_type_call ?_⟩
  rw [Around.under_plain (weight_type_call_type "set" [.ref l] []) rfl]
  have h1 := PySem.F.called_set.notType
  have h2 := PySem.F.called_set.canCreate
  have hct := PySem.F.typeCall_set_1 (.ref l)
  repeat (any_goals (first | assumption | wp_step))
  refine codeAny_mono (code_set_new_1 (.ref l) (E := E) (Q₁ := fun obj s1 => ∃ led : Bool, obj = .ref s.heap.objs.size ∧ s1 = { s with heap := s.heap.push { cls := .type "set", dict := none, data := .set #[] 0 (.fresh 0 0 led) } }) fun led => ⟨led, rfl, rfl⟩) fun r s1 hr => ?_
  cases r with
  | error e => exact hr
  | ok fl =>
    cases fl with
    | ret obj =>
      obtain ⟨led, rfl, rfl⟩ := hr
      obtain ⟨so, hso⟩ : ∃ so : Obj, so = { cls := .type "set", dict := none, data := .set #[] 0 (.fresh 0 0 led) } := ⟨_, rfl⟩
      have hS : (s.heap.push { cls := .type "set", dict := none, data := .set #[] 0 (.fresh 0 0 led) }).get? s.heap.objs.size = some { cls := .type "set", dict := none, data := .set #[] 0 (.fresh 0 0 led) } := Heap.get?_push_size _ rfl
      have hT : Shared.TypeIs { s with heap := s.heap.push { cls := .type "set", dict := none, data := .set #[] 0 (.fresh 0 0 led) } } (.ref s.heap.objs.size) "set" := ⟨_, hS, rfl⟩
      have hli := PySem.F.called_set.init.lookup
      have hbi := PySem.F.called_set.init.bind (.ref s.heap.objs.size)
      repeat (any_goals (first | assumption | wp_step))
      refine codeAny_mono (codeAny_call_builtin (R := wants (fun r s2 => r = .none ∧ ∃ hp tk, s2 = { s with heap := hp, toks := tk } ∧ hp.SetOf (mixKind prog w) s.heap.objs.size (hasK (allK ks)) (allK ks).length ∧
          (∀ b o, b < s.heap.objs.size → s.heap.get? b = some o → hp.get? b = some o)) E) PySem.F.called_set.init.plain PySem.F.entry_set_init (check_set_init_1 hT ?_)) fun r2 s2 hr2 => ?_
      · obtain ⟨⟨ocls, odict, odata, oslots⟩, hol, hcl, nl, hdl⟩ := hl
        simp only at hcl hdl
        subst hcl; subst hdl
        have hol2 : (s.heap.push { cls := .type "set", dict := none, data := .set #[] 0 (.fresh 0 0 led) }).get? l = some { cls := .type "list", dict := odict, data := .seq items nl, slots := oslots } := Heap.get?_push_of_some _ hol
        have n1 := PySem.F.sub_list_set
        have n2 := PySem.F.sub_list_frozenset
        have n3 : (Value.type "list" == Value.type "dict") = false := by decide
        have hl1 : (s.heap.push { cls := .type "set", dict := none, data := .set #[] 0 (.fresh 0 0 led) }).IsList l items := ⟨_, hol2, rfl, nl, rfl⟩
        unfold Builtin.«set.__init__» noKeywords Builtin.Frozenset.updateFrom
        generalize hPI : pyIter = PI
        wp_walk
        subst hPI
        refine wpAny_pyIter_list hl1 ?_
        refine wpAny_bind (wpAny_runValue ?_)
        have hlt : l < s.heap.objs.size := Heap.lt_size hol
        have hh3 : A.in1.in1.in1.handled = none := by simp [hh]
        have ez : (s.heap.push { cls := .type "set", dict := none, data := .set #[] 0 (.fresh 0 0 led) }).objs.size = s.heap.objs.size + 1 := Heap.size_push ..
        have apart : s.heap.objs.size ∉ [(s.heap.push { cls := .type "set", dict := none, data := .set #[] 0 (.fresh 0 0 led) }).objs.size, l] := by
          rw [ez]
          simp only [List.mem_cons, List.not_mem_nil, or_false, not_or]
          exact ⟨Nat.ne_of_lt (Nat.lt_succ_self _), Nat.ne_of_gt hlt⟩
        refine set_walk ((Walks.list hh3 _ l (by rw [ez]; exact Nat.ne_of_lt (Nat.lt_succ_of_lt hlt)) items).toS) s.heap.objs.size apart ks hsz (fun i v e => vals_at hi i v (by rw [Array.getElem?_toList]; exact e)) (by omega) (items.size - 0) 0 _ [] (by omega) (Nat.zero_le _)
          ⟨⟨_, Heap.get?_push_size _ rfl, rfl, rfl⟩, (hl1.push _)⟩ (Nat.le_refl _) ?hS0 ?hR
        case hS0 =>
          exact setOf_as (S := fun _ => false) ⟨_, #[], 0, _, Heap.get?_push_of_some _ hS, ⟨rfl, rfl, rfl⟩, rfl, (fun e he => by simp at he), (fun k => by simp), (by decide), (by rfl), rfl⟩ (fun _ => rfl) rfl
        case hR =>
          intro s3 mv hS3
          obtain ⟨hp, g, d, tk, os⟩ := s3
          obtain rfl : g = s.gens := mv.gens
          obtain rfl : d = s.drawn := mv.drawn
          obtain rfl : os = s.os := mv.os
          show wpAny _ _ _ _ _ _
          refine wpAny_pure ?_
          show wpAny _ _ (ret Value.none) _ _ _
          refine wpAny_pure ⟨rfl, hp, tk, rfl, hS3, fun b o lt e => ?_⟩
          refine mv.heap b o ?_ (Heap.get?_push_of_some _ (Heap.get?_push_of_some _ e))
          rw [ez]
          simp only [List.mem_cons, List.not_mem_nil, or_false, not_or]
          exact ⟨Nat.ne_of_lt lt, Nat.ne_of_lt (Nat.lt_succ_of_lt lt)⟩
      · cases r2 with
        | error e => exact hr2
        | ok fl2 =>
          cases fl2 with
          | ret r =>
            obtain ⟨rfl, hp, tk, rfl, hS3, kp⟩ := hr2
            repeat (any_goals (first | assumption | wp_step))
            exact h _ _ hS3 kp
          | _ => exact hr2.elim
    | _ => exact hr.elim
end
section
variable {X : Cx}
/-- set(xs) -/
def rSetL (P : Program) (w : World) (K : Frag) : List V → Hp → VK → Prop := fun xs H Q => ∃ a ks, xs = [.ref a] ∧ SqL K H a (ks.map kV) ∧ ks.length + 1 < scanBound ∧ ∀ p, H p = none → Q (.ref p) (upd H p (KS P w p (allK ks)))
theorem cr_setL (hc : X.calm = true) : CallR X (.type "set") (rSetL X.prog X.w X.K) := by
  intro pins s σ H xs us Q I r h
  obtain ⟨a, ks, rfl, hq, hb, q⟩ := h
  cases r with
  | cons ra rt =>
    cases rt
    cases ra
    obtain ⟨its, rv, pl, hz⟩ := I.list hq
    refine call_set_keys (I.ok.hd hc) pl.isList (by simpa using rv) hb fun h2 tk hS kp => ?_
    exact ⟨.ref _, upd H s.heap.objs.size (KS X.prog X.w s.heap.objs.size (allK ks)), I.laid (t' := tk) (fun b o e => kp b o (Heap.lt_size e) e) (Nat.le_refl _) (setK_new hS), rfl, q _ (I.hok.fresh (Nat.le_refl _))⟩
end
end Fs
set_option Elab.async false
set_option linter.all false
set_option maxRecDepth 100000
set_option maxHeartbeats 8000000
namespace Fs
open PySem PySem.Spec PyProof.Rows L2
def kOf : W → (Key → Prop) → Prop
  | .v (.int i), Q => Q (.inl i)
  | .v (.str x), Q => Q (.inr x)
  | _, _ => False
theorem kOf_at {K : Frag} {B : Hp} {μ : List Addr} {v : V} {y : W} {Q : Key → Prop} (r : RW K B μ v y) (q : kOf y Q) : ∃ k, v = kV k ∧ Q k := by
  cases y with
  | loc n => exact q.elim
  | v d =>
    cases (show Rv K B v d from r) with
    | int i => exact ⟨.inl i, rfl, q⟩
    | str _ => exact ⟨.inr _, rfl, q⟩
    | _ => exact q.elim
/-- the keys among the data -/
def ksD : List D → Option (List Key)
  | [] => some []
  | .int i :: ds => (ksD ds).map (.inl i :: ·)
  | .str x :: ds => (ksD ds).map (.inr x :: ·)
  | _ :: _ => none
theorem ksD_at {K : Frag} {B : Hp} : ∀ {vs : List V} {ds : List D} {ks : List Key}, RvL K B vs ds → ksD ds = some ks → vs = ks.map kV
  | _, _, _, .nil, h => by
    cases h
    rfl
  | v :: vs, d :: ds, ks, .cons r t, h => by
    have go : ∀ k : Key, v = kV k → (ksD ds).map (k :: ·) = some ks → v :: vs = ks.map kV := fun k e z => by
      cases q : ksD ds with
      | none => rw [q] at z; cases z
      | some l =>
        rw [q] at z
        cases z
        rw [e, ksD_at t q]
        rfl
    cases r with
    | int i => exact go (.inl i) rfl h
    | str _ => exact go (.inr _) rfl h
    | _ => cases h
theorem ks_code {P : Program} {w : World} {a : Addr} {l : List Key} {q : Str} : KS P w a l ≠ LamX.CodeO a q := fun z => by
  have e := HO.ext.inj (show HO.ext _ = HO.ext _ from z)
  obtain ⟨oc, eo⟩ : ∃ oc : Obj, oc = { cls := .none, dict := none, data := .fields #[.none, .str q 0], slots := #[] } := ⟨_, rfl⟩
  obtain ⟨h, eh⟩ : ∃ h : Heap, h = { objs := Array.replicate (a + 1) oc } := ⟨_, rfl⟩
  have hg : h.get? a = some oc := Heap.get?_some_iff.mpr ⟨by rw [eh]; simp, by rw [eo]; rfl⟩
  have t : (∃ (oc : Obj) (vs : Array Value) (t : Tok), h.get? a = some oc ∧ oc.data = .fields vs ∧ vs[1]? = some (.str q t)) := ⟨oc, _, 0, hg, by rw [eo], rfl⟩
  rw [← congrFun e h] at t
  obtain ⟨o, es, ep, tb, ho, hx, hd, _⟩ := t
  rw [hg] at ho
  cases ho
  rw [eo] at hd
  cases hd
def scL (g : DTG) (tt : DTT) (te : DTE) (en : En) : List D → List Key → Me → (W → Me → Prop) → Prop
  | [], l, m, Q => Q (.v (.int l.length)) m
  | d :: ds, l, m, Q => g (.v d) en m fun en1 m1 => tt en1 m1 (fun b m2 => if b = true then te en1 m2 (fun y m3 => kOf y fun k => l.length + 1 < scanBound ∧ scL g tt te en ds (onK l k) m3 Q) noX else scL g tt te en ds l m2 Q) noX
def tScD (ti : DTI) (g : DTG) (tt : DTT) (te : DTE) (vs : List Nat) : DTE := fun en m Q Qx => ti en m (fun its m1 => scL g tt te (wipeE en vs) its [] m1 Q) Qx
section
variable {K : Frag} {J : It} {n : Nat} {G : Hp → Prop} {Y : Nat → Hp → V → Hp → Prop}
theorem sk_it {P : Program} {w : World} (wk : Walk J n G Y) {g : TG} {tt : TT} {te : TE} {vs : List Nat} {σ : L2.St} {H1 : Hp} {D : Addr} {Qd : Hp → Prop} (Pv : Nat → Hp → Prop) (h0 : Pv 0 (upd H1 D (KS P w D []))) (hG : ∀ i H, i ≤ n → Pv i H → G H)
    (hs : ∀ i x H H', i < n → Pv i H → Y i H x H' → g x (wipe σ vs) H' fun σ2 H2 => wipe σ2 vs = wipe σ vs ∧ tt σ2 H2 fun b H3 =>
      if b = true then te σ2 H3 fun y H4 => ∃ (k : Key) (l : List Key), y = kV k ∧ H4 D = some (KS P w D l) ∧ l.length + 1 < scanBound ∧ Pv (i + 1) (upd H4 D (KS P w D (onK l k))) else Pv (i + 1) H3) (hd : ∀ H, Pv n H → Qd H) :
    ∃ W : Nat → Nat → Hp → Prop, (∃ m, W 0 m (upd H1 D (KS P w D []))) ∧ ∀ i m H, W i m H →
      (J.stop i H ∧ Qd H) ∨ (J.go i H ∧ ∃ Nx : Hp → Prop, (∀ H', Nx H' → ∃ m', m' < m ∧ W (i + 1) m' H') ∧ ∀ x H', J.yld i H x H' → g x (wipe σ vs) H' fun σ2 H2 => wipe σ2 vs = wipe σ vs ∧ tt σ2 H2 fun b H3 =>
        if b = true then te σ2 H3 fun y H4 => ∃ (k : Key) (l : List Key), y = kV k ∧ H4 D = some (KS P w D l) ∧ l.length + 1 < scanBound ∧ Nx (upd H4 D (KS P w D (onK l k))) else Nx H3) := by
  refine ⟨fun i m H => m = n - i ∧ i ≤ n ∧ Pv i H, ⟨n, rfl, Nat.zero_le _, h0⟩, fun i m H ⟨e, hi, p⟩ => ?_⟩
  subst e
  rcases Nat.lt_or_ge i n with lt | ge
  · exact .inr ⟨wk.goes i H lt (hG i H hi p), Pv (i + 1), fun H' p' => ⟨n - (i + 1), by omega, rfl, lt, p'⟩, fun x H' y => hs i x H H' lt p (wk.yields i H x H' lt (hG i H hi p) y)⟩
  · obtain rfl : i = n := by omega
    exact .inl ⟨wk.stops H (hG i H hi p), hd H p⟩
end
section
variable {X : Cx} {E : XK}
theorem d_lenSc {elt tg iter : Expr} {ifs : List Expr} {scope : Scope} {own : List (Str × Nat)} {is : List Nat} {p pos pos2 : Pos} {ti : DTI} {g : DTG} {tt : DTT} {te : DTE} (hm : X.mg "len" = none) (hc : X.calm = true) (hN : X.N.Nodup) (hi : DI X E tg iter ti) (ok : BlkOk X.N X.env.scope scope own)
    (hg : ∀ (s : Shared) (H : Hp) (C : Addr) (cl : List (Str × Addr)) (fp : List Addr), DG (X.blk s H scope (compEnvC scope cl C X.env) fp) tg is g) (ht : ∀ (s : Shared) (H : Hp) (C : Addr) (cl : List (Str × Addr)) (fp : List Addr), DTs (X.blk s H scope (compEnvC scope cl C X.env) fp) E0 ifs tt)
    (he : ∀ (s : Shared) (H : Hp) (C : Addr) (cl : List (Str × Addr)) (fp : List Addr), DE (X.blk s H scope (compEnvC scope cl C X.env) fp) E0 elt te) (hs : ∀ x, foldedSetIterable iter X.env x = pure x := by intro _; rfl) (hv : is.all (fun i => (own.map (·.2)).contains i) = true := by rfl) (hgl : Gl X "len" := by rfl)
    (hst : starEach [.SetComp elt [⟨tg, iter, ifs, 0⟩] scope pos] X.env = (false, eval (.SetComp elt [⟨tg, iter, ifs, 0⟩] scope pos) X.env) :: starEach [] X.env := by rfl) (hpl : (backTo pos2 (starEach [] X.env)).any (·.1) = false := by rfl) :
    DE X E (.Call (.Name "len" p) [.SetComp elt [⟨tg, iter, ifs, 0⟩] scope pos] [] pos2) (tScD ti g tt te (own.map (·.2))) := by
  obtain ⟨t0, p0, k0⟩ := hi.ex
  have hv' : ∀ i ∈ is, i ∈ own.map (·.2) := fun i h => List.contains_iff_mem.mp (List.all_eq_true.mp hv i h)
  refine ⟨_, pe_lenK hm (pe_sk hc hN p0 ok (g := lG X.K is g) (tt := lT X.K E0 tt) (te := lE X.K E0 te) (fun s H C cl fp => (hg s H C cl fp).pg) (fun s H C cl fp => (ht s H C cl fp).pts) (fun s H C cl fp => (he s H C cl fp).pe) hs) hgl hst hpl, fun B μ en m σ H Q Qx QV R hx T k => ?_⟩
  refine k0 B μ en m σ H _ Qx _ R hx T fun B1 μ1 m1 H1 its J s1 R1 ⟨G, Y, w, hG, hY⟩ q => ?_
  intro L nL
  obtain ⟨nb1, nl1⟩ := R1.mem.none nL
  have Rw := R1.wipe (own.map (·.2))
  generalize hen : wipeE en (own.map (·.2)) = enw at q Rw
  have nt : ∀ (l : List Key) ps, KS X.prog X.w L l ≠ .tbl ps := fun l ps z => nomatch z
  have nx : ∀ (l : List Key), (∀ q, KS X.prog X.w L l ≠ LamX.CodeO L q) ∧ ∀ ps, KS X.prog X.w L l ≠ .tbl ps := fun l => ⟨fun q => ks_code, nt l⟩
  refine sk_it w (fun i H' => ∃ B' μ' m' l, Stp B1 μ1 m1 H1 B' μ' m' H' ∧ MemOk X.K B' μ' m' H' ∧ B' L = none ∧ ¬ Live μ' m' L ∧ H' L = some (KS X.prog X.w L l) ∧ scL g tt te enw (its.drop i) l m' Q) ?_ (fun i H' _ ⟨B', μ', m', l, s', M', _⟩ => hG B' μ' m' H' s'.same M') (fun i x H2 H3 hi ⟨B', μ', m', l, s', M', nb, nl, hL, q'⟩ y => ?_) (fun H' ⟨B', μ', m', l, s', M', nb, nl, hL, q'⟩ => ?_)
  · have kp : ∀ b o, b ≠ L → H1 b = some o → upd H1 L (KS X.prog X.w L []) b = some o := fun b o c e => by rw [upd_ne c]; exact e
    exact ⟨B1, μ1, m1, [], Stp.refl.touch nL kp, R1.mem.touch nb1 nl1 kp, nb1, nl1, upd_same, q⟩
  · obtain ⟨B3, d, hd, s3, m3, rd⟩ := hY i B' μ' m' H2 x H3 hi s'.same M' y
    have s13 := s'.trans M' s3 R1.mem.le
    obtain ⟨nb3, nl3⟩ := s3.hid L _ nl hL (nx _) nb
    have hL3 := s3.out L _ nl hL (nt _)
    have R3 : Rel X.K B3 μ' enw m' (L2.wipe σ (own.map (·.2))) H3 := Rw.stp s13 m3
    rw [List.drop_eq_getElem_cons hi] at q'
    have ed : its[i] = d := by
      rw [List.getElem?_eq_getElem hi] at hd
      exact Option.some.inj hd
    rw [ed] at q'
    refine ⟨B3, μ', enw, m', .v d, _, R3, rd, q', fun B4 μ4 en4 m4 σ4 H4 s4 R4 st4 q4 => ⟨by rw [st4.wipe hv', wipe_wipe], ?_⟩⟩
    have s14 := s13.trans m3 s4 R1.mem.le
    obtain ⟨nb4, nl4⟩ := s4.hid L _ nl3 hL3 (nx _) nb3
    have hL4 := s4.out L _ nl3 hL3 (nt _)
    refine ⟨B4, μ4, en4, m4, _, noX, R4, ExOf.no, q4, fun B5 μ5 m5 H5 b s5 R5 q5 => ?_⟩
    have s15 := s14.trans R4.mem s5 R1.mem.le
    obtain ⟨nb5, nl5⟩ := s5.hid L _ nl4 hL4 (nx _) nb4
    have hL5 := s5.out L _ nl4 hL4 (nt _)
    cases b with
    | false => exact iteF ⟨B5, μ5, m5, l, s15, R5.mem, nb5, nl5, hL5, q5⟩
    | true =>
      refine iteT ⟨B5, μ5, en4, m5, _, noX, R5, ExOf.no, q5, fun B6 μ6 m6 H6 y v s6 R6 r6 q6 => ?_⟩
      obtain ⟨kk, ev, lz, q6⟩ := kOf_at r6 q6
      have s16 := s15.trans R5.mem s6 R1.mem.le
      obtain ⟨nb6, nl6⟩ := s6.hid L _ nl5 hL5 (nx _) nb5
      have hL6 := s6.out L _ nl5 hL5 (nt _)
      have kp : ∀ b o, b ≠ L → H6 b = some o → upd H6 L (KS X.prog X.w L (onK l kk)) b = some o := fun b o c e => by rw [upd_ne c]; exact e
      exact ⟨kk, l, ev, hL6, lz, B6, μ6, m6, onK l kk, s16.touch nL kp, R6.mem.touch nb6 nl6 kp, nb6, nl6, upd_same, q6⟩
  · rw [List.drop_length] at q'
    have stt := s1.trans R1.mem s' R.mem.le
    exact ⟨L, l, rfl, hL, k B' μ' m' H' _ _ stt (R.stp stt M') (RW.d (.int _)) q'⟩
/-- len(set(xs)) -/
def lsetD : D → (D → Prop) → Prop
  | .lst ds, Q => ∃ ks, ksD ds = some ks ∧ ks.length + 1 < scanBound ∧ Q (.int (allK ks).length)
  | _, _ => False
theorem c_lset : SC X (fun xs H Q => rSetL X.prog X.w X.K xs H fun x H1 => ∃ D l, x = .ref D ∧ H1 D = some (KS X.prog X.w D l) ∧ Q (.int l.length) H1) (c1 lsetD) := SC.of1 fun B μ m H v d Q QV M td q k => by
  cases d with
  | lst ds =>
    obtain ⟨p, vs, rfl, hp, rl⟩ := td
    obtain ⟨ks, ek, hb, q⟩ := q
    have ev := ksD_at rl ek
    subst ev
    refine ⟨_, ks, rfl, .inl (.inl hp), hb, fun L nL => ⟨L, allK ks, rfl, upd_same, ?_⟩⟩
    obtain ⟨nb1, nl1⟩ := M.none nL
    have kp : ∀ b o, b ≠ L → H b = some o → upd H L (KS X.prog X.w L (allK ks)) b = some o := fun b o c e => by rw [upd_ne c]; exact e
    exact k B _ _ _ (Stp.refl.touch nL kp) (M.touch nb1 nl1 kp) (.int _) q
  | _ => exact q.elim
theorem d_lenSet {e : Expr} {ta : DTA} {p p2 q2 pos : Pos} (hm : X.mg "len" = none) (hm2 : X.mg "set" = none) (hc : X.calm = true) (ha : DA X E [e] ta) (hg : Gl X "len" := by rfl) (hg2 : Gl X "set" := by rfl) (he : starEach [e] X.env = (false, eval e X.env) :: starEach [] X.env := by rfl) (hp0 : (backTo q2 (starEach [] X.env)).any (·.1) = false := by rfl)
    (hs : starEach [.Call (.Name "set" p2) [e] [] q2] X.env = (false, eval (.Call (.Name "set" p2) [e] [] q2) X.env) :: starEach [] X.env := by rfl) (hpl : (backTo pos (starEach [] X.env)).any (·.1) = false := by rfl) :
    DE X E (.Call (.Name "len" p) [.Call (.Name "set" p2) [e] [] q2] [] pos) (tCa (c1 lsetD) ta) := by
  obtain ⟨t1, p1, k1⟩ := ha.ex
  exact ⟨_, pe_lenK hm (pe_callTy (cr_setL hc) hg2 hm2 PyProof.Rows.boot_set p1 (by decide) (by decide) he hp0) hg hs hpl, k1.ca c_lset⟩
end
end Fs
set_option Elab.async false
set_option linter.all false
set_option maxRecDepth 100000
set_option maxHeartbeats 8000000
namespace Fs
open PySem PySem.Spec PyProof.Rows L2
theorem slice_len (z : Str) (lo hi : Option Int) : (Txt.slice z lo hi).length ≤ z.length := by
  rw [← C8.cutS_slice]
  unfold cutS
  show (List.take _ (List.drop _ z.cps.toList)).toArray.size ≤ z.cps.size
  rw [List.size_toArray, List.length_take, List.length_drop, Array.length_toList]
  omega
abbrev s__law_of : Stmt := top 20
abbrev N__law_of : List Str := ["_law_bag_here", "_law_things"]
abbrev P__law_of : List Str := ["_law_bag_here", "_law_things"]
theorem sc__law_of : FnScope N__law_of P__law_of (defScope s__law_of) := ⟨rfl, rfl, rfl, by decide +kernel, rfl, by decide +kernel, by decide +kernel⟩
section
variable {P : Program} {w : World} {K : Frag} {mg : Str → Option Value} {base : Heap}
def spOfD : SpD := fun ws m Q _ => ∃ n x ds, ws = [.loc n, .v x] ∧ m[n]? = some .bag ∧ (x = .lst ds ∨ x = .tup ds) ∧ ds ≠ [] ∧ ds.length < 2 ^ 64 ∧ ∀ d ∈ ds, Q (.v d) m
theorem dd__law_of (G : Gs K mg "_law_of" s__law_of) (g__law_pull : Gd P w K mg base (L2.CX P w) 1 "_law_pull" P__law_pull (lift K spPullD)) (m_len : mg "len" = none) : Gd P w K mg base (L2.CX P w) 2 "_law_of" P__law_of (lift K spOfD) := by
  refine Fo.gd (fo_d sc__law_of (fun ws m Q Qx h => ?_) (fun f cdv A outer s H E hr => ⟨_, (dss_one (ds_ret (d_ix (dv 1) (d_call g__law_pull (hr.mono (by omega)) (passE (takes_of rfl rfl rfl rfl)) (da_cons (dv 0) (da_cons (d_len m_len (da_cons (dv 1) da_nil)) da_nil)))))), fun ws m Qd Qx h => ?_⟩) [] []) G (fun _ _ _ _ _ _ us hl => match us, hl with | [_, _], _ => rfl)
  · obtain ⟨n, x, ds, rfl, _⟩ := h
    rfl
  · obtain ⟨n, x, ds, rfl, hm, hx, h0, h1, q⟩ := h
    have hl : 0 < ds.length := List.length_pos_iff.mpr h0
    rcases hx with rfl | rfl
    · refine ⟨n, ds.length, rfl, hm, by omega, by omega, fun r r0 r1 => ?_⟩
      have z := atI_i (xs := ds) r0 (by omega)
      exact ⟨_, z, List.prefix_refl _, q _ (atI_mem z)⟩
    · refine ⟨n, ds.length, rfl, hm, by omega, by omega, fun r r0 r1 => ?_⟩
      have z := atI_i (xs := ds) r0 (by omega)
      exact ⟨_, z, List.prefix_refl _, q _ (atI_mem z)⟩
end
/-! ### drawn names -/
def abc : Str := "abcdefghijklmnopqrstuvwxyz"
theorem abc_len : abc.cps.toList.length = 26 := by decide +kernel
theorem abc_ok : okS abc = true := by decide +kernel
def abcAt (i : Nat) : Str := ⟨#[abc.cps.toList.getD i 0]⟩
def wordsD : List Str := ["gap", "pad", "row", "pile", "grid", "clip", "hole", "room", "one", "and", "or"]
def rawN (stem : Str) (first at_ k : Nat) : Str := (Txt.slice stem none (some (at_ : Int)) ++ abcAt ((first + 5 * k) % 26)) ++ Txt.slice stem (some (at_ : Int)) none
def nameN (stem : Str) (first at_ k : Nat) : Str := if wordsD.any (fun y => y == rawN stem first at_ k) = true then ("z" ++ abcAt k) ++ "q" else rawN stem first at_ k
def Letters (z : Str) : Prop := ∀ c ∈ z.cps.toList, c ∈ abc.cps.toList
theorem at_abc {i : Nat} (h : i < 26) : atI abc.cps.toList (i : Int) = some (abc.cps.toList.getD i 0) := by
  have hk : i < abc.cps.toList.length := by rw [abc_len]; exact h
  have z := atI_nat (xs := abc.cps.toList) (j := i) (List.getElem?_eq_getElem hk)
  rw [z, List.getD_eq_getElem?_getD, List.getElem?_eq_getElem hk]
  rfl
theorem join_cps : ∀ zs : List Str, (Txt.join "" zs).cps.toList = zs.flatMap (·.cps.toList)
  | [] => rfl
  | x :: rest => by
    have e : Txt.join "" (x :: rest) = (⟨rest.foldl (fun acc p => acc ++ ("" : Str).cps ++ p.cps) x.cps⟩ : Str) := rfl
    rw [e]
    show (rest.foldl (fun acc p => acc ++ ("" : Str).cps ++ p.cps) x.cps).toList = _
    rw [jfold_cps]
    simp
    rfl
theorem sum_ones : ∀ (ys : List Str), (∀ y ∈ ys, y.length = 1) → (ys.map (·.length)).sum = ys.length
  | [], _ => rfl
  | y :: ys, h => by
    rw [List.map_cons, List.sum_cons, sum_ones ys fun z hz => h z (List.mem_cons_of_mem _ hz), h y List.mem_cons_self, List.length_cons]
    omega
/-- the names of a draw -/
def namesN (stem : Str) (first at_ m : Nat) : List Str := (List.range m).map (nameN stem first at_)
def spNamesD : SpD := fun ws m Q _ => ∃ n k, ws = [.loc n, .v (.int (k : Nat))] ∧ m[n]? = some .bag ∧ k ≤ 26 ∧ ∀ stem first at_, stem.length ≤ 3 → Letters stem → first < 26 → at_ ≤ stem.length → Q (.v (.lst ((namesN stem first at_ k).map .str))) m
abbrev s__law_names : Stmt := top 27
abbrev N__law_names : List Str := ["_law_bag_here", "_law_many", "_law_letters", "_law_first", "_law_long", "_law_stem", "_law_at", "_law_found", "_law_k", "_law_name"]
abbrev P__law_names : List Str := ["_law_bag_here", "_law_many"]
abbrev O__law_names_0 : List (Str × Nat) := [("_law_k", 8)]
theorem sc__law_names : FnScope N__law_names P__law_names (defScope s__law_names) := ⟨rfl, rfl, rfl, by decide +kernel, rfl, by decide +kernel, by decide +kernel⟩
section
variable {P : Program} {w : World} {K : Frag} {mg : Str → Option Value} {base : Heap}
theorem dd__law_names (G : Gs K mg "_law_names" s__law_names) (g__law_pull : Gd P w K mg base (L2.CX P w) 1 "_law_pull" P__law_pull (lift K spPullD)) (m_range : mg "range" = none) (m_int : mg "int" = none) : Gd P w K mg base (L2.CX P w) 2 "_law_names" P__law_names (lift K spNamesD) := by
  refine Fo.gd (fo_d sc__law_names (fun ws m Q Qx h => ?_) (fun f cdv A outer s H E hr => ⟨_, (dss_cons (ds_set (i := 2) sc__law_names.nd rfl (.inr rfl) d_str)
    (dss_cons (ds_par (i := 3) (j := 4) rfl sc__law_names.nd rfl rfl (by decide) rfl rfl (da_cons (d_call g__law_pull (hr.mono (by omega)) (passE (takes_of rfl rfl rfl rfl)) (da_cons (dv 0) (da_cons d_int da_nil))) (da_cons (d_call g__law_pull (hr.mono (by omega)) (passE (takes_of rfl rfl rfl rfl)) (da_cons (dv 0) (da_cons d_int da_nil))) da_nil)) (by rfl))
    (dss_cons (ds_set (i := 5) sc__law_names.nd rfl (.inl rfl) (d_join d_str (da_cons (d_lc (own := O__law_names_0) rfl sc__law_names.nd (di_range1 m_range (da_cons (dv 4) da_nil)) (blkOk_by (own := O__law_names_0) (N := N__law_names) (sc := defScope s__law_names) (by decide +kernel)) (fun _ _ _ _ _ => (dg_name (i := 8) sc__law_names.nd rfl (.inl rfl))) (fun _ _ _ _ _ => dts_nil) (fun _ _ _ _ _ => (d_ix (dv 2) (d_call g__law_pull (hr.mono (by omega)) passF (da_cons (dv 0) (da_cons d_int da_nil)))))) da_nil)))
    (dss_cons (ds_set (i := 6) sc__law_names.nd rfl (.inl rfl) (d_call g__law_pull (hr.mono (by omega)) (passE (takes_of rfl rfl rfl rfl)) (da_cons (dv 0) (da_cons (d_op o_add (dv 4) d_int) da_nil))))
    (dss_cons (ds_set (i := 7) sc__law_names.nd rfl (.inl rfl) (d_lstO da_nil))
    (dss_cons (ds_for (passes_of rfl) rfl (di_range1 m_range (da_cons (dv 1) da_nil)) (dg_name (i := 8) sc__law_names.nd rfl (.inl rfl))
      (dss_cons (ds_set (i := 9) sc__law_names.nd rfl (.inl rfl) (d_op o_add (d_op o_add (d_slice (dv 5) do_none (do_some (dv 6))) (d_ix (dv 2) (d_op o_mod (d_toInt m_int (da_cons (d_op o_add (dv 3) (d_op o_mul d_int (dv 8))) da_nil)) d_int))) (d_slice (dv 5) (do_some (dv 6)) do_none)))
      (dss_one (ds_expr (d_app (dv 7) (da_cons (d_if (dt_cmp (o_notin (u65 hr)) (dv 9) (d_lst (da_cons d_str (da_cons d_str (da_cons d_str (da_cons d_str (da_cons d_str (da_cons d_str (da_cons d_str (da_cons d_str (da_cons d_str (da_cons d_str (da_cons d_str da_nil)))))))))))) (by rfl)) (dv 9) (d_op o_add (d_op o_add d_str (d_ix (dv 2) (dv 8))) d_str)) da_nil))))))
    (dss_fz 7 (dss_one (ds_ret (dv 7)))))))))), fun ws m Qd Qx h => ?_⟩) [] []) G (fun _ _ _ _ _ _ us hl => match us, hl with | [_, _], _ => rfl)
  · obtain ⟨_, _, rfl, _⟩ := h
    rfl
  · obtain ⟨n, k, rfl, hm, hk, q⟩ := h
    refine ⟨n, 26, rfl, hm, by decide, by decide, fun first f0 f1 => ?_⟩
    refine ⟨n, 4, rfl, hm, by decide, by decide, fun lg l0 l1 => ?_⟩
    refine ⟨trivial, ⟨by omega, by omega, ?_⟩⟩
    have el : ∀ r : Int, 0 ≤ r → r < 26 → ∃ c, atI abc.cps.toList r = some c ∧ c ∈ abc.cps.toList := fun r r0 r1 => by
      have z := atI_i (xs := abc.cps.toList) r0 (by rw [abc_len]; omega)
      exact ⟨_, z, atI_mem z⟩
    refine lcL_all (fun _ _ y => ∃ z, y = .str z ∧ z.length = 1 ∧ Letters z) 0 (by rw [rngD_len, sizeLine_eq]; show 0 + _ ≤ _; omega) (fun j d Qt hd hq => ?_) fun ys hys => ?_
    · refine ⟨n, 26, rfl, hm, by decide, by decide, fun r r0 r1 => ?_⟩
      obtain ⟨c, hc, hm2⟩ := el r r0 r1
      refine ⟨by decide +kernel, c, hc, hq _ ⟨_, rfl, rfl, fun c' h' => ?_⟩⟩
      have e : c' = c := by simpa using h'
      rw [e]
      exact hm2
    obtain ⟨zs, rfl, hz⟩ : ∃ zs : List Str, ys = zs.map .str ∧ ∀ z ∈ zs, z.length = 1 ∧ Letters z := by
      clear q
      generalize rngD 0 lg.toNat = its at hys
      generalize 0 = i0 at hys
      induction hys with
      | nil => exact ⟨[], rfl, by simp⟩
      | cons r _ ih =>
        obtain ⟨z, rfl, h1⟩ := r
        obtain ⟨zs, rfl, h2⟩ := ih
        exact ⟨z :: zs, rfl, fun u hu => by
          rcases List.mem_cons.mp hu with rfl | hu
          · exact h1
          · exact h2 _ hu⟩
    have hzl : zs.length = lg.toNat := by
      have z := hys.len
      rw [rngD_len, List.length_map] at z
      exact z.symm
    have tx : ∀ (zs : List Str) (Q : List Str → Prop), Q zs → texts (zs.map D.str) Q := by
      intro zs
      induction zs with
      | nil => exact fun Q h => h
      | cons z zs ih => exact fun Q h => ih (fun bs => Q (z :: bs)) h
    refine tx zs _ ⟨?_, ?_⟩
    · rw [sum_ones zs fun z h => (hz z h).1]
      show zs.length + zs.length * 0 ≤ _
      omega
    obtain ⟨W, eW, hj⟩ : ∃ W : Str, W = Txt.join "" zs ∧ W.length ≤ lg.toNat := ⟨_, rfl, by
      have z := StrLaws.join_length_le "" zs
      rw [← PySem.StrLaws.glued_eq_join, sum_ones zs fun z h => (hz z h).1] at z
      have z2 : (Txt.join "" zs).length ≤ zs.length + zs.length * 0 := z
      omega⟩
    have hWL : Letters W := fun c hc => by
      rw [eW, join_cps] at hc
      obtain ⟨z, hz1, hc⟩ := List.mem_flatMap.mp hc
      exact (hz z hz1).2 c hc
    have hjl : W.length = lg.toNat := by
      have z : (Txt.join "" zs).cps.toList.length = zs.length := by
        rw [join_cps, List.length_flatMap]
        exact sum_ones zs fun z h => (hz z h).1
      rw [Array.length_toList] at z
      rw [eW, ← hzl]
      exact z
    rw [← eW]
    refine ⟨n, lg + 1, rfl, hm, by omega, by omega, fun at0 a0 a1 => ?_⟩
    obtain ⟨fn, rfl⟩ : ∃ n : Nat, first = n := ⟨first.toNat, by omega⟩
    obtain ⟨an, rfl⟩ : ∃ n : Nat, at0 = n := ⟨at0.toNat, by omega⟩
    have W3 : W.length ≤ 3 := by omega
    refine ⟨by decide, by omega, by omega, ?_⟩
    refine sFor0 (fun i en m' => ∃ v8 v9, en = [some (.loc n), some (.v (.int k)), some (.v (.str abc)), some (.v (.int fn)), some (.v (.int lg)), some (.v (.str W)), some (.v (.int an)), some (.loc m.length), v8, v9] ∧ m' = m ++ [.lst ((namesN W fn an i).map .str)]) ⟨none, none, rfl, rfl⟩ ?_ ?_
    · rintro j d en m' N' hd ⟨v8, v9, rfl, rfl⟩ r1 r2 r3 hn
      obtain ⟨rfl, hj2⟩ := rngD_at hd
      have hi26 : j < 26 := by omega
      have l1' := slice_len W none (some (an : Int))
      have l2 := slice_len W (some (an : Int)) none
      have la1 : ∀ j, (abcAt j).length = 1 := fun _ => rfl
      have e1 : ((fn : Int) + 5 * (0 + (j : Int))) % 26 = (((fn + 5 * j) % 26 : Nat) : Int) := by omega
      have ln := sizeLine_eq
      refine ⟨by omega, ?_⟩
      refine ⟨wide_mul (a := 10) (b := 10) (by decide) (by omega) (by omega) (by omega) (by omega), by decide, by decide +kernel, _, (by rw [e1]; exact at_abc (Nat.mod_lt _ (by decide))), ?_⟩
      refine ⟨by show _ + 1 ≤ sizeLine; omega, by omega, ?_⟩
      refine ⟨by rw [Str.length_append]; show _ + 1 + _ ≤ sizeLine; omega, ?_⟩
      refine ⟨lstAt_last trivial, ?_⟩
      have raw : (Txt.slice W none (some (an : Int)) ++ (⟨#[abc.cps.toList.getD ((fn + 5 * j) % 26) 0]⟩ : Str)) ++ Txt.slice W (some (an : Int)) none = rawN W fn an j := rfl
      have done : ∀ z, z = nameN W fn an j → lstAt (m ++ [.lst ((namesN W fn an j).map .str)]) m.length fun ds => ds.length < sizeLine ∧ N'.nx [some (.loc n), some (.v (.int k)), some (.v (.str abc)), some (.v (.int fn)), some (.v (.int lg)), some (.v (.str W)), some (.v (.int an)), some (.loc m.length), some (.v (.int (0 + (j : Nat)))), some (.v (.str (rawN W fn an j)))] ((m ++ [MO.lst ((namesN W fn an j).map D.str)]).set m.length (MO.lst (ds ++ [D.str z]))) := by
        intro z hz
        subst hz
        refine lstAt_last ⟨?_, ?_⟩
        · rw [List.length_map]
          unfold namesN
          rw [List.length_map, List.length_range]
          omega
        · rw [set_last]
          refine (hn _ _ ⟨_, _, rfl, ?_⟩).1
          unfold namesN
          rw [List.range_succ, List.map_append, List.map_append]
          rfl
      have ew : ([D.str "gap", .str "pad", .str "row", .str "pile", .str "grid", .str "clip", .str "hole", .str "room", .str "one", .str "and", .str "or"].any fun y => deq y (.str (rawN W fn an j))) = wordsD.any (fun y => y == rawN W fn an j) := rfl
      refine ⟨by show 11 ≤ sizeLine; omega, rfl, rfl, Nat.zero_le _, by decide, ?_⟩
      refine iteB (fun c => ?_) (fun c => ?_)
      · refine done _ ?_
        have c : (!wordsD.any (fun y => y == rawN W fn an j)) = true := c
        unfold nameN
        rw [if_neg (by rw [Bool.not_eq_true'] at c; rw [c]; decide)]
        rfl
      · have c : (!wordsD.any (fun y => y == rawN W fn an j)) = false := c
        refine ⟨by decide +kernel, _, (by rw [Int.zero_add]; exact at_abc hi26), by show _ + 1 ≤ sizeLine; have : ("z" : Str).length = 1 := rfl; omega, by rw [Str.length_append]; show 1 + 1 + 1 ≤ sizeLine; omega, done _ ?_⟩
        unfold nameN
        rw [if_pos (by simpa using c)]
        rfl
    · rintro en m' ⟨v8, v9, rfl, rfl⟩
      rw [rngD_len]
      have ek : ((k : Nat) : Int).toNat = k := by omega
      rw [ek]
      dsimp only
      refine ret_last rfl ?_
      exact ⟨List.prefix_append _ _, q W fn an W3 hWL (by omega) (by omega)⟩
end
end Fs
set_option Elab.async false
set_option linter.all false
set_option maxRecDepth 100000
set_option maxHeartbeats 8000000
namespace Fs
open PySem PySem.Spec PyProof.Rows L2
/-- a new dict is locked for good -/
def fzV (Q : VK) : VK := fun v H => ∃ a kvs, v = .ref a ∧ H a = some (.dK kvs) ∧ ∀ od, Q v (upd H a (.frz od (.dK kvs)))
theorem ep_frz {X : Cx} {pins : List (Addr × Obj)} {σ : L2.St} {Q : VK} {u : Value} {s : Shared} (h : EP X pins σ (fzV Q) u s) : EP X pins σ Q u s := by
  obtain ⟨v, H', I, r, a, kvs, rfl, e, q⟩ := h
  obtain ⟨od, J⟩ := I.lock e trivial
  exact ⟨_, _, J, r, q od⟩
theorem pe_frz {X : Cx} {e : Expr} {t : TE} (h : PE X e t) : PE X e (fun σ H Q => t σ H (fzV Q)) :=
  ⟨fun pins s σ H Q I q => wpAny_mono (h.run pins s σ H _ I q) (fun _ _ z => ep_frz z) fun _ _ z => z⟩
theorem cr_frz {X : Cx} {f : Value} {r : List V → Hp → VK → Prop} (h : CallR X f r) : CallR X f (fun xs H Q => r xs H (fzV Q)) :=
  fun pins s σ H xs us Q I rx q => wpAny_mono (h pins s σ H xs us _ I rx q) (fun _ _ z => ep_frz z) fun _ _ z => z
/-! ### key and value -/
def valD (kvs : List (Key × D)) (k : Key) : Option D := (kvs.find? fun kv => decide (kv.1 = k)).map (·.2)
def putD' (kvs : List (Key × D)) (k : Key) (v : D) : List (Key × D) :=
  if (kvs.any fun kv => decide (kv.1 = k)) = true then kvs.map (fun kv => if kv.1 = k then (kv.1, v) else kv) else kvs ++ [(k, v)]
theorem RvK.keys {K : Frag} {B : Hp} : ∀ {vs : List (Key × V)} {ds : List (Key × D)}, RvK K B vs ds → vs.map (·.1) = ds.map (·.1)
  | _, _, .nil => rfl
  | _, _, .cons _ _ t => by rw [List.map_cons, List.map_cons, t.keys]
theorem RvK.any {K : Frag} {B : Hp} (k : Key) : ∀ {vs : List (Key × V)} {ds : List (Key × D)}, RvK K B vs ds → (vs.any fun kv => decide (kv.1 = k)) = (ds.any fun kv => decide (kv.1 = k))
  | _, _, .nil => rfl
  | _, _, .cons _ _ t => by rw [List.any_cons, List.any_cons, t.any k]
theorem RvK.val {K : Frag} {B : Hp} (k : Key) : ∀ {vs : List (Key × V)} {ds : List (Key × D)}, RvK K B vs ds → (valV vs k = none ∧ valD ds k = none) ∨ ∃ v d, valV vs k = some v ∧ valD ds k = some d ∧ Rv K B v d
  | _, _, .nil => .inl ⟨rfl, rfl⟩
  | _, _, .cons (k := k0) (v := v) (vs := vs) (d := d) (ds := ds) _ r t => by
    by_cases c : k0 = k
    · refine .inr ⟨v, d, by rw [valV_pos c], ?_, r⟩
      simp [valD, List.find?_cons, c]
    · rw [valV_neg (p := (k0, v)) c]
      have z : valD ((k0, d) :: ds) k = valD ds k := by simp [valD, List.find?_cons, c]
      rw [z]
      exact t.val k
theorem RvK.app {K : Frag} {B : Hp} : ∀ {vs us : List (Key × V)} {ds es : List (Key × D)}, RvK K B vs ds → RvK K B us es → RvK K B (vs ++ us) (ds ++ es)
  | _, _, _, _, .nil, r => r
  | _, _, _, _, .cons k h t, r => .cons k h (t.app r)
theorem RvK.mapput {K : Frag} {B : Hp} {k : Key} {v : V} {d : D} (h : Rv K B v d) : ∀ {vs : List (Key × V)} {ds : List (Key × D)}, RvK K B vs ds → RvK K B (vs.map fun kv => if kv.1 = k then (kv.1, v) else kv) (ds.map fun kv => if kv.1 = k then (kv.1, d) else kv)
  | _, _, .nil => .nil
  | _, _, .cons (k := k0) ko h0 t => by
    rw [List.map_cons, List.map_cons]
    by_cases c : k0 = k
    · rw [if_pos c, if_pos c]
      exact .cons ko h (t.mapput h)
    · rw [if_neg c, if_neg c]
      exact .cons ko h0 (t.mapput h)
theorem RvK.put {K : Frag} {B : Hp} {k : Key} {v : V} {d : D} {vs : List (Key × V)} {ds : List (Key × D)} (r : RvK K B vs ds) (ko : KeyOk k) (h : Rv K B v d) : RvK K B (putK vs k v) (putD' ds k d) := by
  unfold putK putD'
  rw [r.any k]
  split
  · exact r.mapput h
  · exact r.app (.cons ko h .nil)
/-- what was new becomes a datum, locked -/
theorem frz_laid {K : Frag} {B1 B' : Hp} {μ1 μ' : List Addr} {m1 m' : Me} {H1 H' : Hp} {L : Addr} {od : Obj} {vs : List (Key × V)} (M1 : MemOk K B1 μ1 m1 H1) (nL : H1 L = none) (s' : Stp B1 μ1 m1 H1 B' μ' m' H') (M' : MemOk K B' μ' m' H') (nb : B' L = none) (nl : ¬ Live μ' m' L) :
    Stp B1 μ1 m1 H1 (upd B' L (.frz od (.dK vs))) μ' m' (upd H' L (.frz od (.dK vs))) ∧ MemOk K (upd B' L (.frz od (.dK vs))) μ' m' (upd H' L (.frz od (.dK vs))) ∧ Same B' (upd B' L (.frz od (.dK vs))) := by
  have same : Same B' (upd B' L (.frz od (.dK vs))) := same_new nb _
  have kp : ∀ b o, b ≠ L → H' b = some o → upd H' L (.frz od (.dK vs)) b = some o := fun b o c e => by rw [upd_ne c]; exact e
  have s2 := s'.touch nL kp
  have M2 := M'.touch nb nl kp
  refine ⟨⟨s2.same.trans same, s2.pre, s2.out, fun a o n e x b => ?_⟩, ⟨fun a o e => ?_, M2.len, fun a l => ?_, fun n a x e1 e2 e3 => OO.to same (List.prefix_refl _) (fun _ z => z) (M2.at_ n a x e1 e2 e3), M2.inj, fun a ps e => ?_⟩, same⟩
  · obtain ⟨h1, h2⟩ := s2.hid a o n e x b
    refine ⟨?_, h2⟩
    rw [upd_ne (ne_of_none e nL)]
    exact h1
  · by_cases c : a = L
    · subst c
      rw [upd_same] at e
      cases e
      exact upd_same
    · rw [upd_ne c] at e
      exact M2.le a o e
  · have c : a ≠ L := fun z => by
      subst z
      exact nl l
    rw [upd_ne c]
    exact M2.off a l
  · by_cases c : a = L
    · subst c
      rw [upd_same] at e
      cases e
    · rw [upd_ne c] at e
      exact M2.ntb a ps e
section
variable {X : Cx} {E : XK}
/-! ### d[k], d.get(k, x), k in d -/
/-- a key's datum -/
def keyD : D → (Key → Prop) → Prop
  | .str x, Q => Q (.inr x)
  | .int i, Q => Q (.inl i)
  | _, _ => False
theorem keyD_ok {K : Frag} {B H : Hp} {v : V} {d : D} {Q : Key → Prop} (t : Top K B H v d) (q : keyD d Q) : ∃ k, v = kV k ∧ KeyOk k ∧ Q k := by
  cases d with
  | str x => cases (show Rv K B v (.str x) from t) with | str h => exact ⟨.inr x, rfl, h, q⟩
  | int i => cases (show Rv K B v (.int i) from t); exact ⟨.inl i, rfl, trivial, q⟩
  | _ => exact q.elim
def dicD : D → (List (Key × D) → Prop) → Prop
  | .dic kvs, Q => Q kvs
  | _, _ => False
theorem dicD_ok {K : Frag} {B H : Hp} {v : V} {d : D} {Q : List (Key × D) → Prop} (t : Top K B H v d) (q : dicD d Q) : ∃ a vs kvs, v = .ref a ∧ Rd H a (.dK vs) ∧ RvK K B vs kvs ∧ Q kvs := by
  cases d with
  | dic kvs => obtain ⟨a, vs, rfl, h, r⟩ := t; exact ⟨a, vs, kvs, rfl, h, r, q⟩
  | _ => exact q.elim
theorem top_str {K : Frag} {B H H' : Hp} {v : V} {k : Key} : v = kV k → v = kV k := id
def tDk (td ty : DTE) : DTE := fun en m Q Qx => td en m (fun x m1 => ty en m1 (fun y m2 => look x m2 fun dx => look y m2 fun dy => dicD dx fun kvs => keyD dy fun k => ∃ d, valD kvs k = some d ∧ Q (.v d) m2) Qx) Qx
theorem d_dk {o i : Expr} {td ty : DTE} {pos : Pos} (hu : X.A.units + 65 < cLine) (ho : DE X E o td) (hi : DE X E i ty) (hs : NoSl i := by exact fun _ _ => rfl) : DE X E (.Subscript o i pos) (tDk td ty) := by
  obtain ⟨t1, p1, k1⟩ := ho.ex
  obtain ⟨t2, p2, k2⟩ := hi.ex
  refine ⟨_, pe_dget (by omega) p1 p2 hs, fun B μ en m σ H Q Qx QV R hx T k => ?_⟩
  refine k1 B μ en m σ H _ Qx _ R hx T fun B1 μ1 m1 H1 x v s1 R1 r1 T1 => ?_
  refine k2 B1 μ1 en m1 σ H1 _ Qx _ R1 (hx.step s1 R1.mem R.mem.le) T1 fun B2 μ2 m2 H2 y u s2 R2 r2 T2 => ?_
  have s12 := s1.trans R1.mem s2 R.mem.le
  obtain ⟨dx, tx, T3⟩ := look_ok R2.mem (r1.to s2.same s2.pre) T2
  obtain ⟨dy, ty', T4⟩ := look_ok R2.mem r2 T3
  obtain ⟨a, vs, kvs, rfl, hd, rk, T5⟩ := dicD_ok tx T4
  obtain ⟨kk, rfl, ko, d, hv, q⟩ := keyD_ok ty' T5
  rcases rk.val kk with ⟨_, z⟩ | ⟨v, d', z1, z2, rv⟩
  · rw [z] at hv
    cases hv
  · rw [z2] at hv
    cases hv
    exact ⟨a, v, rfl, .inl ⟨vs, kk, hd, rfl, z1.symm⟩, k B2 μ2 m2 H2 (.v d) v s12 R2 (RW.d rv) q⟩
/-- d.get(k, z), z a datum -/
def tDg (td ty tz : DTE) : DTE := fun en m Q Qx => td en m (fun x m1 => look x m1 fun dx => dicD dx fun _ => ty en m1 (fun y m2 => tz en m2 (fun z m3 => look x m3 fun dx => look y m3 fun dy => oD z fun dz => dicD dx fun kvs => keyD dy fun k => Q (.v ((valD kvs k).getD dz)) m3) Qx) Qx) Qx
theorem d_dg {o e f : Expr} {td ty tz : DTE} {apos cpos : Pos} (hu : X.A.units + 65 < cLine) (ho : DE X E o td) (he : DE X E e ty) (hf : DE X E f tz) (m2 : M2 X o "get" apos e f cpos := by exact ⟨rfl, rfl, rfl, rfl⟩) : DE X E (.Call (.Attribute o "get" apos) [e, f] [] cpos) (tDg td ty tz) := by
  obtain ⟨t1, p1, k1⟩ := ho.ex
  obtain ⟨t2, p2, k2⟩ := he.ex
  obtain ⟨t3, p3, k3⟩ := hf.ex
  refine ⟨_, pe_dget2 (by omega) p1 p2 p3 m2, fun B μ en m σ H Q Qx QV R hx T k => ?_⟩
  refine k1 B μ en m σ H _ Qx _ R hx T fun B1 μ1 m1 H1 x v s1 R1 r1 T1 => ?_
  obtain ⟨dx, tx, T1⟩ := look_ok R1.mem r1 T1
  obtain ⟨a, vs, kvs, rfl, hd, rk, T1⟩ := dicD_ok tx T1
  refine ⟨a, rfl, .inl ⟨vs, hd⟩, ?_⟩
  refine k2 B1 μ1 en m1 σ H1 _ Qx _ R1 (hx.step s1 R1.mem R.mem.le) T1 fun B2 μ2 m2 H2 y u s2 R2 r2 T2 => ?_
  have s12 := s1.trans R1.mem s2 R.mem.le
  refine k3 B2 μ2 en m2 σ H2 _ Qx _ R2 (hx.step s12 R2.mem R.mem.le) T2 fun B3 μ3 m3 H3 z w s3 R3 r3 T3 => ?_
  have s13 := s12.trans R2.mem s3 R.mem.le
  have s23 := s2.trans R2.mem s3 R1.mem.le
  obtain ⟨dx, tx, T4⟩ := look_ok R3.mem (r1.to s23.same s23.pre) T3
  obtain ⟨dy, ty', T5⟩ := look_ok R3.mem (r2.to s3.same s3.pre) T4
  cases z with
  | loc n => exact T5.elim
  | v dz =>
    obtain ⟨a', vs', kvs', ea, hd', rk', T6⟩ := dicD_ok tx T5
    cases ea
    obtain ⟨kk, rfl, ko, q⟩ := keyD_ok ty' T6
    refine ⟨valV vs' kk, .inl ⟨vs', kk, hd', rfl, rfl⟩, ?_⟩
    rcases rk'.val kk with ⟨z1, z2⟩ | ⟨v, d', z1, z2, rv⟩
    · rw [z1]
      rw [z2] at q
      exact k B3 μ3 m3 H3 (.v dz) w s13 R3 r3 q
    · rw [z1]
      rw [z2] at q
      exact k B3 μ3 m3 H3 (.v d') v s13 R3 (RW.d rv) q
def inKD (g : Bool → Bool) : F2 := fun x y Q => dicD y fun kvs => keyD x fun k => Q (.bl (g (valD kvs k).isSome))
theorem o_inK (hu : X.A.units + 65 < cLine) : OpD X (compareOp .In) (oL (inKD id)) := by
  refine ⟨fun x y H Q => ∃ a o, y = .ref a ∧ DGet H a x o ∧ Q (.bl o.isSome) H, ?_, SO.of fun B μ m H v u dx dy Q QV M tx ty q k => ?_⟩
  · intro pins s σ H x y v u Q I rx ry ⟨a, o, hy, g, q⟩
    subst hy
    cases (show u = Value.ref a from ry)
    exact d_in (by omega) I g rx fun s' I' => ⟨.bl o.isSome, H, I', rfl, q⟩
  · obtain ⟨a, vs, kvs, rfl, hd, rk, q⟩ := dicD_ok ty q
    obtain ⟨kk, rfl, ko, q⟩ := keyD_ok tx q
    refine ⟨a, _, rfl, .inl ⟨vs, kk, hd, rfl, rfl⟩, ?_⟩
    rcases rk.val kk with ⟨z1, z2⟩ | ⟨v, d', z1, z2, rv⟩
    · rw [z1]
      rw [z2] at q
      exact SO.pure M k (.bl _) q
    · rw [z1]
      rw [z2] at q
      exact SO.pure M k (.bl _) q
theorem o_notinK (hu : X.A.units + 65 < cLine) : OpD X (compareOp .NotIn) (oL (inKD (!·))) := by
  refine ⟨fun x y H Q => ∃ a o, y = .ref a ∧ DGet H a x o ∧ Q (.bl (!o.isSome)) H, ?_, SO.of fun B μ m H v u dx dy Q QV M tx ty q k => ?_⟩
  · intro pins s σ H x y v u Q I rx ry ⟨a, o, hy, g, q⟩
    subst hy
    cases (show u = Value.ref a from ry)
    exact d_notIn (by omega) I g rx fun s' I' => ⟨.bl (!o.isSome), H, I', rfl, q⟩
  · obtain ⟨a, vs, kvs, rfl, hd, rk, q⟩ := dicD_ok ty q
    obtain ⟨kk, rfl, ko, q⟩ := keyD_ok tx q
    refine ⟨a, _, rfl, .inl ⟨vs, kk, hd, rfl, rfl⟩, ?_⟩
    rcases rk.val kk with ⟨z1, z2⟩ | ⟨v, d', z1, z2, rv⟩
    · rw [z1]
      rw [z2] at q
      exact SO.pure M k (.bl _) q
    · rw [z1]
      rw [z2] at q
      exact SO.pure M k (.bl _) q
/-! ### dict(d), sorted(d), list(d), sorted(texts) -/
/-- a new dict with the items of d -/
def dcpD : D → (D → Prop) → Prop := fun d Q => dicD d fun kvs => Q (.dic kvs)
theorem c_dict : SC X (fun xs H Q => ∃ (a : Addr) (kvs : List (Key × V)), xs = [.ref a] ∧ Rd H a (.dK kvs) ∧ ∀ p, H p = none → fzV Q (.ref p) (upd H p (.dK kvs))) (c1 dcpD) := SC.of1 fun B μ m H v d Q QV M td q k => by
  obtain ⟨a, vs, kvs, rfl, hd, rk, q⟩ := dicD_ok td q
  refine ⟨a, vs, rfl, hd, fun p np => ⟨p, vs, rfl, upd_same, fun od => ?_⟩⟩
  rw [upd_upd]
  exact SO.new M k (o := .frz od (.dK vs)) np (.dic upd_same (rk.to (laid_same M np))) q
theorem d_dict {e : Expr} {ta : DTA} {p pos : Pos} (hm : X.mg "dict" = none) (ha : DA X E [e] ta) (hg : Gl X "dict" := by rfl) (he : starEach [e] X.env = (false, eval e X.env) :: starEach [] X.env := by rfl) (hpl : (backTo pos (starEach [] X.env)).any (·.1) = false := by rfl) : DE X E (.Call (.Name "dict" p) [e] [] pos) (tCa (c1 dcpD) ta) :=
  d_tyc (cr_frz call_dictD) c_dict hm (by decide +kernel) ha hg (by decide) (by decide) he hpl
/-- texts, sorted -/
def txtL : List D → (List Str → Prop) → Prop
  | [], Q => Q []
  | .str x :: r, Q => txtL r fun xs => Q (x :: xs)
  | _ :: _, _ => False
def keysL : List (Key × D) → (List Str → Prop) → Prop
  | [], Q => Q []
  | (.inr x, _) :: r, Q => keysL r fun xs => Q (x :: xs)
  | (.inl _, _) :: _, _ => False
def srtD : D → (D → Prop) → Prop
  | .lst ds, Q => txtL ds fun xs => xs.length < 64 ∧ ∀ ys : List Str, ys.Perm xs → sortedS ys = true → Q (.lst (ys.map .str))
  | .dic kvs, Q => keysL kvs fun xs => xs.length < 64 ∧ ∀ ys : List Str, ys.Perm xs → sortedS ys = true → Q (.lst (ys.map .str))
  | _, _ => False
end
end Fs
set_option Elab.async false
set_option linter.all false
set_option maxRecDepth 100000
set_option maxHeartbeats 8000000
namespace Fs
open PySem PySem.Spec PyProof.Rows L2
/-- an own dict becomes a datum, locked -/
theorem frz_own {K : Frag} {B : Hp} {μ : List Addr} {m : Me} {H : Hp} {n : Nat} {a : Addr} {kvs : List (Key × D)} {vs : List (Key × V)} {od : Obj} (M : MemOk K B μ m H) (ha : μ[n]? = some a) (hm : m[n]? = some (.dic kvs)) :
    Stp B μ m H (upd B a (.frz od (.dK vs))) μ (m.set n .gone) (upd H a (.frz od (.dK vs))) ∧ MemOk K (upd B a (.frz od (.dK vs))) μ (m.set n .gone) (upd H a (.frz od (.dK vs))) := by
  have la : Live μ m a := ⟨n, _, ha, hm, rfl⟩
  have nb := M.off a la
  have lv : ∀ {k : Nat} {x : MO}, (m.set n .gone)[k]? = some x → x.live = true → k ≠ n ∧ m[k]? = some x := fun {k x} e l => by
    by_cases c : k = n
    · subst c
      rw [List.getElem?_set_self (List.getElem?_eq_some_iff.mp hm).1] at e
      cases e
      cases l
    · rw [List.getElem?_set_ne (fun z => c z.symm)] at e
      exact ⟨c, e⟩
  have ne : ∀ {k : Nat} {b : Addr} {x : MO}, k ≠ n → μ[k]? = some b → m[k]? = some x → x.live = true → b ≠ a := fun {k b x} c e1 e2 l z => by
    subst z
    exact c (M.inj k n b x _ e1 ha e2 hm l rfl)
  have same : Same B (upd B a (.frz od (.dK vs))) := same_new nb _
  refine ⟨⟨same, List.prefix_refl _, fun b o nl e _ => ?_, fun b o nl e _ q => ⟨?_, fun l => ?_⟩⟩, ⟨fun b u e => ?_, by simp [M.len], fun b l => ?_, fun k b x e1 e2 e3 => ?_, fun k j b x y e1 e2 e3 e4 l1 l2 => ?_, fun b ps e => ?_⟩⟩
  · rw [upd_ne (fun z : b = a => nl (z ▸ la))]
    exact e
  · rw [upd_ne (fun z : b = a => nl (z ▸ la))]
    exact q
  · obtain ⟨k, x, e1, e2, e3⟩ := l
    obtain ⟨_, e4⟩ := lv e2 e3
    exact nl ⟨k, x, e1, e4, e3⟩
  · by_cases c : b = a
    · subst c
      rw [upd_same] at e
      cases e
      exact upd_same
    · rw [upd_ne c] at e
      rw [upd_ne c]
      exact M.le b u e
  · obtain ⟨k, x, e1, e2, e3⟩ := l
    obtain ⟨c, e4⟩ := lv e2 e3
    rw [upd_ne (ne c e1 e4 e3)]
    exact M.off b ⟨k, x, e1, e4, e3⟩
  · obtain ⟨c, e4⟩ := lv e2 e3
    exact OO.to same (List.prefix_refl _) (fun u z => by rw [upd_ne (ne c e1 e4 e3)]; exact z) (M.at_ k b x e1 e4 e3)
  · exact M.inj k j b x y e1 e2 (lv e3 l1).2 (lv e4 l2).2 l1 l2
  · by_cases c : b = a
    · subst c
      rw [upd_same] at e
      cases e
    · rw [upd_ne c] at e
      exact M.ntb b ps e
section
variable {X : Cx} {E : XK}
/-- an expression that gives an own dict, which becomes a datum -/
def tDfz (te : DTE) : DTE := fun en m Q Qx => te en m (fun x m1 => match x with
  | .loc n => (match m1[n]? with
    | some (.dic kvs) => Q (.v (.dic kvs)) (m1.set n .gone)
    | _ => False)
  | .v (.dic kvs) => Q (.v (.dic kvs)) m1
  | _ => False) Qx
def fzW (Q : VK) : VK := fun v H => (∃ a kvs, v = .ref a ∧ H a = some (.dK kvs) ∧ ∀ od, Q v (upd H a (.frz od (.dK kvs)))) ∨ Q v H
theorem pe_frzW {e : Expr} {t : TE} (h : PE X e t) : PE X e (fun σ H Q => t σ H (fzW Q)) :=
  ⟨fun pins s σ H Q I q => wpAny_mono (h.run pins s σ H _ I q) (fun _ _ z => by
    obtain ⟨v, H', J, r, z | z⟩ := z
    · exact ep_frz ⟨v, H', J, r, z⟩
    · exact ⟨v, H', J, r, z⟩) fun _ _ z => z⟩
theorem d_dfz {e : Expr} {te : DTE} (h : DE X E e te) : DE X E e (tDfz te) := by
  obtain ⟨t1, p1, k1⟩ := h.ex
  refine ⟨_, pe_frzW p1, fun B μ en m σ H Q Qx QV R hx T k => ?_⟩
  refine k1 B μ en m σ H _ Qx _ R hx T fun B1 μ1 m1 H1 x v s1 R1 r q => ?_
  split at q
  · rename_i n
    split at q
    · rename_i kvs hm
      obtain ⟨a, rfl, ha⟩ := r
      obtain ⟨vs, hv, rk⟩ := R1.mem.at_ n a _ ha hm rfl
      refine .inl ⟨a, vs, rfl, hv, fun od => ?_⟩
      obtain ⟨st, M2⟩ := frz_own (od := od) (vs := vs) R1.mem ha hm
      have s2 := s1.trans R1.mem st R.mem.le
      exact k _ μ1 _ _ (.v (.dic kvs)) _ s2 (R.stp s2 M2) (RW.d (.dic upd_same (rk.to st.same))) q
    · exact q.elim
  · exact .inr (k B1 μ1 m1 H1 _ v s1 R1 r q)
  · exact q.elim
/-! ### {} as an own dict, d[k] = v -/
def tDnw : DTE := fun _ m Q _ => Q (.loc m.length) (m ++ [.dic []])
theorem d_dnw {pos : Pos} : DE X E (.Dict [] [] pos) tDnw := by
  refine ⟨_, pe_dnewK, fun B μ en m σ H Q Qx QV R hx T k => fun p np => ?_⟩
  have kp : ∀ a o, a ≠ p → H a = some o → upd H p (.dK []) a = some o := fun a o c e => by rw [upd_ne c]; exact e
  have st := Stp.push R.mem np (m := .dic []) kp
  have mo := R.mem.push np (m := .dic []) (fun a o e => kp a o (ne_of_none (R.mem.le a o e) np) (R.mem.le a o e)) kp ⟨[], upd_same, .nil⟩
  refine k _ _ _ _ (.loc m.length) _ st (R.stp st mo) ⟨p, rfl, ?_⟩ T
  rw [← R.mem.len]
  simp
/-- the own dict at n -/
def dicAt (m : Me) (n : Nat) (Q : List (Key × D) → Prop) : Prop := match m[n]? with
  | some (.dic kvs) => Q kvs
  | _ => False
theorem dicAt_ok {m : Me} {n : Nat} {Q : List (Key × D) → Prop} (h : dicAt m n Q) : ∃ kvs, m[n]? = some (.dic kvs) ∧ Q kvs := by
  unfold dicAt at h
  split at h
  · rename_i kvs e
    exact ⟨kvs, e, h⟩
  · exact h.elim
def sDpt (td ty tv : DTE) : DTS := fun en m N => tv en m (fun z m1 => td en m1 (fun x m2 => ty en m2 (fun y m3 => match x with
  | .loc n => dicAt m3 n fun kvs => oD z fun dz => look y m3 fun dy => keyD dy fun k => kvs.length < sizeLine ∧ N.nx en (m3.set n (.dic (putD' kvs k dz)))
  | _ => False) N.xc) N.xc) N.xc
theorem ds_dpt {o i value : Expr} {td ty tv : DTE} {pos pos' : Pos} (hu : X.A.units + 65 < cLine) (ho : DE X E o td) (hi : DE X E i ty) (hv : DE X E value tv) (hs : swapsWith value (some (.Subscript o i pos')) pos.line X.env = pure false := by rfl) :
    DS X E (.Assign [.Subscript o i pos'] value pos) (sDpt td ty tv) := by
  obtain ⟨t1, p1, k1⟩ := ho.ex
  obtain ⟨t2, p2, k2⟩ := hi.ex
  obtain ⟨t3, p3, k3⟩ := hv.ex
  refine ⟨_, ps_dput (by omega) p1 p2 p3 hs, fun B μ en m σ H N D R hx T e => ?_⟩
  refine k3 B μ en m σ H _ _ _ R hx T fun B1 μ1 m1 H1 z w s1 R1 r1 T1 => ?_
  refine k1 B1 μ1 en m1 σ H1 _ _ _ R1 (hx.step s1 R1.mem R.mem.le) T1 fun B2 μ2 m2 H2 x v s2 R2 r2 T2 => ?_
  have s12 := s1.trans R1.mem s2 R.mem.le
  refine k2 B2 μ2 en m2 σ H2 _ _ _ R2 (hx.step s12 R2.mem R.mem.le) T2 fun B3 μ3 m3 H3 y u s3 R3 r3 T3 => ?_
  have s13 := s12.trans R2.mem s3 R.mem.le
  cases x with
  | v d => exact T3.elim
  | loc n =>
    obtain ⟨kvs, hm, T3⟩ := dicAt_ok T3
    cases z with
    | loc _ => exact T3.elim
    | v dz =>
      obtain ⟨dy, ty', T4⟩ := look_ok R3.mem r3 T3
      obtain ⟨kk, rfl, ko, hl, q⟩ := keyD_ok ty' T4
      obtain ⟨a, rfl, ha2⟩ := r2
      have ha := pre_at s3.pre ha2
      obtain ⟨vs, hv, rk⟩ := R3.mem.at_ n a _ ha hm rfl
      have rz : Rv X.K B3 w dz := Rv.to (s2.trans R2.mem s3 R1.mem.le).same r1
      have kp : ∀ b o, b ≠ a → H3 b = some o → upd H3 a (.dK (putK vs kk w)) b = some o := fun b o c e => by rw [upd_ne c]; exact e
      have sS := Stp.store (H' := upd H3 a (.dK (putK vs kk w))) (m' := .dic (putD' kvs kk dz)) (B := B3) ha hm rfl kp
      have mS := R3.mem.store (m' := .dic (putD' kvs kk dz)) ha hm rfl rfl kp ⟨_, upd_same, rk.put ko rz⟩
      have st := s13.trans R3.mem sS R.mem.le
      have rl : vs.length = kvs.length := rk.len
      exact ⟨a, _, rfl, .inl ⟨vs, kk, hv, rfl, by omega, rfl⟩, e.nx _ _ _ _ _ _ st (R.stp st mS) q⟩
end
/-! ### dict comprehensions -/
theorem dc_it {J : It} {n : Nat} {G : Hp → Prop} {Y : Nat → Hp → V → Hp → Prop} (w : Walk J n G Y) {g : TG} {tt : TT} {tk tv : TE} {vs : List Nat} {σ : L2.St} {H1 : Hp} {L : Addr} {Qd : Hp → Prop} (Pv : Nat → Hp → Prop) (h0 : Pv 0 (upd H1 L (.dK []))) (hG : ∀ i H, i ≤ n → Pv i H → G H)
    (hs : ∀ i x H H', i < n → Pv i H → Y i H x H' → g x (wipe σ vs) H' fun σ2 H2 => wipe σ2 vs = wipe σ vs ∧ tt σ2 H2 fun b H3 =>
      if b = true then tk σ2 H3 fun y H4 => tv σ2 H4 fun z H5 => ∃ kvs k, y = kV k ∧ H5 L = some (.dK kvs) ∧ kvs.length < sizeLine ∧ Pv (i + 1) (upd H5 L (.dK (putK kvs k z))) else Pv (i + 1) H3) (hd : ∀ H, Pv n H → Qd H) :
    ∃ W : Nat → Nat → Hp → Prop, (∃ m, W 0 m (upd H1 L (.dK []))) ∧ ∀ i m H, W i m H →
      (J.stop i H ∧ Qd H) ∨ (J.go i H ∧ ∃ Nx : Hp → Prop, (∀ H', Nx H' → ∃ m', m' < m ∧ W (i + 1) m' H') ∧ ∀ x H', J.yld i H x H' → g x (wipe σ vs) H' fun σ2 H2 => wipe σ2 vs = wipe σ vs ∧ tt σ2 H2 fun b H3 =>
        if b = true then tk σ2 H3 fun y H4 => tv σ2 H4 fun z H5 => ∃ kvs k, y = kV k ∧ H5 L = some (.dK kvs) ∧ kvs.length < sizeLine ∧ Nx (upd H5 L (.dK (putK kvs k z))) else Nx H3) := by
  refine ⟨fun i m H => m = n - i ∧ i ≤ n ∧ Pv i H, ⟨n, by omega, Nat.zero_le _, h0⟩, ?_⟩
  rintro i m H ⟨rfl, hi, p⟩
  by_cases c : i < n
  · exact .inr ⟨w.goes i H c (hG i H hi p), Pv (i + 1), fun H' p' => ⟨_, by omega, rfl, c, p'⟩, fun x H' y => hs i x H H' c p (w.yields i H x H' c (hG i H hi p) y)⟩
  · have e : n = i := by omega
    subst e
    exact .inl ⟨w.stops H (hG n H hi p), hd H p⟩
section
variable {X : Cx} {E : XK}
def dcL (g : DTG) (tt : DTT) (tk tv : DTE) (en : En) : List D → List (Key × D) → Me → (W → Me → Prop) → Prop
  | [], acc, m, Q => Q (.v (.dic acc)) m
  | d :: ds, acc, m, Q => g (.v d) en m fun en1 m1 => tt en1 m1 (fun b m2 => if b = true then tk en1 m2 (fun y m3 => tv en1 m3 (fun z m4 => oD y fun dy => keyD dy fun k => oD z fun dz => acc.length < sizeLine ∧ dcL g tt tk tv en ds (putD' acc k dz) m4 Q) noX) noX else dcL g tt tk tv en ds acc m2 Q) noX
def tDcD (ti : DTI) (g : DTG) (tt : DTT) (tk tv : DTE) (vs : List Nat) : DTE := fun en m Q Qx => ti en m (fun its m1 => dcL g tt tk tv (wipeE en vs) its [] m1 Q) Qx
theorem d_dc {kx vx tg iter : Expr} {ifs : List Expr} {scope : Scope} {own : List (Str × Nat)} {is : List Nat} {pos : Pos} {ti : DTI} {g : DTG} {tt : DTT} {tk tv : DTE} (hc : X.calm = true) (hN : X.N.Nodup) (hi : DI X E tg iter ti) (ok : BlkOk X.N X.env.scope scope own)
    (hg : ∀ (s : Shared) (H : Hp) (C : Addr) (cl : List (Str × Addr)) (fp : List Addr), DG (X.blk s H scope (compEnvC scope cl C X.env) fp) tg is g) (ht : ∀ (s : Shared) (H : Hp) (C : Addr) (cl : List (Str × Addr)) (fp : List Addr), DTs (X.blk s H scope (compEnvC scope cl C X.env) fp) E0 ifs tt)
    (hk : ∀ (s : Shared) (H : Hp) (C : Addr) (cl : List (Str × Addr)) (fp : List Addr), DE (X.blk s H scope (compEnvC scope cl C X.env) fp) E0 kx tk)
    (he : ∀ (s : Shared) (H : Hp) (C : Addr) (cl : List (Str × Addr)) (fp : List Addr), DE (X.blk s H scope (compEnvC scope cl C X.env) fp) E0 vx tv) (hs : ∀ x, foldedSetIterable iter X.env x = pure x := by intro _; rfl) (hv : is.all (fun i => (own.map (·.2)).contains i) = true := by rfl) :
    DE X E (.DictComp kx vx [⟨tg, iter, ifs, 0⟩] scope pos) (tDcD ti g tt tk tv (own.map (·.2))) := by
  obtain ⟨t0, p0, k0⟩ := hi.ex
  have hv' : ∀ i ∈ is, i ∈ own.map (·.2) := fun i h => List.contains_iff_mem.mp (List.all_eq_true.mp hv i h)
  refine ⟨_, pe_frz (pe_dc hc hN p0 ok (g := lG X.K is g) (tt := lT X.K E0 tt) (tk := lE X.K E0 tk) (tv := lE X.K E0 tv) (fun s H C cl fp => (hg s H C cl fp).pg) (fun s H C cl fp => (ht s H C cl fp).pts) (fun s H C cl fp => (hk s H C cl fp).pe) (fun s H C cl fp => (he s H C cl fp).pe) hs), fun B μ en m σ H Q Qx QV R hx T k => ?_⟩
  refine k0 B μ en m σ H _ Qx _ R hx T fun B1 μ1 m1 H1 its J s1 R1 ⟨G, Y, w, hG, hY⟩ q => ?_
  intro L nL
  obtain ⟨nb1, nl1⟩ := R1.mem.none nL
  have Rw := R1.wipe (own.map (·.2))
  generalize hen : wipeE en (own.map (·.2)) = enw at q Rw
  have dk : ∀ {vs : List (Key × V)}, (∀ q, HO.dK vs ≠ LamX.CodeO L q) ∧ ∀ ps, HO.dK vs ≠ .tbl ps := fun {vs} => ⟨(fun _ z => nomatch z), (fun _ z => nomatch z)⟩
  refine dc_it w (fun i H' => ∃ B' μ' m' vs acc, Stp B1 μ1 m1 H1 B' μ' m' H' ∧ MemOk X.K B' μ' m' H' ∧ B' L = none ∧ ¬ Live μ' m' L ∧ H' L = some (.dK vs) ∧ RvK X.K B' vs acc ∧ dcL g tt tk tv enw (its.drop i) acc m' Q) ?_ (fun i H' _ ⟨B', μ', m', vs, acc, s', M', _⟩ => hG B' μ' m' H' s'.same M') (fun i x H2 H3 hi ⟨B', μ', m', vs, acc, s', M', nb, nl, hL, rv, q'⟩ y => ?_) (fun H' ⟨B', μ', m', vs, acc, s', M', nb, nl, hL, rv, q'⟩ => ?_)
  · have kp : ∀ b o, b ≠ L → H1 b = some o → upd H1 L (.dK []) b = some o := fun b o c e => by rw [upd_ne c]; exact e
    exact ⟨B1, μ1, m1, [], [], Stp.refl.touch nL kp, R1.mem.touch nb1 nl1 kp, nb1, nl1, upd_same, .nil, q⟩
  · obtain ⟨B3, d, hd, s3, m3, rd⟩ := hY i B' μ' m' H2 x H3 hi s'.same M' y
    have s13 := s'.trans M' s3 R1.mem.le
    obtain ⟨nb3, nl3⟩ := s3.hid L _ nl hL dk nb
    have hL3 := s3.out L _ nl hL dk.2
    have R3 : Rel X.K B3 μ' enw m' (L2.wipe σ (own.map (·.2))) H3 := Rw.stp s13 m3
    rw [List.drop_eq_getElem_cons hi] at q'
    have ed : its[i] = d := by
      rw [List.getElem?_eq_getElem hi] at hd
      exact Option.some.inj hd
    rw [ed] at q'
    refine ⟨B3, μ', enw, m', .v d, _, R3, rd, q', fun B4 μ4 en4 m4 σ4 H4 s4 R4 st4 q4 => ⟨by rw [st4.wipe hv', wipe_wipe], ?_⟩⟩
    have s14 := s13.trans m3 s4 R1.mem.le
    obtain ⟨nb4, nl4⟩ := s4.hid L _ nl3 hL3 dk nb3
    have hL4 := s4.out L _ nl3 hL3 dk.2
    refine ⟨B4, μ4, en4, m4, _, noX, R4, ExOf.no, q4, fun B5 μ5 m5 H5 b s5 R5 q5 => ?_⟩
    have s15 := s14.trans R4.mem s5 R1.mem.le
    obtain ⟨nb5, nl5⟩ := s5.hid L _ nl4 hL4 dk nb4
    have hL5 := s5.out L _ nl4 hL4 dk.2
    have rv5 := rv.to ((s3.same.trans s4.same).trans s5.same)
    cases b with
    | false => exact iteF ⟨B5, μ5, m5, vs, acc, s15, R5.mem, nb5, nl5, hL5, rv5, q5⟩
    | true =>
      refine iteT ⟨B5, μ5, en4, m5, _, noX, R5, ExOf.no, q5, fun B6 μ6 m6 H6 y v s6 R6 r6 q6 => ?_⟩
      have s16 := s15.trans R5.mem s6 R1.mem.le
      obtain ⟨nb6, nl6⟩ := s6.hid L _ nl5 hL5 dk nb5
      have hL6 := s6.out L _ nl5 hL5 dk.2
      have rv6 := rv5.to s6.same
      refine ⟨B6, μ6, en4, m6, _, noX, R6, ExOf.no, q6, fun B7 μ7 m7 H7 z u s7 R7 r7 q7 => ?_⟩
      cases y with
      | loc n => exact q7.elim
      | v dy =>
        have r6' : Rv X.K B7 v dy := Rv.to s7.same r6
        obtain ⟨kk, rfl, ko, q7⟩ := keyD_ok (r6'.top (H := H7) R7.mem.le) q7
        cases z with
        | loc n => exact q7.elim
        | v dz =>
          obtain ⟨lz, q7⟩ := q7
          have s17 := s16.trans R6.mem s7 R1.mem.le
          obtain ⟨nb7, nl7⟩ := s7.hid L _ nl6 hL6 dk nb6
          have hL7 := s7.out L _ nl6 hL6 dk.2
          have rv7 := rv6.to s7.same
          have kp : ∀ b o, b ≠ L → H7 b = some o → upd H7 L (.dK (putK vs kk u)) b = some o := fun b o c e => by rw [upd_ne c]; exact e
          exact ⟨vs, kk, rfl, hL7, by rw [rv7.len]; exact lz, B7, μ7, m7, _, _, s17.touch nL kp, R7.mem.touch nb7 nl7 kp, nb7, nl7, upd_same, rv7.put ko r7, q7⟩
  · rw [List.drop_length] at q'
    refine ⟨L, vs, rfl, hL, fun od => ?_⟩
    obtain ⟨st, M2, same⟩ := frz_laid (od := od) (vs := vs) R1.mem nL s' M' nb nl
    have stt := s1.trans R1.mem st R.mem.le
    exact k _ μ' m' _ (.v (.dic acc)) _ stt (R.stp stt M2) (RW.d (.dic upd_same (rv.to same))) q'
/-! ### {k: v} -/
def tDs1 (tk tv : DTE) : DTE := fun en m Q Qx => tk en m (fun y m1 => tv en m1 (fun z m2 => oD y fun dy => keyD dy fun k => oD z fun dz => Q (.v (.dic [(k, dz)])) m2) Qx) Qx
theorem d_ds1 {kx vx : Expr} {tk tv : DTE} {pos : Pos} (hk : DE X E kx tk) (hv : DE X E vx tv) : DE X E (.Dict [some kx] [vx] pos) (tDs1 tk tv) := by
  obtain ⟨t1, p1, k1⟩ := hk.ex
  obtain ⟨t2, p2, k2⟩ := hv.ex
  refine ⟨_, pe_frz (pe_disp (pps_cons p1 p2 pps_nil) rfl rfl (by simp) (by show 1 ≤ 15; decide)), fun B μ en m σ H Q Qx QV R hx T k => ?_⟩
  intro L nL
  obtain ⟨nb, nl⟩ := R.mem.none nL
  have kp : ∀ b o, b ≠ L → H b = some o → upd H L (.dK []) b = some o := fun b o c e => by rw [upd_ne c]; exact e
  have s0 : Stp B μ m H B μ m (upd H L (.dK [])) := Stp.refl.touch nL kp
  have M0 := R.mem.touch nb nl kp
  have dk : ∀ {vs : List (Key × V)}, (∀ q, HO.dK vs ≠ LamX.CodeO L q) ∧ ∀ ps, HO.dK vs ≠ .tbl ps := fun {vs} => ⟨(fun _ z => nomatch z), (fun _ z => nomatch z)⟩
  refine k1 B μ en m σ _ _ Qx _ (R.stp s0 M0) (hx.step s0 M0 R.mem.le) T fun B1 μ1 m1 H1 y v s1 R1 r1 T1 => ?_
  have s01 := s0.trans M0 s1 R.mem.le
  obtain ⟨nb1, nl1⟩ := s1.hid L _ nl upd_same dk nb
  have hL1 := s1.out L _ nl upd_same dk.2
  refine k2 B1 μ1 en m1 σ H1 _ Qx _ R1 (hx.step s01 R1.mem R.mem.le) T1 fun B2 μ2 m2 H2 z u s2 R2 r2 T2 => ?_
  have s02 := s01.trans R1.mem s2 R.mem.le
  obtain ⟨nb2, nl2⟩ := s2.hid L _ nl1 hL1 dk nb1
  have hL2 := s2.out L _ nl1 hL1 dk.2
  cases y with
  | loc n => exact T2.elim
  | v dy =>
    have r1' : Rv X.K B2 v dy := Rv.to s2.same r1
    obtain ⟨kk, rfl, ko, T2⟩ := keyD_ok (r1'.top (H := H2) R2.mem.le) T2
    cases z with
    | loc n => exact T2.elim
    | v dz =>
      refine ⟨hL2, [(kk, u)], rfl, by show 1 ≤ 15; decide, L, _, rfl, upd_same, fun od => ?_⟩
      rw [upd_upd]
      obtain ⟨st, M3, same⟩ := frz_laid (od := od) (vs := mergeK [] [(kk, u)]) R.mem nL s02 R2.mem nb2 nl2
      exact k _ μ2 m2 _ (.v (.dic [(kk, dz)])) _ st (R.stp st M3) (RW.d (.dic (xs := [(kk, u)]) upd_same (.cons ko (Rv.to same r2) .nil))) T2
end
/-! ### sorted(d), sorted(texts), list(d) -/
theorem keysL_ok {K : Frag} {B : Hp} : ∀ {vs : List (Key × V)} {kvs : List (Key × D)} {Q : List Str → Prop}, RvK K B vs kvs → keysL kvs Q → ∃ xs : List Str, vs.map (·.1) = xs.map Sum.inr ∧ (∀ x ∈ xs, okS x = true) ∧ Q xs
  | _, _, Q, .nil, q => ⟨[], rfl, (fun _ h => nomatch h), q⟩
  | _, _, Q, .cons (k := .inr x) (vs := vs) (ds := ds) ko _ t, q => by
    obtain ⟨xs, h1, h2, h3⟩ := keysL_ok (Q := fun xs => Q (x :: xs)) t q
    refine ⟨x :: xs, by rw [List.map_cons, List.map_cons, h1], fun y hy => ?_, h3⟩
    rcases List.mem_cons.mp hy with rfl | hy
    · exact ko
    · exact h2 y hy
  | _, _, Q, .cons (k := .inl i) _ _ _, q => q.elim
theorem txtL_ok {K : Frag} {B : Hp} : ∀ {vs : List V} {ds : List D} {Q : List Str → Prop}, RvL K B vs ds → txtL ds Q → ∃ xs : List Str, vs = xs.map V.str ∧ (∀ x ∈ xs, okS x = true) ∧ Q xs
  | _, _, Q, .nil, q => ⟨[], rfl, (fun _ h => nomatch h), q⟩
  | _, _, Q, .cons (d := d) r t, q => by
    cases d with
    | str x =>
      cases r with
      | str hx =>
        obtain ⟨xs, h1, h2, h3⟩ := txtL_ok (Q := fun xs => Q (x :: xs)) t q
        refine ⟨x :: xs, by rw [List.map_cons, h1], fun y hy => ?_, h3⟩
        rcases List.mem_cons.mp hy with rfl | hy
        · exact hx
        · exact h2 y hy
    | _ => exact q.elim
theorem rvl_strs {K : Frag} {B : Hp} : ∀ {ys : List Str}, (∀ y ∈ ys, okS y = true) → RvL K B (ys.map V.str) (ys.map D.str)
  | [], _ => .nil
  | y :: ys, h => .cons (.str (h y (List.mem_cons_self ..))) (rvl_strs fun z hz => h z (List.mem_cons_of_mem _ hz))
section
variable {X : Cx} {E : XK}
theorem c_srt : SC X (fun xs H Q => (∃ (a : Addr) (kvs : List (Key × V)) (ks : List Str), xs = [.ref a] ∧ Rd H a (.dK kvs) ∧ kvs.map (·.1) = ks.map Sum.inr ∧ ks.length < 64 ∧
    ∀ ys p, ys.Perm ks → sortedS ys = true → H p = none → Q (.ref p) (upd H p (.lst (ys.map V.str)))) ∨ rSortedS X.K xs H Q) (c1 srtD) := SC.of1 fun B μ m H v d Q QV M td q k => by
  cases d with
  | dic kvs =>
    obtain ⟨a, vs, rfl, hd, rk⟩ := td
    obtain ⟨xs, e1, e2, hl, q⟩ := keysL_ok rk q
    refine .inl ⟨a, vs, xs, rfl, hd, e1, hl, fun ys p hp hs np => ?_⟩
    have oy : ∀ y ∈ ys, okS y = true := fun y hy => e2 y (hp.mem_iff.mp hy)
    exact SO.new M k np (new_lst M np (rvl_strs oy)) (q ys hp hs)
  | lst ds =>
    obtain ⟨a, vs, rfl, hv, rl⟩ := td
    obtain ⟨xs, rfl, e2, hl, q⟩ := txtL_ok rl q
    refine .inr ⟨a, xs, rfl, .inl (.inl hv), hl, fun ys p hp hs np => ?_⟩
    have oy : ∀ y ∈ ys, okS y = true := fun y hy => e2 y (hp.mem_iff.mp hy)
    exact SO.new M k np (new_lst M np (rvl_strs oy)) (q ys hp hs)
  | _ => exact q.elim
theorem d_srt {e : Expr} {ta : DTA} {p pos : Pos} (hc : X.calm = true) (hm : X.mg "sorted" = none) (ha : DA X E [e] ta) (hg : Gl X "sorted" := by rfl) (he : starEach [e] X.env = (false, eval e X.env) :: starEach [] X.env := by rfl) (hpl : (backTo pos (starEach [] X.env)).any (·.1) = false := by rfl) : DE X E (.Call (.Name "sorted" p) [e] [] pos) (tCa (c1 srtD) ta) :=
  d_fn ((call_sortedD hc).or cr_sortedS) c_srt hm (by decide +kernel) ha hg (by decide) (by decide) he hpl
theorem rvl_keys {K : Frag} {B : Hp} : ∀ {vs : List (Key × V)} {kvs : List (Key × D)}, RvK K B vs kvs → RvL K B (vs.map fun kv => kV kv.1) (kvs.map fun kv => kD kv.1)
  | _, _, .nil => .nil
  | _, _, .cons ko _ t => .cons (kD_rv ko) (rvl_keys t)
def lskD : D → (D → Prop) → Prop := fun d Q => dicD d fun kvs => Q (.lst (kvs.map fun kv => kD kv.1))
theorem c_lsk : SC X (fun xs H Q => ∃ (a : Addr) (kvs : List (Key × V)), xs = [.ref a] ∧ Rd H a (.dK kvs) ∧ ∀ p, H p = none → Q (.ref p) (upd H p (.lst (kvs.map fun kv => kV kv.1)))) (c1 lskD) := SC.of1 fun B μ m H v d Q QV M td q k => by
  obtain ⟨a, vs, kvs, rfl, hd, rk, q⟩ := dicD_ok td q
  exact ⟨a, vs, rfl, hd, fun p np => SO.new M k np (new_lst M np (rvl_keys rk)) q⟩
theorem d_lsk {e : Expr} {ta : DTA} {p pos : Pos} (hc : X.calm = true) (hm : X.mg "list" = none) (ha : DA X E [e] ta) (hg : Gl X "list" := by rfl) (he : starEach [e] X.env = (false, eval e X.env) :: starEach [] X.env := by rfl) (hpl : (backTo pos (starEach [] X.env)).any (·.1) = false := by rfl) : DE X E (.Call (.Name "list" p) [e] [] pos) (tCa (c1 lskD) ta) :=
  d_tyc (call_listD hc) c_lsk hm (by decide +kernel) ha hg (by decide) (by decide) he hpl
end
end Fs
set_option Elab.async false
set_option linter.all false
set_option maxRecDepth 100000
set_option maxHeartbeats 8000000
namespace Fs
open PySem PySem.Spec PyProof.Rows L2
section
variable {X : Cx} {E : XK}
def sstD : D → (D → Prop) → Prop
  | .lst ds, Q => txtL ds fun xs => xs.length < 64 ∧ ∀ ys : List Str, ys.Nodup → (∀ x, x ∈ ys ↔ x ∈ xs) → sortedS ys = true → Q (.lst (ys.map .str))
  | _, _ => False
theorem insS_lt : ∀ (ks l : List Str), (ks.foldl insS l).length ≤ l.length + ks.length
  | [], l => Nat.le_refl _
  | k :: ks, l => by
    have z := insS_lt ks (insS l k)
    have y := insS_le l k
    rw [List.foldl_cons, List.length_cons]
    omega
theorem d_sset {e : Expr} {te : DTE} {p p2 pos pos2 : Pos} (hc : X.calm = true) (hm : X.mg "sorted" = none) (hm2 : X.mg "set" = none) (he : DE X E e te) (hg : Gl X "sorted" := by rfl) (hg2 : Gl X "set" := by rfl)
    (hs : starEach [e] X.env = (false, eval e X.env) :: starEach [] X.env := by rfl) (hpl : (backTo pos2 (starEach [] X.env)).any (·.1) = false := by rfl)
    (hs2 : starEach [.Call (.Name "set" p2) [e] [] pos2] X.env = (false, eval (.Call (.Name "set" p2) [e] [] pos2) X.env) :: starEach [] X.env := by rfl) (hpl2 : (backTo pos (starEach [] X.env)).any (·.1) = false := by rfl) :
    DE X E (.Call (.Name "sorted" p) [.Call (.Name "set" p2) [e] [] pos2] [] pos) (fun en m Q Qx => te en m (fun x m1 => look x m1 fun d => sstD d fun r => Q (.v r) m1) Qx) := by
  obtain ⟨t1, p1, k1⟩ := he.ex
  refine ⟨_, pe_callB (cr_sortT' hc) hg hm (by decide +kernel) (pa_cons (pe_callTy (cr_setT hc) hg2 hm2 (by decide +kernel) (pa_cons p1 pa_nil hs) (by decide) (by decide) hs hpl) pa_nil hs2) (by decide) (by decide) hs2 hpl2, fun B μ en m σ H Q Qx QV R hx T k => ?_⟩
  refine k1 B μ en m σ H _ Qx _ R hx T fun B1 μ1 m1 H1 x v s1 R1 r q => ?_
  obtain ⟨d, td, q⟩ := look_ok R1.mem r q
  cases d with
  | lst ds =>
    obtain ⟨a, vs, rfl, hv, rl⟩ := td
    obtain ⟨xs, rfl, ox, hl, q⟩ := txtL_ok rl q
    refine ⟨a, xs, rfl, .inl (.inl hv), by unfold scanBound; omega, fun p np => ?_⟩
    obtain ⟨nb, nl⟩ := R1.mem.none np
    have kp : ∀ b o, b ≠ p → H1 b = some o → upd H1 p (KT X.prog X.w p (xs.foldl insS [])) b = some o := fun b o c e => by rw [upd_ne c]; exact e
    have s2 : Stp B μ m H B1 μ1 m1 (upd H1 p (KT X.prog X.w p (xs.foldl insS []))) := s1.trans R1.mem (Stp.refl.touch np kp) R.mem.le
    have M2 := R1.mem.touch nb nl kp
    have le := insS_lt xs []
    refine ⟨p, _, rfl, upd_same, foldS_nodup xs [] List.nodup_nil, by simp at le; omega, fun ys p3 pm sr np3 => ?_⟩
    have mem : ∀ x, x ∈ ys ↔ x ∈ xs := fun x => by
      rw [pm.mem_iff, foldS_mem]
      simp
    have oy : ∀ y ∈ ys, okS y = true := fun y hy => ox y ((mem y).mp hy)
    have rr := rvl_strs (K := X.K) (B := B1) oy
    have s3 := s2.trans M2 (Stp.laid M2 np3 (o := .lst (ys.map V.str))) R.mem.le
    exact k _ μ1 m1 _ (.v (.lst (ys.map .str))) _ s3 (R.stp s3 (M2.laid np3)) (RW.d (new_lst M2 np3 rr)) (q ys (pm.nodup_iff.mpr (foldS_nodup xs [] List.nodup_nil)) mem sr)
  | _ => exact q.elim
end
end Fs
set_option Elab.async false
set_option linter.all false
set_option maxRecDepth 100000
set_option maxHeartbeats 8000000
namespace Fs
open PySem PySem.Spec PyProof.Rows L2
section
variable {P : Program} {w : World} {K : Frag} {mg : Str → Option Value} {base : Heap} {name qual : Str} {st : Stmt} {N ps : List Str} {k : Nat} {sp : SpD} {f : Addr} {fd : FuncData}
/-- a method by data: own objects that it made are gone -/
theorem fm_d (D : FunD K name qual (defArgs st) (defBody st) (defScope st) [] [] f fd) (S : FnScope N ps (defScope st)) (ar : ∀ ws m Q Qx, sp ws m Q Qx → ws.length = ps.length)
    (hbody : ∀ (cdv : Value) (A : Around) (outer : List Env) (s : Shared) (H : Hp) (E : XK), Room k (A.deeper (envOfC qual (defScope st) s.heap.objs.size f cdv)) →
      ∃ T, DSs (cxOf (L2.CX P w) P w K mg base N qual (defScope st) f cdv A outer s H E) E (defBody st) T ∧ ∀ ws m Qd Qx, sp ws m Qd Qx → T (startE N ws) m (defN m Qd Qx)) : FnOk P w K mg base (L2.CX P w) (k + 1) f fd ps (lift K sp) := by
  refine D.ok S (fun vs H Q E ⟨B, μ, m, ws, Qd, Qx, M, r, hs, _⟩ => by rw [r.len]; exact ar _ _ _ _ hs) fun cdv A outer s H vs Q E hr h => ?_
  obtain ⟨T, hd, hT⟩ := hbody cdv A outer s H E hr
  obtain ⟨t, hp, hs⟩ := hd.ex
  exact ⟨t, hp, hs.def_ hT h⟩
/-- .. where they stay -/
theorem fm_o (D : FunD K name qual (defArgs st) (defBody st) (defScope st) [] [] f fd) (S : FnScope N ps (defScope st)) (ar : ∀ ws m Q Qx, sp ws m Q Qx → ws.length = ps.length)
    (hbody : ∀ (cdv : Value) (A : Around) (outer : List Env) (s : Shared) (H : Hp) (E : XK), Room k (A.deeper (envOfC qual (defScope st) s.heap.objs.size f cdv)) →
      ∃ T, DSs (cxOf (L2.CX P w) P w K mg base N qual (defScope st) f cdv A outer s H E) E (defBody st) T ∧ ∀ ws m Qd Qx, sp ws m Qd Qx → T (startE N ws) m (defO Qd Qx)) : FnOk P w K mg base (L2.CX P w) (k + 1) f fd ps (lift K sp) := by
  refine D.ok S (fun vs H Q E ⟨B, μ, m, ws, Qd, Qx, M, r, hs, _⟩ => by rw [r.len]; exact ar _ _ _ _ hs) fun cdv A outer s H vs Q E hr h => ?_
  obtain ⟨T, hd, hT⟩ := hbody cdv A outer s H E hr
  obtain ⟨t, hp, hs⟩ := hd.ex
  exact ⟨t, hp, hs.defo hT h⟩
/-- the class x at C, its __init__ keeping sp -/
structure GmC (P : Program) (w : World) (K : Frag) (mg : Str → Option Value) (base : Heap) (k : Nat) (x : Str) (C : Addr) (sp : SpD) : Prop where
  ex : ∃ f fd ps, mg x = some (.ref C) ∧ Mk K C f ∧ Binds K fd ps [] ∧ FnOk P w K mg base (L2.CX P w) k f fd ps (lift K sp)
/-- the method m of the class at C -/
structure GmM (P : Program) (w : World) (K : Frag) (mg : Str → Option Value) (base : Heap) (k : Nat) (C : Addr) (m : Str) (sp : SpD) : Prop where
  cls : Cls K C
  ex : ∃ f fd ps, Meth K C m f ∧ Binds K fd ps [] ∧ FnOk P w K mg base (L2.CX P w) k f fd ps (lift K sp)
end
/-! ### an instance that is made -/
abbrev datF (ds : List (Str × D)) : List (Str × W) := ds.map fun p => (p.1, .v p.2)
theorem datF_ok {K : Frag} {B : Hp} {μ : List Addr} : ∀ {vs : List (Str × V)} {ds : List (Str × D)}, RWf K B μ vs (datF ds) → RvF K B vs ds
  | [], [], _ => .nil
  | (_, _) :: _, [], h => by cases h
  | [], (_, _) :: _, h => by cases h
  | (k, v) :: vs, (k2, d) :: ds, h => by
    cases h with
    | cons a t => exact .cons a (datF_ok t)
theorem Stp.cut {B B' : Hp} {μ μ' : List Addr} {m more : Me} {H H' : Hp} (s : Stp B μ m H B' μ' (m ++ more) H') : Stp B μ m H B' μ m H' :=
  ⟨s.same, List.prefix_refl _, s.out, fun a o n e x b => ⟨(s.hid a o n e x b).1, n⟩⟩
section
variable {X : Cx} {E : XK} {x : Str} {C : Addr} {k : Nat} {sp : SpD} {e o : Expr} {es : List Expr} {ta : DTA} {p pos apos : Pos}
def mkD (C : Addr) (sp : SpD) (xs : List W) (m : Me) (Q : W → Me → Prop) (Qx : QX) : Prop := sp (.loc m.length :: xs) (m ++ [.ins C []]) (fun r m2 => r = .v .non ∧ ∃ ds, m2 = m ++ [.ins C (datF ds)] ∧ Q (.v (.obj C ds)) m) (fun er m2 => m <+: m2 ∧ Qx er m)
theorem mkD_ok {K : Frag} {B : Hp} {μ : List Addr} {m : Me} {H : Hp} {vs : List V} {xs : List W} {Q : W → Me → Prop} {Qx : QX} {QV : VK} (M : MemOk K B μ m H) (r : RWs K B μ vs xs) (h : mkD C sp xs m Q Qx) (hx : ExOf K E B μ m H Qx)
    (kk : ∀ B' H' v d, Stp B μ m H B' μ m H' → MemOk K B' μ m H' → Rv K B' v d → Q (.v d) m → QV v H') :
    ∀ a dx, H a = none → H dx = none → dx ≠ a → lift K sp (.ref a :: vs) (upd (upd H dx (.own a)) a (.ins C dx [])) (fun v H2 => v = .non ∧ QV (.ref a) H2) E := by
  intro a dx na nd da
  unfold mkD at h
  obtain ⟨nbd, nld⟩ := M.none nd
  have kp0 : ∀ b o, b ≠ dx → H b = some o → upd H dx (.own a) b = some o := fun b o c e => by rw [upd_ne c]; exact e
  have s0 : Stp B μ m H B μ m (upd H dx (.own a)) := Stp.refl.touch nd kp0
  have M0 := M.touch nbd nld kp0
  have na0 : upd H dx (.own a) a = none := by rw [upd_ne da.symm]; exact na
  have kp : ∀ b o, b ≠ a → upd H dx (.own a) b = some o → upd (upd H dx (.own a)) a (.ins C dx []) b = some o := fun b o c e => by rw [upd_ne c]; exact e
  have s1 := Stp.push M0 na0 (m := .ins C []) kp
  have M1 := M0.push na0 (m := .ins C []) (fun b o e => kp b o (ne_of_none (M0.le b o e) na0) (M0.le b o e)) kp ⟨dx, [], upd_same, .nil⟩
  have s01 := s0.trans M0 s1 M.le
  have ha : (μ ++ [a])[m.length]? = some a := by rw [← M.len]; simp
  refine ⟨B, μ ++ [a], m ++ [.ins C []], .loc m.length :: xs, _, _, M1, .cons ⟨a, rfl, ha⟩ (r.to (Same.refl _) (List.prefix_append _ _)), h, ?_, fun B' μ' m' H' y v s' M' ry q => ?_⟩
  · intro B' μ' m' H' er d fvs s' M' hd rf q
    obtain ⟨⟨more, rfl⟩, q⟩ := q
    have st := s01.trans M1 s' M.le
    have pm : m ++ more = m ++ more := rfl
    exact hx B' μ m H' er d fvs (Stp.cut st) (MemOk.drop M ((List.prefix_append _ _).trans s'.pre) M') hd rf q
  · obtain ⟨rfl, ds, rfl, q⟩ := q
    cases (show Rv K B' v .non from ry)
    have ha' := pre_at s'.pre ha
    have hm : (m ++ [MO.ins C (datF ds)])[m.length]? = some (.ins C (datF ds)) := by simp
    obtain ⟨dx', vs', hv, rf⟩ := M'.at_ _ a _ ha' hm rfl
    have nb := M'.off a ⟨_, _, ha', hm, rfl⟩
    have sf := Stp.freeze (H := H') (o := .ins C dx' vs') ha' hm rfl nb
    have Mf := M'.freeze (o := .ins C dx' vs') ha' hm rfl hv
    have es : (m ++ [MO.ins C (datF ds)]).set m.length .gone = m ++ [.gone] := by simp
    rw [es] at sf Mf
    have st := (s01.trans M1 s' M.le).trans M' sf M.le
    exact ⟨rfl, kk _ H' _ _ (Stp.cut st) (MemOk.drop M ((List.prefix_append _ _).trans s'.pre) Mf) (.obj upd_same ((datF_ok rf).to sf.same)) q⟩
def tMk (C : Addr) (sp : SpD) (ta : DTA) : DTE := fun en m Q Qx => ta en m (fun xs m1 => mkD C sp xs m1 Q Qx) Qx
theorem d_mk (G : GmC X.prog X.w X.K X.mg X.base k x C sp) (hr : Room (k + 1) X.A) (hx : Passes (L2.CX X.prog X.w) X E) (ha : DA X E (e :: es) ta) (hg : Gl X x := by rfl) (hdb : (x == ("__debug__" : Str)) = false := by decide)
    (he : starEach (e :: es) X.env = (false, eval e X.env) :: starEach es X.env := by rfl) (hpl : (backTo pos (starEach es X.env)).any (·.1) = false := by rfl) : DE X E (.Call (.Name x p) (e :: es) [] pos) (tMk C sp ta) := by
  obtain ⟨t1, p1, k1⟩ := ha.ex
  obtain ⟨f, fd, ps, hm, M, hb, F⟩ := G.ex
  refine ⟨_, pe_make M F hr hg hm hb .nil hx p1 hdb he hpl, fun B μ en m σ H Q Qx QV R hx' T kk => ?_⟩
  refine k1 B μ en m σ H _ Qx _ R hx' T fun B1 μ1 m1 H1 xs vs s1 R1 r q => ?_
  have z := mkD_ok (QV := QV) R1.mem r q (hx'.step s1 R1.mem R.mem.le) fun B' H' v d st M' rv qd => kk B' μ1 m1 H' (.v d) v (s1.trans R1.mem st R.mem.le) (R1.stp st M' |> fun y => by exact y) (RW.d rv) qd
  intro a dx na nd da
  rw [List.append_nil]
  exact z a dx na nd da
/-! ### methods, fields -/
def tMth (C : Addr) (mn : Str) (sp : SpD) (to : DTE) (ta : DTA) : DTE := fun en m Q Qx => to en m (fun x m1 => ∃ fs, x = .v (.obj C fs) ∧ fs.lookup mn = none ∧ ta en m1 (fun xs m2 => sp (x :: xs) m2 Q Qx) Qx) Qx
theorem RvF.look_none {K : Frag} {H : Hp} {f : Str} {vs : List (Str × V)} {ds : List (Str × D)} (h : RvF K H vs ds) (e : ds.lookup f = none) : vs.lookup f = none := by
  cases q : vs.lookup f with
  | none => rfl
  | some v =>
    exfalso
    have key : ∀ {vs : List (Str × V)} {ds : List (Str × D)}, RvF K H vs ds → vs.map (·.1) = ds.map (·.1) := by
      intro vs
      induction vs with
      | nil => intro ds h; cases h; rfl
      | cons p vs ih =>
        intro ds h
        cases h with
        | cons a t => rw [List.map_cons, List.map_cons, ih t]
    have l1 : ∀ {α : Type} {l : List (Str × α)}, l.lookup f = none ↔ f ∉ l.map (·.1) := by
      intro α l
      induction l with
      | nil => simp
      | cons p l ih =>
        obtain ⟨g, y⟩ := p
        rw [List.lookup_cons]
        by_cases c : f = g
        · subst c
          simp
        · have : (f == g) = false := by simpa using c
          rw [this, List.map_cons, List.mem_cons]
          simp only [ih]
          exact ⟨fun h z => z.elim c h, fun h z => h (.inr z)⟩
    have z1 := l1.mp e
    rw [← key h] at z1
    have z2 := l1.mpr z1
    rw [q] at z2
    cases z2
theorem d_mth0 {mn : Str} {to : DTE} {pl : Sem Bool} (G : GmM X.prog X.w X.K X.mg X.base k C mn sp) (hr : Room k X.A) (hx : Passes (L2.CX X.prog X.w) X E) (ho : DE X E o to)
    (ht : eval (.Call (.Attribute o mn apos) [] [] pos) X.env = (do
      let ov ← eval o X.env
      standAt apos.atName
      let (f, first) ← holding [ov] (getMethod ov mn pl)
      callWith pos f first (backTo pos (starEach [] X.env)) (backToKw pos (keywordEach [] X.env))) := by rfl) : DE X E (.Call (.Attribute o mn apos) [] [] pos) (tMth C mn sp to tN) := by
  obtain ⟨t1, p1, k1⟩ := ho.ex
  obtain ⟨f, fd, ps, hm, hb, F⟩ := G.ex
  refine ⟨_, pe_meth0 p1 G.cls hm F hr hb .nil hx ht, fun B μ en m σ H Q Qx QV R hx' T kk => ?_⟩
  refine k1 B μ en m σ H _ Qx _ R hx' T fun B1 μ1 m1 H1 y v s1 R1 r q => ?_
  obtain ⟨fs, rfl, nl, q⟩ := q
  cases (show Rv X.K B1 v (.obj C fs) from r) with
  | obj hv rf =>
    refine ⟨_, _, _, rfl, R1.mem.le _ _ hv, rf.look_none nl, B1, μ1, m1, _, _, Qx, R1.mem, .cons r .nil, q, hx'.step s1 R1.mem R.mem.le, fun B2 μ2 m2 H2 z u s2 M2 rz qz => ?_⟩
    have st := s1.trans R1.mem s2 R.mem.le
    exact kk B2 μ2 m2 H2 z u st (R.stp st M2) rz qz
theorem d_mth {mn : Str} {to : DTE} {pl : Sem Bool} (G : GmM X.prog X.w X.K X.mg X.base k C mn sp) (hr : Room k X.A) (hx : Passes (L2.CX X.prog X.w) X E) (ho : DE X E o to) (ha : DA X E (e :: es) ta)
    (hst : starEach (e :: es) X.env = (false, eval e X.env) :: starEach es X.env := by rfl) (hpl : (backTo pos (starEach es X.env)).any (·.1) = false := by rfl)
    (ht : eval (.Call (.Attribute o mn apos) (e :: es) [] pos) X.env = (do
      let ov ← eval o X.env
      standAt apos.atName
      let (f, first) ← holding [ov] (getMethod ov mn pl)
      callWith pos f first (backTo pos (starEach (e :: es) X.env)) (backToKw pos (keywordEach [] X.env))) := by rfl) : DE X E (.Call (.Attribute o mn apos) (e :: es) [] pos) (tMth C mn sp to ta) := by
  obtain ⟨t1, p1, k1⟩ := ho.ex
  obtain ⟨t2, p2, k2⟩ := ha.ex
  obtain ⟨f, fd, ps, hm, hb, F⟩ := G.ex
  refine ⟨_, pe_meth p1 G.cls hm F hr hb .nil hx p2 hst hpl ht, fun B μ en m σ H Q Qx QV R hx' T kk => ?_⟩
  refine k1 B μ en m σ H _ Qx _ R hx' T fun B1 μ1 m1 H1 y v s1 R1 r q => ?_
  obtain ⟨fs, rfl, nl, q⟩ := q
  cases (show Rv X.K B1 v (.obj C fs) from r) with
  | obj hv rf =>
    refine ⟨_, _, _, rfl, R1.mem.le _ _ hv, rf.look_none nl, ?_⟩
    refine k2 B1 μ1 en m1 σ H1 _ Qx _ R1 (hx'.step s1 R1.mem R.mem.le) q fun B2 μ2 m2 H2 xs us s2 R2 r2 q2 => ?_
    have s12 := s1.trans R1.mem s2 R.mem.le
    rw [List.append_nil]
    refine ⟨B2, μ2, m2, _, _, Qx, R2.mem, .cons (r.to s2.same s2.pre) r2, q2, hx'.step s12 R2.mem R.mem.le, fun B3 μ3 m3 H3 z u s3 M3 rz qz => ?_⟩
    have st := s12.trans R2.mem s3 R.mem.le
    exact kk B3 μ3 m3 H3 z u st (R.stp st M3) rz qz
end
end Fs
set_option Elab.async false
set_option linter.all false
set_option maxRecDepth 100000
set_option maxHeartbeats 8000000
namespace Fs
open PySem PySem.Spec PyProof.Rows L2
open PySem.W in
/-- an own operator, a value of a built-in type at its right -/
theorem bin_ty {prog : Program} {w : World} {A : Around} {E : Value → Shared → Prop} {s : Shared} {K : Frag} {x C g0 : Addr} {ox : Obj} {od : Option Obj} {T : String} {op : Operator} {b : Value} {fo ro rc : Option Value} {Q : Value → Shared → Prop}
    (X : K.In s.heap) (J : InstAt s.heap x ox C od) (tb : Looks (model prog w) s.heap (typeOf b) (.type T)) (sf : selfFirst K C = true) (at_ : findIn K (.ref C) (PySem.dunder op.info.2) = some (some (.ref g0))) (fn : isFn K (.ref g0) = true)
    (rf : findIn K (.ref C) (dunderR op.info.2) = some rc) (rp : rc = none ∨ ∃ g : Addr, rc = some (.ref g)) (b1 : findIn K (.type T) (PySem.dunder op.info.2) = some fo) (b2 : findIn K (.type T) (dunderR op.info.2) = some ro) (sb : subIn K (.type T) (.ref C) = some false)
    (run : wpAny (model prog w) A (call (.ref g0) [.ref x, b]) (PySem.W.CmpBack Q) E s) : wpAny (model prog w) A (binaryOp op (.ref x) b) Q E s := by
  obtain ⟨cd, rest, hcd, hm⟩ := ksp_first sf
  rcases e : op.info with ⟨y, nm⟩
  rw [e] at at_ rf b1 b2
  dsimp only at at_ rf b1 b2
  have go := ksp_try X J at_ fn run
  obtain ⟨hh, gg, d, tt, os⟩ := s
  have K1 : Looks (model prog w) hh (typeOf (.ref x)) (.ref C) := J.type
  have K3 : Looks (model prog w) hh (fillsNumberSlot (.ref C) nm) true := fills_K X hcd hm at_
  have K4 : Looks (model prog w) hh (fillsNumberSlot (.type T) nm) ((fo.isSome && !isSeqSlot fo) || (ro.isSome && !isSeqSlot ro)) := ksp_fillsT X b1 b2
  have K5 : Looks (model prog w) hh (isSubtype (.type T) (.ref C)) false := looks_subIn X sb
  have K6 : Looks (model prog w) hh (numberSlotInPython (.ref C) nm) true := ksp_inPy X at_ rf rp
  have K7 : Looks (model prog w) hh (numberSlotInPython (.type T) nm) false := Looks.of_pure rfl
  have K8 : Looks (model prog w) hh (typeLookup (.type T) (dunderR nm)) ro := looks_findIn X b2
  generalize ((fo.isSome && !isSeqSlot fo) || (ro.isSome && !isSeqSlot ro)) = side at K4
  have ne : (Value.ref C == Value.type T) = false := Bool.eq_false_iff.mpr fun z => by cases beq_iff_eq.mp z
  simp only [binaryOp, e]
  refine wpAny_holding (wpAny_bind ?_)
  unfold binaryOp1
  refine wpAny_bind (K1.at (wpAny_bind (tb.at (wpAny_bind (K3.at ?_)))))
  simp only [ne, Bool.false_eq_true, if_false]
  cases side with
  | false =>
    ksp_lk
    refine wpAny_mono go (fun r s2 z => ?_) fun _ _ e => e
    obtain ⟨v, rfl, q⟩ := z
    ksp_lk
    exact q
  | true =>
    ksp_lk
    refine wpAny_mono go (fun r s2 z => ?_) fun _ _ e => e
    obtain ⟨v, rfl, q⟩ := z
    ksp_lk
    exact q
theorem back_cmp {Q : Value → Shared → Prop} {z : V} {v : Value} {s : Shared} (r : RelV z v) (h : Q v s) : PySem.W.CmpBack Q v s := by
  cases v <;> first | exact h | (cases z <;> first | exact absurd (show _ = _ from r) (fun e => nomatch e) | (obtain ⟨t, e⟩ := r; cases e))
/-- the special method at m of the class at C -/
structure GmS (P : Program) (w : World) (K : Frag) (mg : Str → Option Value) (base : Heap) (k : Nat) (C : Addr) (m : Str) (sp : SpD) : Prop where
  ex : ∃ f fd ps, PySem.W.findIn K (.ref C) m = some (some (.ref f)) ∧ PySem.W.isFn K (.ref f) = true ∧ Binds K fd ps [] ∧ FnOk P w K mg base (L2.CX P w) k f fd ps (lift K sp)
section
variable {X : Cx} {E : XK} {C : Addr} {k : Nat} {sp : SpD}
theorem ins_at {pins : List (Addr × Obj)} {σ : L2.St} {H : Hp} {s : Shared} {a dx : Addr} {fs : List (Str × V)} (I : Inv X pins σ H s) (h : H a = some (.ins C dx fs)) : ∃ od, PySem.W.InstAt s.heap a (PySem.W.instObj C dx) C (some od) := by
  obtain ⟨mA, O, _⟩ := ins_get I.hok h
  obtain ⟨od, J, _⟩ := O.look
  exact ⟨od, J⟩
theorem run_ownA {A : Around} {pins : List (Addr × Obj)} {σ : L2.St} {H : Hp} {s : Shared} {Q : VK} {us : List Value} {vs : List V} {f : Addr} {fd : FuncData} {ps : List Str} (F : FnOk X.prog X.w X.K X.mg X.base (L2.CX X.prog X.w) k f fd ps (lift X.K sp)) (hr : Room k A) (e0 : Env0 X.prog X.w X.K X.mg X.base A X.stack s H) (hb : Binds X.K fd ps []) (I : Inv X pins σ H s) (r : Vals vs us) (h : lift X.K sp vs H Q E0) :
    wpAny (model X.prog X.w) A (call (.ref f) us) (EP X pins σ Q) X.xe s := by
  have hl : us.length = ps.length := by
    rw [← r.length]
    exact F.len _ _ _ _ h
  have bt := hb s us I.kIn (by rw [List.append_nil]; exact hl)
  rw [List.append_nil] at bt
  refine wpAny_call (codeAny_mono (F.run A X.stack s H ⟨us, []⟩ us vs Q E0 hr e0 bt r h) fun r s' z => ?_)
  cases r with
  | error e => exact passF pins σ H s e s' I z
  | ok fl =>
    cases fl with
    | ret u => exact I.after z
    | next => exact (show False from z).elim
    | brk => exact (show False from z).elim
    | cont => exact (show False from z).elim
theorem run_own {pins : List (Addr × Obj)} {σ : L2.St} {H : Hp} {s : Shared} {Q : VK} {us : List Value} {vs : List V} {f : Addr} {fd : FuncData} {ps : List Str} (F : FnOk X.prog X.w X.K X.mg X.base (L2.CX X.prog X.w) k f fd ps (lift X.K sp)) (hr : Room k X.A) (hb : Binds X.K fd ps []) (I : Inv X pins σ H s) (r : Vals vs us) (h : lift X.K sp vs H Q E0) :
    wpAny (model X.prog X.w) X.A (call (.ref f) us) (EP X pins σ Q) X.xe s := run_ownA F hr I.env0 hb I r h
/-- what the method makes of the data, as an operator -/
def liftO (sp : SpD) (xs : List W) (m : Me) (Q : D → Prop) : Prop := sp xs m (fun r m' => m' = m ∧ oD r Q) noX
theorem liftO_ok {B : Hp} {μ : List Addr} {m : Me} {H : Hp} {vs : List V} {xs : List W} {Q : D → Prop} {QV : VK} (M : MemOk X.K B μ m H) (r : RWs X.K B μ vs xs) (h : liftO sp xs m Q) (k : ∀ B' H' d z, Stp B μ m H B' μ m H' → MemOk X.K B' μ m H' → Rv X.K B' z d → Q d → QV z H') : lift X.K sp vs H QV E0 := by
  refine ⟨B, μ, m, xs, _, _, M, r, h, ExOf.no, fun B' μ' m' H' x v s M' rv q => ?_⟩
  obtain ⟨rfl, q⟩ := q
  have e : μ = μ' := s.pre.eq_of_length (by rw [M.len, M'.len])
  subst e
  cases x with
  | loc n => exact q.elim
  | v d => exact k B' H' d v s M' rv q
/-- both sides of the class -/
def binO (C : Addr) (sp : SpD) : DOp := fun x y m Q => (∃ fs gs, x = .v (.obj C fs) ∧ y = .v (.obj C gs)) ∧ liftO sp [x, y] m Q
theorem o_own {op : Operator} (sf : PySem.W.selfFirst X.K C = true) (G : GmS X.prog X.w X.K X.mg X.base k C (PySem.dunder op.info.2) sp) (hr : Room k X.A) : OpD X (binaryOp op) (binO C sp) := by
  obtain ⟨f, fd, ps, at_, fn, hb, F⟩ := G.ex
  refine ⟨fun x y H Q => ∃ a b dx dy fs gs, x = .ref a ∧ y = .ref b ∧ H a = some (.ins C dx fs) ∧ H b = some (.ins C dy gs) ∧ lift X.K sp [x, y] H Q E0, ?_, ?_⟩
  · intro pins s σ H x y v u Q I rx ry ⟨a, b, dx, dy, fs, gs, e1, e2, ha, hb', h⟩
    subst e1 e2
    cases (show v = Value.ref a from rx)
    cases (show u = Value.ref b from ry)
    obtain ⟨oda, Ja⟩ := ins_at I ha
    obtain ⟨odb, Jb⟩ := ins_at I hb'
    obtain ⟨m, fr⟩ := I.fr
    refine PySem.W.binop_K fr I.ok.mod.kin Ja Jb.type sf at_ fn (wpAny_mono (run_own (vs := [.ref a, .ref b]) F hr hb I (.cons rfl (.cons rfl .nil)) h) (fun r s' z => ?_) fun _ _ z => z)
    obtain ⟨w, H', I', rw', q⟩ := z
    exact back_cmp rw' ⟨w, H', I', rw', q⟩
  · intro B μ m H x y v u Q QV M rx ry q kk
    obtain ⟨⟨fs, gs, rfl, rfl⟩, q⟩ := q
    cases (show Rv X.K B v (.obj C fs) from rx) with
    | obj ha rf => cases (show Rv X.K B u (.obj C gs) from ry) with
      | obj hb' rg => exact ⟨_, _, _, _, _, _, rfl, rfl, M.le _ _ ha, M.le _ _ hb', liftO_ok M (.cons rx (.cons ry .nil)) q kk⟩
/-- a tuple at its right -/
structure BinT (K : Frag) (C : Addr) (op : Operator) : Prop where
  sf : PySem.W.selfFirst K C = true
  rf : PySem.W.findIn K (.ref C) (PySem.dunderR op.info.2) = some none
  b1 : ∃ fo, PySem.W.findIn K (.type "tuple") (PySem.dunder op.info.2) = some fo
  b2 : ∃ ro, PySem.W.findIn K (.type "tuple") (PySem.dunderR op.info.2) = some ro
  sb : PySem.W.subIn K (.type "tuple") (.ref C) = some false
def binTO (C : Addr) (sp : SpD) : DOp := fun x y m Q => (∃ fs ds, x = .v (.obj C fs) ∧ y = .v (.tup ds)) ∧ liftO sp [x, y] m Q
theorem o_ownT {op : Operator} (T : BinT X.K C op) (G : GmS X.prog X.w X.K X.mg X.base k C (PySem.dunder op.info.2) sp) (hr : Room k X.A) : OpD X (binaryOp op) (binTO C sp) := by
  obtain ⟨f, fd, ps, at_, fn, hb, F⟩ := G.ex
  refine ⟨fun x y H Q => ∃ a b dx fs ys, x = .ref a ∧ y = .ref b ∧ H a = some (.ins C dx fs) ∧ SqT X.K H b ys ∧ lift X.K sp [x, y] H Q E0, ?_, ?_⟩
  · intro pins s σ H x y v u Q I rx ry ⟨a, b, dx, fs, ys, e1, e2, ha, hy, h⟩
    subst e1 e2
    cases (show v = Value.ref a from rx)
    cases (show u = Value.ref b from ry)
    obtain ⟨oda, Ja⟩ := ins_at I ha
    obtain ⟨its, rv, ⟨o, ho, hc, _⟩, hz⟩ := I.tuple hy
    obtain ⟨fo, b1⟩ := T.b1
    obtain ⟨ro, b2⟩ := T.b2
    have tb : PySem.W.Looks (model X.prog X.w) s.heap (typeOf (.ref b)) (.type "tuple") := fun A Q E s' kp q => wpAny_typeOf_ref (kp _ _ ho) (by rw [hc]; exact q)
    refine bin_ty I.kIn Ja tb T.sf at_ fn T.rf (.inl rfl) b1 b2 T.sb (wpAny_mono (run_own (vs := [.ref a, .ref b]) F hr hb I (.cons rfl (.cons rfl .nil)) h) (fun r s' z => ?_) fun _ _ z => z)
    obtain ⟨w, H', I', rw', q⟩ := z
    exact back_cmp rw' ⟨w, H', I', rw', q⟩
  · intro B μ m H x y v u Q QV M rx ry q kk
    obtain ⟨⟨fs, ds, rfl, rfl⟩, q⟩ := q
    cases (show Rv X.K B v (.obj C fs) from rx) with
    | obj ha rf => cases (show Rv X.K B u (.tup ds) from ry) with
      | tup hy ry' => exact ⟨_, _, _, _, _, rfl, rfl, M.le _ _ ha, M.le.tup hy, liftO_ok M (.cons rx (.cons ry .nil)) q kk⟩
/-! ### len(o), repr(o) -/
def rSp1 (K : Frag) (C : Addr) (sp : SpD) : List V → Hp → VK → Prop := fun xs H Q => ∃ a dx fs, xs = [.ref a] ∧ H a = some (.ins C dx fs) ∧ lift K sp [.ref a] H Q E0
theorem cr_lenO (G : GmS X.prog X.w X.K X.mg X.base k C "__len__" sp) (hr : Room (k + 1) X.A) : CallR X (.builtin "len") (fun xs H Q => rSp1 X.K C sp xs H (fun v H' => ∃ i : Int, v = .int i ∧ 0 ≤ i ∧ i < 2 ^ 63 ∧ Q v H')) := by
  obtain ⟨f, fd, ps, at_, fn, hb, F⟩ := G.ex
  intro pins s σ H xs us Q I r ⟨a, dx, fs, e1, ha, h⟩
  subst e1
  obtain ⟨u, eu, rx⟩ := vals1 r
  subst eu
  cases (show u = Value.ref a from rx)
  obtain ⟨oda, Ja⟩ := ins_at I ha
  obtain ⟨m, fr⟩ := I.fr
  refine PySem.W.len_K fr I.ok.mod.kin Ja at_ fn (wpAny_mono (run_ownA (us := [.ref a]) (vs := [.ref a]) F (Room.in1 hr) I.env0.in1 hb I (.cons rfl .nil) h) (fun w s' z => ?_) fun _ _ z => z)
  obtain ⟨z, H', I', rz, i, rfl, i0, i1, q⟩ := z
  obtain ⟨t, rfl⟩ := (show ∃ t, w = Value.int i t from rz)
  exact ⟨⟨i0, i1⟩, .int i, H', I'.tok _, ⟨_, rfl⟩, q⟩
theorem cr_reprO (G : GmS X.prog X.w X.K X.mg X.base k C "__repr__" sp) (hr : Room (k + 1) X.A) : CallR X (.builtin "repr") (fun xs H Q => rSp1 X.K C sp xs H (fun v H' => ∃ x : Str, v = .str x ∧ Q v H')) := by
  obtain ⟨f, fd, ps, at_, fn, hb, F⟩ := G.ex
  intro pins s σ H xs us Q I r ⟨a, dx, fs, e1, ha, h⟩
  subst e1
  obtain ⟨u, eu, rx⟩ := vals1 r
  subst eu
  cases (show u = Value.ref a from rx)
  obtain ⟨oda, Ja⟩ := ins_at I ha
  obtain ⟨m, fr⟩ := I.fr
  refine PySem.W.repr_K (Room.in1 hr).units0 fr I.ok.mod.kin Ja at_ fn (wpAny_mono (run_ownA (us := [.ref a]) (vs := [.ref a]) F (Room.in1 hr) I.env0.in1 hb I (.cons rfl .nil) h) (fun w s' z => ?_) fun _ _ z => z)
  obtain ⟨z, H', I', rz, x, rfl, q⟩ := z
  obtain ⟨t, rfl⟩ := (show ∃ t, w = Value.str x t from rz)
  exact ⟨.str x, H', I', ⟨t, rfl⟩, q⟩
def sp1O (C : Addr) (sp : SpD) (g : D → Prop) : DCa := fun xs m Q => ∃ fs, xs = [.v (.obj C fs)] ∧ liftO sp xs m fun d => g d ∧ Q d
def isNatD : D → Prop
  | .int i => 0 ≤ i ∧ i < 2 ^ 63
  | _ => False
def isStrD : D → Prop
  | .str _ => True
  | _ => False
theorem c_lenO : SC X (fun xs H Q => rSp1 X.K C sp xs H (fun v H' => ∃ i : Int, v = .int i ∧ 0 ≤ i ∧ i < 2 ^ 63 ∧ Q v H')) (sp1O C sp isNatD) := by
  intro B μ m H xs vs Q QV M r q kk
  obtain ⟨fs, rfl, q⟩ := q
  cases r with
  | cons a t =>
    cases t
    cases (show Rv X.K B _ (.obj C fs) from a) with
    | obj ha rf =>
      refine ⟨_, _, _, rfl, M.le _ _ ha, liftO_ok M (.cons a .nil) q fun B' H' d z s M' rz qd => ?_⟩
      obtain ⟨g, qd⟩ := qd
      cases d with
      | int i => cases (show Rv X.K B' z (.int i) from rz); exact ⟨i, rfl, g.1, g.2, kk B' H' _ _ s M' (.int i) qd⟩
      | _ => exact g.elim
theorem c_reprO : SC X (fun xs H Q => rSp1 X.K C sp xs H (fun v H' => ∃ x : Str, v = .str x ∧ Q v H')) (sp1O C sp isStrD) := by
  intro B μ m H xs vs Q QV M r q kk
  obtain ⟨fs, rfl, q⟩ := q
  cases r with
  | cons a t =>
    cases t
    cases (show Rv X.K B _ (.obj C fs) from a) with
    | obj ha rf =>
      refine ⟨_, _, _, rfl, M.le _ _ ha, liftO_ok M (.cons a .nil) q fun B' H' d z s M' rz qd => ?_⟩
      obtain ⟨g, qd⟩ := qd
      cases d with
      | str x => cases (show Rv X.K B' z (.str x) from rz) with
        | str hx => exact ⟨x, rfl, kk B' H' _ _ s M' (.str hx) qd⟩
      | _ => exact g.elim
theorem d_lenO {e : Expr} {ta : DTA} {p pos : Pos} (G : GmS X.prog X.w X.K X.mg X.base k C "__len__" sp) (hr : Room (k + 1) X.A) (hm : X.mg "len" = none) (ha : DA X E [e] ta) (hg : Gl X "len" := by rfl) (he : starEach [e] X.env = (false, eval e X.env) :: starEach [] X.env := by rfl) (hpl : (backTo pos (starEach [] X.env)).any (·.1) = false := by rfl) : DE X E (.Call (.Name "len" p) [e] [] pos) (tCa (sp1O C sp isNatD) ta) :=
  d_fn (cr_lenO G hr) c_lenO hm PySem.boot_len ha hg (by decide) (by decide) he hpl
theorem d_reprO {e : Expr} {ta : DTA} {p pos : Pos} (G : GmS X.prog X.w X.K X.mg X.base k C "__repr__" sp) (hr : Room (k + 1) X.A) (hm : X.mg "repr" = none) (ha : DA X E [e] ta) (hg : Gl X "repr" := by rfl) (he : starEach [e] X.env = (false, eval e X.env) :: starEach [] X.env := by rfl) (hpl : (backTo pos (starEach [] X.env)).any (·.1) = false := by rfl) : DE X E (.Call (.Name "repr" p) [e] [] pos) (tCa (sp1O C sp isStrD) ta) :=
  d_fn (cr_reprO G hr) c_reprO hm (by decide +kernel) ha hg (by decide) (by decide) he hpl
/-! ### o == x, x an instance of the class or a dict -/
def eqO (K : Frag) (C : Addr) (sp : SpD) : DOp := fun x y m Q => (∃ fs, x = .v (.obj C fs)) ∧ ((∃ gs, y = .v (.obj C gs)) ∨ (∃ kvs, y = .v (.dic kvs)) ∧ PySem.W.notFirst K C (.type "dict") = true) ∧ liftO sp [x, y] m Q
theorem o_eqO (G : GmS X.prog X.w X.K X.mg X.base k C "__eq__" sp) (hr : Room k X.A) : OpD X (compareOp .Eq) (eqO X.K C sp) := by
  obtain ⟨f, fd, ps, at_, fn, hb, F⟩ := G.ex
  refine ⟨fun x y H Q => ∃ a b dx fs, x = .ref a ∧ y = .ref b ∧ H a = some (.ins C dx fs) ∧ ((∃ dy gs, H b = some (.ins C dy gs)) ∨ (∃ od kvs, H b = some (.frz od (.dK kvs))) ∧ PySem.W.notFirst X.K C (.type "dict") = true) ∧ lift X.K sp [x, y] H Q E0, ?_, ?_⟩
  · intro pins s σ H x y v u Q I rx ry ⟨a, b, dx, fs, e1, e2, ha, hy, h⟩
    subst e1 e2
    cases (show v = Value.ref a from rx)
    cases (show u = Value.ref b from ry)
    obtain ⟨oda, Ja⟩ := ins_at I ha
    obtain ⟨m, fr⟩ := I.fr
    show wpAny _ _ (richCompare .Eq (.ref a) (.ref b)) _ _ _
    have go := run_own (vs := [.ref a, .ref b]) F hr hb I (.cons rfl (.cons rfl .nil)) h
    have fin : wpAny (model X.prog X.w) X.A (call (.ref f) [.ref a, .ref b]) (PySem.W.CmpBack (EP X pins σ Q)) X.xe s := wpAny_mono go (fun r s' z => by
      obtain ⟨w, H', I', rw', q⟩ := z
      exact back_cmp rw' ⟨w, H', I', rw', q⟩) fun _ _ z => z
    rcases hy with ⟨dy, gs, hb'⟩ | ⟨⟨od, kvs, hb'⟩, nf⟩
    · obtain ⟨odb, Jb⟩ := ins_at I hb'
      exact PySem.W.cmp_K (op := .Eq) hr.units0 fr I.ok.mod.kin Ja Jb.type (by simp [PySem.W.notFirst]) at_ fn fin
    · obtain ⟨_, _, _, vs, _, o, es, ep, h1, h2, _⟩ := (show ObjOk X.prog X.w H s.heap b (.frz od (.dK kvs)) from I.hok b _ hb')
      have tb : PySem.W.Looks (model X.prog X.w) s.heap (typeOf (.ref b)) (.type "dict") := fun A Q E s' kp q => wpAny_typeOf_ref (kp _ _ h1) (by rw [h2.1]; exact q)
      exact PySem.W.cmp_K (op := .Eq) hr.units0 fr I.ok.mod.kin Ja tb nf at_ fn fin
  · intro B μ m H x y v u Q QV M rx ry q kk
    obtain ⟨⟨fs, rfl⟩, hy, q⟩ := q
    cases (show Rv X.K B v (.obj C fs) from rx) with
    | obj ha rf =>
      rcases hy with ⟨gs, rfl⟩ | ⟨⟨kvs, rfl⟩, nf⟩
      · cases (show Rv X.K B u (.obj C gs) from ry) with
        | obj hb' rg => exact ⟨_, _, _, _, rfl, rfl, M.le _ _ ha, .inl ⟨_, _, M.le _ _ hb'⟩, liftO_ok M (.cons rx (.cons ry .nil)) q kk⟩
      · cases (show Rv X.K B u (.dic kvs) from ry) with
        | dic hb' rg => exact ⟨_, _, _, _, rfl, rfl, M.le _ _ ha, .inr ⟨⟨_, _, M.le _ _ hb'⟩, nf⟩, liftO_ok M (.cons rx (.cons ry .nil)) q kk⟩
/-! ### o.f -/
def tOf (K : Frag) (f : Str) (te : DTE) : DTE := fun en m Q Qx => te en m (fun x m1 => ∃ C fs d, x = .v (.obj C fs) ∧ Cls K C ∧ NoAttr K C f ∧ fs.lookup f = some d ∧ Q (.v d) m1) Qx
theorem d_of {f : Str} {e : Expr} {te : DTE} {pos : Pos} (he : DE X E e te) (hb : attributeBase e f X.env (eval e X.env) = eval e X.env := by rfl) : DE X E (.Attribute e f pos) (tOf X.K f te) := by
  obtain ⟨t1, p1, k1⟩ := he.ex
  refine ⟨_, pe_fld p1 hb, fun B μ en m σ H Q Qx QV R hx T kk => ?_⟩
  refine k1 B μ en m σ H _ Qx _ R hx T fun B1 μ1 m1 H1 x v s1 R1 r q => ?_
  obtain ⟨C, fs, d, rfl, cl, na, hl, q⟩ := q
  cases (show Rv X.K B1 v (.obj C fs) from r) with
  | obj ha rf =>
    obtain ⟨u, hu, ru⟩ := rf.look hl
    exact ⟨_, C, _, _, u, rfl, R1.mem.le _ _ ha, cl, na, hu, kk B1 μ1 m1 H1 (.v d) u s1 R1 (RW.d ru) q⟩
/-! ### o.f = e, o an own instance -/
def putW (f : Str) (v : W) : List (Str × W) → List (Str × W)
  | [] => [(f, v)]
  | (g, x) :: r => if g = f then (g, v) :: r else (g, x) :: putW f v r
theorem RWf.put {K : Frag} {B : Hp} {μ : List Addr} {f : Str} {v : V} {w : W} (r : RW K B μ v w) : ∀ {vs : List (Str × V)} {ws : List (Str × W)}, RWf K B μ vs ws → RWf K B μ (putF f v vs) (putW f w ws)
  | _, _, .nil => .cons r .nil
  | _, _, .cons (k := g) h t => by
    unfold putF putW
    by_cases c : g = f
    · rw [if_pos c, if_pos c]
      exact .cons r t
    · rw [if_neg c, if_neg c]
      exact .cons h (RWf.put r t)
theorem RWf.len {K : Frag} {B : Hp} {μ : List Addr} : ∀ {vs : List (Str × V)} {ws : List (Str × W)}, RWf K B μ vs ws → vs.length = ws.length
  | _, _, .nil => rfl
  | _, _, .cons _ t => congrArg Nat.succ (RWf.len t)
def insAt (m : Me) (n : Nat) (Q : Addr → List (Str × W) → Prop) : Prop := match m[n]? with
  | some (.ins C fs) => Q C fs
  | _ => False
def sFst (K : Frag) (f : Str) (to te : DTE) : DTS := fun en m N => te en m (fun y m1 => to en m1 (fun x m2 => match x with
  | .loc n => insAt m2 n fun C fs => Cls K C ∧ NoAttr K C f ∧ fs.length < 1000 ∧ N.nx en (m2.set n (.ins C (putW f y fs)))
  | _ => False) N.xc) N.xc
theorem ds_fst {f : Str} {o e : Expr} {to te : DTE} {pos pos' : Pos} (ho : DE X E o to) (he : DE X E e te) (hs : swapsWith e (some (.Attribute o f pos')) pos.line X.env = pure false := by rfl) : DS X E (.Assign [.Attribute o f pos'] e pos) (sFst X.K f to te) := by
  obtain ⟨t1, p1, k1⟩ := ho.ex
  obtain ⟨t2, p2, k2⟩ := he.ex
  refine ⟨_, ps_fld p1 p2 hs, fun B μ en m σ H N D R hx T e => ?_⟩
  refine k2 B μ en m σ H _ _ _ R hx T fun B1 μ1 m1 H1 y w s1 R1 r1 T1 => ?_
  refine k1 B1 μ1 en m1 σ H1 _ _ _ R1 (hx.step s1 R1.mem R.mem.le) T1 fun B2 μ2 m2 H2 x v s2 R2 r2 q => ?_
  have s12 := s1.trans R1.mem s2 R.mem.le
  cases x with
  | v d => exact q.elim
  | loc n =>
    have q : insAt m2 n _ := q
    unfold insAt at q
    split at q
    · rename_i C fs hm
      obtain ⟨cl, na, hl, q⟩ := q
      obtain ⟨a, rfl, ha⟩ := r2
      obtain ⟨dx, vs, hv, rf⟩ := R2.mem.at_ n a _ ha hm rfl
      have ry : RW X.K B2 μ2 w y := r1.to s2.same s2.pre
      have kp : ∀ b o, b ≠ a → H2 b = some o → upd H2 a (.ins C dx (putF f w vs)) b = some o := fun b o c e => by rw [upd_ne c]; exact e
      have sS := Stp.store (H' := upd H2 a (.ins C dx (putF f w vs))) (m' := .ins C (putW f y fs)) (B := B2) ha hm rfl kp
      have mS := R2.mem.store (m' := .ins C (putW f y fs)) ha hm rfl rfl kp ⟨dx, _, upd_same, RWf.put ry rf⟩
      have st := s12.trans R2.mem sS R.mem.le
      exact ⟨a, C, dx, vs, rfl, hv, cl, na, by rw [RWf.len rf]; exact hl, e.nx _ _ _ _ _ _ st (R.stp st mS) q⟩
    · exact q.elim
end
end Fs
set_option Elab.async false
set_option linter.all false
set_option maxRecDepth 100000
set_option maxHeartbeats 8000000
namespace Fs
open PySem PySem.Spec PyProof.Rows L2
abbrev s_common_factor : Stmt := top 7
abbrev N_common_factor : List Str := ["one", "other"]
abbrev P_common_factor : List Str := ["one", "other"]
theorem sc_common_factor : FnScope N_common_factor P_common_factor (defScope s_common_factor) := ⟨rfl, rfl, rfl, by decide +kernel, rfl, by decide +kernel, by decide +kernel⟩
theorem gcd_turn {a n : Nat} (h : n ≠ 0) : Nat.gcd n (a % n) = Nat.gcd a n := by
  rw [Nat.gcd_comm n, ← Nat.gcd_rec, Nat.gcd_comm]
section
variable {P : Program} {w : World} {K : Frag} {mg : Str → Option Value} {base : Heap}
def spGcdD : SpD := fun ws m Q _ => ∃ i j : Int, ws = [.v (.int i), .v (.int j)] ∧ Q (.v (.int ((Int.gcd i j : Nat) : Int))) m
theorem dd_common_factor (G : Gs K mg "common_factor" s_common_factor) (m_abs : mg "abs" = none) : Gd P w K mg base (L2.CX P w) 1 "common_factor" P_common_factor (lift K spGcdD) := by
  refine Fo.gd (fo_d sc_common_factor (fun ws m Q Qx h => ?_) (fun f cdv A outer s H E hr => ⟨_, (dss_cons (ds_par (i := 0) (j := 1) rfl sc_common_factor.nd rfl rfl (by decide) rfl rfl (da_cons (d_abs m_abs (da_cons (dv 0) da_nil)) (da_cons (d_abs m_abs (da_cons (dv 1) da_nil)) da_nil)) (by rfl))
    (dss_cons (ds_while (passes_of rfl) (dt_cmp (o_ne (u64 hr)) (dv 1) d_int (nomark _))
      (dss_one (ds_par (i := 0) (j := 1) rfl sc_common_factor.nd rfl rfl (by decide) rfl rfl (da_cons (dv 1) (da_cons (d_op o_mod (dv 0) (dv 1)) da_nil)) (by rfl))))
    (dss_one (ds_ret (dv 0))))), fun ws m Qd Qx h => ?_⟩) [] []) G (fun _ _ _ _ _ _ us hl => match us, hl with | [_, _], _ => rfl)
  · obtain ⟨_, _, rfl, _⟩ := h
    rfl
  · obtain ⟨i, j, rfl, q⟩ := h
    refine sWh_inv (fun n en m' => m' = m ∧ ∃ a : Nat, en = [some (.v (.int a)), some (.v (.int n))] ∧ Nat.gcd a n = Int.gcd i j) j.natAbs ⟨rfl, i.natAbs, rfl, rfl⟩ ?_
    rintro n en m' N' ⟨rfl, a, rfl, hg⟩ r1 r2 r3 hn
    refine ⟨rfl, rfl, Nat.zero_le _, Nat.zero_le _, iteB (fun c => ?_) (fun c => ?_)⟩
    · have hz : n ≠ 0 := by
        intro z
        subst z
        cases c
      have z := Nat.mod_lt a (Nat.pos_of_ne_zero hz)
      exact ⟨by omega, (hn (a % n) _ _ z ⟨rfl, n, rfl, by rw [gcd_turn hz]; exact hg⟩).1⟩
    · have hz : n = 0 := by
        have c : (!((n : Int) == 0)) = false := c
        have c : ((n : Int) == 0) = true := by simpa using c
        have c : (n : Int) = 0 := by simpa using c
        omega
      subst hz
      rw [Nat.gcd_zero_right] at hg
      subst hg
      exact ⟨List.prefix_refl _, q⟩
abbrev s__law_low : Stmt := top 23
abbrev N__law_low : List Str := ["_law_top", "_law_bottom", "_law_one", "_law_other"]
abbrev P__law_low : List Str := ["_law_top", "_law_bottom"]
theorem sc__law_low : FnScope N__law_low P__law_low (defScope s__law_low) := ⟨rfl, rfl, rfl, by decide +kernel, rfl, by decide +kernel, by decide +kernel⟩
/-- in lowest terms, the bottom above 0 -/
def lowI (t b : Int) : Int × Int := let g : Int := if b < 0 then -((Int.gcd t b : Nat) : Int) else ((Int.gcd t b : Nat) : Int)
  (t / g, b / g)
/-- a fraction -/
abbrev frD (p : Int × Int) : D := .tup [.int p.1, .int p.2]
theorem lowI_low {t b : Int} (hb : 0 < b) : ∃ k : Nat, (lowI t b).2 = k ∧ 0 < k ∧ Int.gcd (lowI t b).1 k = 1 ∧ (lowI t b).1.natAbs ≤ t.natAbs ∧ k ≤ b.natAbs := by
  have hg : 0 < Int.gcd t b := Int.gcd_pos_of_ne_zero_right _ (by omega)
  have e : lowI t b = (t / ((Int.gcd t b : Nat) : Int), b / ((Int.gcd t b : Nat) : Int)) := by
    unfold lowI
    rw [if_neg (by omega)]
  rw [e]
  obtain ⟨q, hq⟩ := Int.gcd_dvd_right (a := t) (b := b)
  have q0 : 0 < q := by
    rcases Int.lt_trichotomy q 0 with z | z | z
    · have := Int.mul_neg_of_pos_of_neg (show (0 : Int) < ((Int.gcd t b : Nat) : Int) by omega) z
      omega
    · subst z
      rw [Int.mul_zero] at hq
      omega
    · exact z
  have e2 : b / ((Int.gcd t b : Nat) : Int) = q := by
    conv => lhs; lhs; rw [hq]
    exact Int.mul_ediv_cancel_left _ (by omega)
  have g1 := Int.gcd_ediv_gcd_ediv_gcd hg
  refine ⟨q.toNat, by show b / _ = _; rw [e2]; omega, by omega, ?_, ?_, ?_⟩
  · rw [e2] at g1
    rw [Int.toNat_of_nonneg (by omega)]
    exact g1
  · show (t / ((Int.gcd t b : Nat) : Int)).natAbs ≤ _
    obtain ⟨r, hr⟩ := Int.gcd_dvd_left (a := t) (b := b)
    have : t / ((Int.gcd t b : Nat) : Int) = r := by
      conv => lhs; lhs; rw [hr]
      exact Int.mul_ediv_cancel_left _ (by omega)
    rw [this]
    conv => rhs; rw [hr]
    rw [Int.natAbs_mul]
    exact Nat.le_mul_of_pos_left _ (by omega)
  · conv => rhs; rw [hq]
    rw [Int.natAbs_mul]
    have : q.toNat = q.natAbs := by omega
    rw [this]
    exact Nat.le_mul_of_pos_left _ (by omega)
def spLowD : SpD := fun ws m Q _ => ∃ i j : Int, ws = [.v (.int i), .v (.int j)] ∧ 0 < j ∧ j.natAbs.log2 < 9000 ∧ Q (.v (frD (lowI i j))) m
theorem log2_lt {i : Int} {k : Nat} (h : i.natAbs < 10 ^ k) (k0 : 4 * k < 1920 := by decide) : i.natAbs.log2 < 1920 := by
  by_cases e : i.natAbs = 0
  · rw [e]
    decide
  · rw [Nat.log2_lt e]
    have z1 : (10 : Nat) ^ k ≤ 16 ^ k := Nat.pow_le_pow_left (by decide) k
    have z2 : (16 : Nat) ^ k = 2 ^ (4 * k) := by rw [show (16 : Nat) = 2 ^ 4 by decide, ← Nat.pow_mul]
    have z3 : (2 : Nat) ^ (4 * k) ≤ 2 ^ 1920 := Nat.pow_le_pow_right (by decide) (by omega)
    omega
theorem log2_le {n k : Nat} (h : n ≤ k) : n.log2 ≤ k.log2 := by
  by_cases e : n = 0
  · subst e
    exact Nat.zero_le _
  · exact (Nat.le_log2 (by omega)).mpr (Nat.le_trans (Nat.log2_self_le e) h)
theorem dd__law_low (G : Gs K mg "_law_low" s__law_low) (m_abs : mg "abs" = none) : Gd P w K mg base (L2.CX P w) 1 "_law_low" P__law_low (lift K spLowD) := by
  refine Fo.gd (fo_d sc__law_low (fun ws m Q Qx h => ?_) (fun f cdv A outer s H E hr => ⟨_, (dss_cons (ds_par (i := 2) (j := 3) rfl sc__law_low.nd rfl rfl (by decide) rfl rfl (da_cons (d_abs m_abs (da_cons (dv 0) da_nil)) (da_cons (d_abs m_abs (da_cons (dv 1) da_nil)) da_nil)) (by rfl))
    (dss_cons (ds_while (passes_of rfl) (dt_cmp (o_ne (u64 hr)) (dv 3) d_int (nomark _))
      (dss_one (ds_par (i := 2) (j := 3) rfl sc__law_low.nd rfl rfl (by decide) rfl rfl (da_cons (dv 3) (da_cons (d_op o_mod (dv 2) (dv 3)) da_nil)) (by rfl))))
    (dss_cons (ds_if (dt_cmp o_lt (dv 1) d_int (nomark _))
      (dss_one (ds_set (i := 2) sc__law_low.nd rfl (.inl rfl) (d_op o_sub d_int (dv 2))))
      dss_nil)
    (dss_one (ds_ret (d_tup (da_cons (d_op o_fdiv (dv 0) (dv 2)) (da_cons (d_op o_fdiv (dv 1) (dv 2)) da_nil)))))))), fun ws m Qd Qx h => ?_⟩) [] []) G (fun _ _ _ _ _ _ us hl => match us, hl with | [_, _], _ => rfl)
  · obtain ⟨_, _, rfl, _⟩ := h
    rfl
  · obtain ⟨i, j, rfl, hj, hl, q⟩ := h
    refine sWh_inv (fun n en m' => m' = m ∧ ∃ a : Nat, en = [some (.v (.int i)), some (.v (.int j)), some (.v (.int a)), some (.v (.int n))] ∧ Nat.gcd a n = Int.gcd i j) j.natAbs ⟨rfl, i.natAbs, rfl, rfl⟩ ?_
    rintro n en m' N' ⟨rfl, a, rfl, hg⟩ r1 r2 r3 hn
    refine ⟨rfl, rfl, Nat.zero_le _, Nat.zero_le _, iteB (fun c => ?_) (fun c => ?_)⟩
    · have hz : n ≠ 0 := by
        intro z
        subst z
        cases c
      have z := Nat.mod_lt a (Nat.pos_of_ne_zero hz)
      exact ⟨by omega, (hn (a % n) _ _ z ⟨rfl, n, rfl, by rw [gcd_turn hz]; exact hg⟩).1⟩
    · have hz : n = 0 := by
        have c : (!((n : Int) == 0)) = false := c
        have c : ((n : Int) == 0) = true := by simpa using c
        have c : (n : Int) = 0 := by simpa using c
        omega
      subst hz
      rw [Nat.gcd_zero_right] at hg
      subst hg
      refine ite_no (decide_eq_false (by omega)) ?_
      have hp : 0 < Int.gcd i j := Int.gcd_pos_of_ne_zero_right _ (by omega)
      have hle : Int.gcd i j ≤ j.natAbs := Nat.le_of_dvd (by omega) (Nat.gcd_dvd_right _ _)
      have h9 : ((Int.gcd i j : Nat) : Int).natAbs.log2 < 9000 := Nat.lt_of_le_of_lt (log2_le (by omega)) hl
      refine ⟨by omega, h9, by omega, h9, (by show 2 ≤ sizeLine; decide), List.prefix_refl _, ?_⟩
      have z : lowI i j = (i / ((Int.gcd i j : Nat) : Int), j / ((Int.gcd i j : Nat) : Int)) := by
        unfold lowI
        rw [if_neg (by omega)]
      rw [z] at q
      exact q
end
end Fs
set_option Elab.async false
set_option linter.all false
set_option maxRecDepth 100000
set_option maxHeartbeats 8000000
namespace Fs
open PySem PySem.Spec PyProof.Rows L2
section
variable {P : Program} {w : World} {K : Frag} {mg : Str → Option Value} {base : Heap}
def smallF (p : Int × Int) : Prop := p.1.natAbs < 10 ^ 40 ∧ p.2.natAbs < 10 ^ 40
def plusI (r s : Int × Int) : Int × Int := lowI (r.1 * s.2 + s.1 * r.2) (r.2 * s.2)
def minusI (r s : Int × Int) : Int × Int := lowI (r.1 * s.2 - s.1 * r.2) (r.2 * s.2)
def timesI (r s : Int × Int) : Int × Int := lowI (r.1 * s.1) (r.2 * s.2)
def spTwoF (f : Int × Int → Int × Int → Int × Int) : SpD := fun ws m Q _ => ∃ r s, ws = [.v (frD r), .v (frD s)] ∧ 0 < r.2 ∧ 0 < s.2 ∧ smallF r ∧ smallF s ∧ Q (.v (frD (f r s))) m
theorem cm_small {i j : Int} (h1 : i.natAbs < 10 ^ 40) (h2 : j.natAbs < 10 ^ 40) : CMulW i j := by
  have z1 := log2_lt (k := 40) h1
  have z2 := log2_lt (k := 40) h2
  show _ + _ < 1000000
  omega
theorem mul_small {i j : Int} (h1 : i.natAbs < 10 ^ 40) (h2 : j.natAbs < 10 ^ 40) : (i * j).natAbs < 10 ^ 80 := by
  rw [Int.natAbs_mul]
  have z : i.natAbs * j.natAbs < 10 ^ 40 * 10 ^ 40 := Nat.mul_lt_mul'' h1 h2
  have e : (10 : Nat) ^ 40 * 10 ^ 40 = 10 ^ 80 := by rw [← Nat.pow_add]
  omega
theorem low9 {b d : Int} (h1 : b.natAbs < 10 ^ 40) (h2 : d.natAbs < 10 ^ 40) : (b * d).natAbs.log2 < 9000 := by
  have z := log2_lt (k := 80) (mul_small h1 h2)
  omega
def szF (e : Nat) (p : Int × Int) : Prop := p.1.natAbs < 2 ^ e ∧ p.2.natAbs < 2 ^ e
/-- bits that numbers of fractions may have -/
def bigE : Nat := 4000
theorem log_pow2 {n e : Nat} (h : n < 2 ^ e) (he : 0 < e) : n.log2 < e := by
  by_cases z : n = 0
  · subst z
    exact he
  · exact (Nat.log2_lt z).mpr h
theorem mul_pow2 {i j : Int} {a b : Nat} (h1 : i.natAbs < 2 ^ a) (h2 : j.natAbs < 2 ^ b) : (i * j).natAbs < 2 ^ (a + b) := by
  rw [Int.natAbs_mul, Nat.pow_add]
  exact Nat.mul_lt_mul'' h1 h2
theorem cm_big {i j : Int} (h1 : i.natAbs < 2 ^ bigE) (h2 : j.natAbs < 2 ^ bigE) : CMulW i j := by
  have z1 := log_pow2 h1 (by decide)
  have z2 := log_pow2 h2 (by decide)
  have e : bigE = 4000 := rfl
  show _ + _ < 1000000
  omega
theorem low9B {b d : Int} (h1 : b.natAbs < 2 ^ bigE) (h2 : d.natAbs < 2 ^ bigE) : (b * d).natAbs.log2 < 9000 := by
  have z := log_pow2 (mul_pow2 h1 h2) (by decide)
  have e : bigE = 4000 := rfl
  omega
theorem pow_le2 {a b : Nat} (h : a ≤ b) : 2 ^ a ≤ 2 ^ b := Nat.pow_le_pow_right (by decide) h
theorem szF.mono {a b : Nat} {p : Int × Int} (h : szF a p) (l : a ≤ b) : szF b p := ⟨Nat.lt_of_lt_of_le h.1 (pow_le2 l), Nat.lt_of_lt_of_le h.2 (pow_le2 l)⟩
theorem small_sz {p : Int × Int} (h : smallF p) : szF 133 p := by
  have z : (10 : Nat) ^ 40 ≤ 2 ^ 133 := by decide
  exact ⟨Nat.lt_of_lt_of_le h.1 z, Nat.lt_of_lt_of_le h.2 z⟩
def spTwoB (f : Int × Int → Int × Int → Int × Int) : SpD := fun ws m Q _ => ∃ r s, ws = [.v (frD r), .v (frD s)] ∧ 0 < r.2 ∧ 0 < s.2 ∧ szF bigE r ∧ szF bigE s ∧ Q (.v (frD (f r s))) m
theorem two_weak {f : Int × Int → Int × Int → Int × Int} (ws : List W) (m : Me) (Q : W → Me → Prop) (Qx : QX) (h : spTwoF f ws m Q Qx) : spTwoB f ws m Q Qx := by
  obtain ⟨r, s, e, p1, p2, s1, s2, q⟩ := h
  exact ⟨r, s, e, p1, p2, (small_sz s1).mono (by decide), (small_sz s2).mono (by decide), q⟩
theorem fn_weak {CX : CXT} {ps : List Str} {k : Nat} {f : Addr} {fd : FuncData} {sp sp' : SpD} (F : FnOk P w K mg base CX k f fd ps (lift K sp)) (h : ∀ ws m Q Qx, sp' ws m Q Qx → sp ws m Q Qx) : FnOk P w K mg base CX k f fd ps (lift K sp') := by
  have up : ∀ vs H Q E, lift K sp' vs H Q E → lift K sp vs H Q E := fun vs H Q E ⟨B, μ, m, ws, Qd, Qx, M, r, hs, z⟩ => ⟨B, μ, m, ws, Qd, Qx, M, r, h _ _ _ _ hs, z⟩
  exact ⟨fun vs H Q E z => F.len vs H Q E (up _ _ _ _ z), fun A outer s H args us vs Q E hr he hb hv hs => F.run A outer s H args us vs Q E hr he hb hv (up _ _ _ _ hs)⟩
theorem Gd.weak {CX : CXT} {x : Str} {ps : List Str} {k : Nat} {sp sp' : SpD} (G : Gd P w K mg base CX k x ps (lift K sp)) (h : ∀ ws m Q Qx, sp' ws m Q Qx → sp ws m Q Qx) : Gd P w K mg base CX k x ps (lift K sp') := by
  obtain ⟨f, fd, a, b, c, F⟩ := G.ex
  have up : ∀ vs H Q E, lift K sp' vs H Q E → lift K sp vs H Q E := fun vs H Q E ⟨B, μ, m, ws, Qd, Qx, M, r, hs, z⟩ => ⟨B, μ, m, ws, Qd, Qx, M, r, h _ _ _ _ hs, z⟩
  exact ⟨f, fd, a, b, c, fun vs H Q E z => F.len vs H Q E (up _ _ _ _ z), fun A outer s H args us vs Q E hr he hb hv hs => F.run A outer s H args us vs Q E hr he hb hv (up _ _ _ _ hs)⟩
abbrev s_ratio : Stmt := top 8
abbrev N_ratio : List Str := ["top", "bottom", "factor"]
abbrev P_ratio : List Str := ["top", "bottom"]
theorem sc_ratio : FnScope N_ratio P_ratio (defScope s_ratio) := ⟨rfl, rfl, rfl, by decide +kernel, rfl, by decide +kernel, by decide +kernel⟩
theorem fo_ratioD (g_common_factor : Gd P w K mg base (L2.CX P w) 1 "common_factor" P_common_factor (lift K spGcdD)) : Fo P w K mg base (L2.CX P w) 2 "ratio" s_ratio [.int 1] [] P_ratio (lift K spLowD) := by
  refine fo_d sc_ratio (fun ws m Q Qx h => ?_) (fun f cdv A outer s H E hr => ⟨_, (dss_cons (ds_if (dt_cmp (o_eq (u64 hr)) (dv 1) d_int (nomark _))
      dss_never
      dss_nil)
    (dss_cons (ds_set (i := 2) sc_ratio.nd rfl (.inl rfl) (d_call g_common_factor (hr.mono (by omega)) (passE (takes_of rfl rfl rfl rfl)) (da_cons (dv 0) (da_cons (dv 1) da_nil))))
    (dss_cons (ds_if (dt_cmp o_lt (dv 1) d_int (nomark _))
      (dss_one (ds_set (i := 2) sc_ratio.nd rfl (.inl rfl) (d_un o_neg (dv 2))))
      dss_nil)
    (dss_one (ds_ret (d_tup (da_cons (d_op o_fdiv (dv 0) (dv 2)) (da_cons (d_op o_fdiv (dv 1) (dv 2)) da_nil)))))))), fun ws m Qd Qx h => ?_⟩) [.int 1] []
  · obtain ⟨_, _, rfl, _⟩ := h
    rfl
  obtain ⟨i, j, rfl, hj, hl, q⟩ := h
  have hp : 0 < Int.gcd i j := Int.gcd_pos_of_ne_zero_right _ (by omega)
  have hle : Int.gcd i j ≤ j.natAbs := Nat.le_of_dvd (by omega) (Nat.gcd_dvd_right _ _)
  have h9 : ((Int.gcd i j : Nat) : Int).natAbs.log2 < 9000 := Nat.lt_of_le_of_lt (log2_le (by omega)) hl
  have z : lowI i j = (i / ((Int.gcd i j : Nat) : Int), j / ((Int.gcd i j : Nat) : Int)) := by
    unfold lowI
    rw [if_neg (by omega)]
  rw [z] at q
  refine ⟨rfl, rfl, Nat.zero_le _, Nat.zero_le _, ?_⟩
  refine ite_no ?_ ?_
  · show (j == 0) = false
    simp
    omega
  refine ⟨i, j, rfl, ?_⟩
  refine ite_no (decide_eq_false (by omega)) ?_
  exact ⟨by omega, h9, by omega, h9, (by show 2 ≤ sizeLine; decide), List.prefix_refl _, q⟩
abbrev s_plus : Stmt := top 9
abbrev N_plus : List Str := ["one", "other"]
abbrev P_plus : List Str := ["one", "other"]
theorem sc_plus : FnScope N_plus P_plus (defScope s_plus) := ⟨rfl, rfl, rfl, by decide +kernel, rfl, by decide +kernel, by decide +kernel⟩
theorem dd_plusB (G : Gs K mg "plus" s_plus) (g_ratio : Gd P w K mg base (L2.CX P w) 2 "ratio" P_ratio (lift K spLowD)) : Gd P w K mg base (L2.CX P w) 3 "plus" P_plus (lift K (spTwoB plusI)) := by
  refine Fo.gd (fo_d sc_plus (fun ws m Q Qx h => ?_) (fun f cdv A outer s H E hr => ⟨_, (dss_one (ds_ret (d_call g_ratio (hr.mono (by omega)) (passE (takes_of rfl rfl rfl rfl)) (da_cons (d_op o_add (d_op o_mul (d_ix (dv 0) d_int) (d_ix (dv 1) d_int)) (d_op o_mul (d_ix (dv 1) d_int) (d_ix (dv 0) d_int))) (da_cons (d_op o_mul (d_ix (dv 0) d_int) (d_ix (dv 1) d_int)) da_nil))))), fun ws m Qd Qx h => ?_⟩) [] []) G (fun _ _ _ _ _ _ us hl => match us, hl with | [_, _], _ => rfl)
  · obtain ⟨_, _, rfl, _⟩ := h
    rfl
  obtain ⟨r, s, rfl, p1, p2, ⟨r1, r2⟩, ⟨s1, s2⟩, q⟩ := h
  exact ⟨_, rfl, _, rfl, cm_big r1 s2, _, rfl, _, rfl, cm_big s1 r2, _, rfl, _, rfl, cm_big r2 s2, _, _, rfl, Int.mul_pos p1 p2, low9B r2 s2, List.prefix_refl _, q⟩
theorem dd_plus (G : Gs K mg "plus" s_plus) (g_ratio : Gd P w K mg base (L2.CX P w) 2 "ratio" P_ratio (lift K spLowD)) : Gd P w K mg base (L2.CX P w) 3 "plus" P_plus (lift K (spTwoF plusI)) := (dd_plusB G g_ratio).weak two_weak
abbrev s_minus : Stmt := top 10
abbrev N_minus : List Str := ["one", "other"]
abbrev P_minus : List Str := ["one", "other"]
theorem sc_minus : FnScope N_minus P_minus (defScope s_minus) := ⟨rfl, rfl, rfl, by decide +kernel, rfl, by decide +kernel, by decide +kernel⟩
theorem dd_minusB (G : Gs K mg "minus" s_minus) (g_ratio : Gd P w K mg base (L2.CX P w) 2 "ratio" P_ratio (lift K spLowD)) : Gd P w K mg base (L2.CX P w) 3 "minus" P_minus (lift K (spTwoB minusI)) := by
  refine Fo.gd (fo_d sc_minus (fun ws m Q Qx h => ?_) (fun f cdv A outer s H E hr => ⟨_, (dss_one (ds_ret (d_call g_ratio (hr.mono (by omega)) (passE (takes_of rfl rfl rfl rfl)) (da_cons (d_op o_sub (d_op o_mul (d_ix (dv 0) d_int) (d_ix (dv 1) d_int)) (d_op o_mul (d_ix (dv 1) d_int) (d_ix (dv 0) d_int))) (da_cons (d_op o_mul (d_ix (dv 0) d_int) (d_ix (dv 1) d_int)) da_nil))))), fun ws m Qd Qx h => ?_⟩) [] []) G (fun _ _ _ _ _ _ us hl => match us, hl with | [_, _], _ => rfl)
  · obtain ⟨_, _, rfl, _⟩ := h
    rfl
  obtain ⟨r, s, rfl, p1, p2, ⟨r1, r2⟩, ⟨s1, s2⟩, q⟩ := h
  exact ⟨_, rfl, _, rfl, cm_big r1 s2, _, rfl, _, rfl, cm_big s1 r2, _, rfl, _, rfl, cm_big r2 s2, _, _, rfl, Int.mul_pos p1 p2, low9B r2 s2, List.prefix_refl _, q⟩
theorem dd_minus (G : Gs K mg "minus" s_minus) (g_ratio : Gd P w K mg base (L2.CX P w) 2 "ratio" P_ratio (lift K spLowD)) : Gd P w K mg base (L2.CX P w) 3 "minus" P_minus (lift K (spTwoF minusI)) := (dd_minusB G g_ratio).weak two_weak
abbrev s_times : Stmt := top 11
abbrev N_times : List Str := ["one", "other"]
abbrev P_times : List Str := ["one", "other"]
theorem sc_times : FnScope N_times P_times (defScope s_times) := ⟨rfl, rfl, rfl, by decide +kernel, rfl, by decide +kernel, by decide +kernel⟩
theorem dd_timesB (G : Gs K mg "times" s_times) (g_ratio : Gd P w K mg base (L2.CX P w) 2 "ratio" P_ratio (lift K spLowD)) : Gd P w K mg base (L2.CX P w) 3 "times" P_times (lift K (spTwoB timesI)) := by
  refine Fo.gd (fo_d sc_times (fun ws m Q Qx h => ?_) (fun f cdv A outer s H E hr => ⟨_, (dss_one (ds_ret (d_call g_ratio (hr.mono (by omega)) (passE (takes_of rfl rfl rfl rfl)) (da_cons (d_op o_mul (d_ix (dv 0) d_int) (d_ix (dv 1) d_int)) (da_cons (d_op o_mul (d_ix (dv 0) d_int) (d_ix (dv 1) d_int)) da_nil))))), fun ws m Qd Qx h => ?_⟩) [] []) G (fun _ _ _ _ _ _ us hl => match us, hl with | [_, _], _ => rfl)
  · obtain ⟨_, _, rfl, _⟩ := h
    rfl
  obtain ⟨r, s, rfl, p1, p2, ⟨r1, r2⟩, ⟨s1, s2⟩, q⟩ := h
  exact ⟨_, rfl, _, rfl, cm_big r1 s1, _, rfl, _, rfl, cm_big r2 s2, _, _, rfl, Int.mul_pos p1 p2, low9B r2 s2, List.prefix_refl _, q⟩
theorem dd_times (G : Gs K mg "times" s_times) (g_ratio : Gd P w K mg base (L2.CX P w) 2 "ratio" P_ratio (lift K spLowD)) : Gd P w K mg base (L2.CX P w) 3 "times" P_times (lift K (spTwoF timesI)) := (dd_timesB G g_ratio).weak two_weak
abbrev s__law_plus : Stmt := top 24
abbrev N__law_plus : List Str := ["_law_one", "_law_other"]
abbrev P__law_plus : List Str := ["_law_one", "_law_other"]
theorem sc__law_plus : FnScope N__law_plus P__law_plus (defScope s__law_plus) := ⟨rfl, rfl, rfl, by decide +kernel, rfl, by decide +kernel, by decide +kernel⟩
theorem dd__law_plusB (G : Gs K mg "_law_plus" s__law_plus) (g__law_low : Gd P w K mg base (L2.CX P w) 1 "_law_low" P__law_low (lift K spLowD)) : Gd P w K mg base (L2.CX P w) 2 "_law_plus" P__law_plus (lift K (spTwoB plusI)) := by
  refine Fo.gd (fo_d sc__law_plus (fun ws m Q Qx h => ?_) (fun f cdv A outer s H E hr => ⟨_, (dss_one (ds_ret (d_call g__law_low (hr.mono (by omega)) (passE (takes_of rfl rfl rfl rfl)) (da_cons (d_op o_add (d_op o_mul (d_ix (dv 0) d_int) (d_ix (dv 1) d_int)) (d_op o_mul (d_ix (dv 1) d_int) (d_ix (dv 0) d_int))) (da_cons (d_op o_mul (d_ix (dv 0) d_int) (d_ix (dv 1) d_int)) da_nil))))), fun ws m Qd Qx h => ?_⟩) [] []) G (fun _ _ _ _ _ _ us hl => match us, hl with | [_, _], _ => rfl)
  · obtain ⟨_, _, rfl, _⟩ := h
    rfl
  obtain ⟨r, s, rfl, p1, p2, ⟨r1, r2⟩, ⟨s1, s2⟩, q⟩ := h
  exact ⟨_, rfl, _, rfl, cm_big r1 s2, _, rfl, _, rfl, cm_big s1 r2, _, rfl, _, rfl, cm_big r2 s2, _, _, rfl, Int.mul_pos p1 p2, low9B r2 s2, List.prefix_refl _, q⟩
theorem dd__law_plus (G : Gs K mg "_law_plus" s__law_plus) (g__law_low : Gd P w K mg base (L2.CX P w) 1 "_law_low" P__law_low (lift K spLowD)) : Gd P w K mg base (L2.CX P w) 2 "_law_plus" P__law_plus (lift K (spTwoF plusI)) := (dd__law_plusB G g__law_low).weak two_weak
abbrev s__law_times : Stmt := top 25
abbrev N__law_times : List Str := ["_law_one", "_law_other"]
abbrev P__law_times : List Str := ["_law_one", "_law_other"]
theorem sc__law_times : FnScope N__law_times P__law_times (defScope s__law_times) := ⟨rfl, rfl, rfl, by decide +kernel, rfl, by decide +kernel, by decide +kernel⟩
theorem dd__law_timesB (G : Gs K mg "_law_times" s__law_times) (g__law_low : Gd P w K mg base (L2.CX P w) 1 "_law_low" P__law_low (lift K spLowD)) : Gd P w K mg base (L2.CX P w) 2 "_law_times" P__law_times (lift K (spTwoB timesI)) := by
  refine Fo.gd (fo_d sc__law_times (fun ws m Q Qx h => ?_) (fun f cdv A outer s H E hr => ⟨_, (dss_one (ds_ret (d_call g__law_low (hr.mono (by omega)) (passE (takes_of rfl rfl rfl rfl)) (da_cons (d_op o_mul (d_ix (dv 0) d_int) (d_ix (dv 1) d_int)) (da_cons (d_op o_mul (d_ix (dv 0) d_int) (d_ix (dv 1) d_int)) da_nil))))), fun ws m Qd Qx h => ?_⟩) [] []) G (fun _ _ _ _ _ _ us hl => match us, hl with | [_, _], _ => rfl)
  · obtain ⟨_, _, rfl, _⟩ := h
    rfl
  obtain ⟨r, s, rfl, p1, p2, ⟨r1, r2⟩, ⟨s1, s2⟩, q⟩ := h
  exact ⟨_, rfl, _, rfl, cm_big r1 s1, _, rfl, _, rfl, cm_big r2 s2, _, _, rfl, Int.mul_pos p1 p2, low9B r2 s2, List.prefix_refl _, q⟩
theorem dd__law_times (G : Gs K mg "_law_times" s__law_times) (g__law_low : Gd P w K mg base (L2.CX P w) 1 "_law_low" P__law_low (lift K spLowD)) : Gd P w K mg base (L2.CX P w) 2 "_law_times" P__law_times (lift K (spTwoF timesI)) := (dd__law_timesB G g__law_low).weak two_weak
end
end Fs
set_option Elab.async false
set_option linter.all false
set_option maxRecDepth 100000
set_option maxHeartbeats 8000000
namespace Fs
open PySem PySem.Spec PyProof.Rows L2
/-! ### == of two dicts -/
def eqHits (b : List (Key × D)) : List (Key × D) → Bool
  | [] => true
  | (k, d) :: r => match valD b k with
    | some e => deq d e && eqHits b r
    | none => false
def okVs (ds : List (Key × D)) : Prop := ∀ p ∈ ds, plainD p.2 = true ∧ depD p.2 ≤ 64
section
variable {X : Cx} {E : XK}
theorem valD_mem {ds : List (Key × D)} {k : Key} {d : D} (h : valD ds k = some d) : ∃ p ∈ ds, p.2 = d := by
  unfold valD at h
  cases e : ds.find? fun kv => decide (kv.1 = k) with
  | none => rw [e] at h; cases h
  | some p =>
    rw [e] at h
    exact ⟨p, List.mem_of_find?_eq_some e, Option.some.inj h⟩
theorem dic_hits {pins : List (Addr × Obj)} {σ : L2.St} {H B : Hp} {s : Shared} (I : Inv X pins σ H s) (le : Le B H) (hu : X.A.units + 65 < cLine) {ls : List (Key × V)} {dls : List (Key × D)} {vb : List (Key × Value)} (rl : RvK X.K B ls dls) (kb : KV ls vb) (ol : okVs dls) :
    ∀ {ks : List (Key × V)} {dks : List (Key × D)} {va : List (Key × Value)}, RvK X.K B ks dks → KV ks va → okVs dks → PySem.W.KeqHits X.A.in1 s vb va (eqHits dls dks)
  | _, _, va, .nil, ka, _ => by
    cases ka
    exact .nil
  | _, _, va, .cons (k := k) (v := v) (vs := vs) (d := d) (ds := ds) ko r t, ka, ok => by
    cases ka with
    | @cons p q ps qs h tk =>
      obtain ⟨h1, h2⟩ := h
      obtain ⟨k', u⟩ := q
      have h1 : k = k' := h1
      subst h1
      have rr : RelO (valV ls k) (valueAt vb k) := kb.val k
      have ih := dic_hits I le hu rl kb ol t tk fun p hp => ok p (List.mem_cons_of_mem _ hp)
      rcases rl.val k with ⟨z1, z2⟩ | ⟨v2, d2, z1, z2, rv2⟩
      · rw [z1] at rr
        have e : eqHits dls ((k, d) :: ds) = false := by
          show (match valD dls k with | some e => deq d e && eqHits dls ds | none => false) = false
          rw [z2]
        rw [e]
        refine .miss ?_
        cases y : valueAt vb k with
        | none => rfl
        | some w => rw [y] at rr; exact rr.elim
      · rw [z1] at rr
        obtain ⟨y, hy, ry⟩ := rr.some_of
        have e : eqHits dls ((k, d) :: ds) = (deq d d2 && eqHits dls ds) := by
          show (match valD dls k with | some e => deq d e && eqHits dls ds | none => false) = _
          rw [z2]
        rw [e]
        obtain ⟨o1, o2⟩ := ok (k, d) (List.mem_cons_self ..)
        obtain ⟨p2, hp2, e2⟩ := valD_mem z2
        obtain ⟨o3, o4⟩ := ol p2 hp2
        rw [e2] at o3 o4
        obtain ⟨a1, a2, a3, a4⟩ := eqD_ok le (r.top le) (rv2.top le) o1 o3 o2 o4
        obtain ⟨as, r1⟩ := Dp.reads I _ _ u a1 h2
        obtain ⟨bs, r2⟩ := Dp.reads I _ _ y a2 ry
        have z := PySem.W.keq_at (A := X.A) r1 r2 a3 a4 (by show X.A.units + 1 + 64 < cLine; omega)
        rw [deq_py o1 o3] at z
        exact .hit hy z ih
def rEqK (K : Frag) : R2 := fun x y H Q => ∃ (a b : Addr) (ks ls : List (Key × V)) (dks dls : List (Key × D)) (B : Hp), x = .ref a ∧ y = .ref b ∧ Rd H a (.dK ks) ∧ Rd H b (.dK ls) ∧ Le B H ∧ RvK K B ks dks ∧ RvK K B ls dls ∧ okVs dks ∧ okVs dls ∧ Q (.bl (dks.length == dls.length && eqHits dls dks)) H
theorem op_eqK (hu : X.A.units + 65 < cLine) : OpR X (compareOp .Eq) (rEqK X.K) := by
  intro pins s σ H x y v u Q I rx ry ⟨a, b, ks, ls, dks, dls, B, e1, e2, ha, hb, le, rk, rl, ok, ol, q⟩
  subst e1 e2
  cases (show v = Value.ref a from rx)
  cases (show u = Value.ref b from ry)
  obtain ⟨_, ya, va, ra, da⟩ := dk_rd I.hok ha
  obtain ⟨_, yb, vb, rb, db⟩ := dk_rd I.hok hb
  refine PySem.W.keq_eq (knd := mixKind X.prog X.w) ya yb da db (by omega) (fun _ => dic_hits I le hu rl rb ol rk ra ok) ?_
  have l1 : va.length = dks.length := by rw [← ra.length, rk.len]
  have l2 : vb.length = dls.length := by rw [← rb.length, rl.len]
  rw [l1, l2]
  exact ⟨.bl _, H, I, rfl, q⟩
def eqKD : F2 := fun x y Q => dicD x fun a => dicD y fun b => okVs a ∧ okVs b ∧ Q (.bl (a.length == b.length && eqHits b a))
theorem o_eqK (hu : X.A.units + 65 < cLine) : OpD X (compareOp .Eq) (oL eqKD) := ⟨_, op_eqK hu, SO.of fun B μ m H v u dx dy Q QV M tx ty q k => by
  obtain ⟨a, ks, dks, rfl, ha, rk, q⟩ := dicD_ok tx q
  obtain ⟨b, ls, dls, rfl, hb, rl, ok, ol, q⟩ := dicD_ok ty q
  exact ⟨a, b, ks, ls, dks, dls, B, rfl, rfl, ha, hb, M.le, rk, rl, ok, ol, SO.pure M k (.bl _) q⟩⟩
/-! ### [*d, ..] -/
theorem star_dic {pins : List (Addr × Obj)} {σ : L2.St} {H : Hp} {s : Shared} {a : Addr} {kvs : List (Key × V)} {E : Value → Shared → Prop} {Q : List Value → Shared → Prop} (hc : X.calm = true) (I : Inv X pins σ H s) (h : Rd H a (.dK kvs)) (hQ : ∀ us s', Inv X pins σ H s' → Vals (kvs.map fun kv => kV kv.1) us → Q us s') : PySem.W.StarOf (model X.prog X.w) X.A E (.ref a) Q s := by
  obtain ⟨z, lo, vs, rel, dd⟩ := dk_rd I.hok h
  obtain ⟨ep, hat⟩ := dd.dictAt
  have ek : (kvs.map fun kv => kV kv.1) = vs.map fun p => kV p.1 := by
    have e := congrArg (List.map kV) rel.keys
    rw [List.map_map, List.map_map] at e
    exact e
  unfold PySem.W.StarOf notIterableAtAll
  refine wpAny_bind (wpAny_specialOf dd.typeIs PySem.F.slot_dict_iter.lookup (wpAny_pure ⟨rfl, ?_⟩))
  refine PySem.W.kdu_collect (A := X.A) (PySem.W.kdl_dict (knd := mixKind X.prog X.w) (kvs := vs) (ep := ep) lo) (I.ok.hd hc) hat (by rw [← rel.length]; exact z) fun h' tk acc hk hacc => ?_
  have hv : Vals (vs.map fun p => kV p.1) acc.toList := keys_at (by rw [Array.length_toList]; exact hacc.1) fun j v e => hacc.2 j v (by rw [← Array.getElem?_toList]; exact e)
  exact hQ _ _ (I.kept (t' := tk) hk) (by rw [ek]; exact hv)
theorem pa_starD {e : Expr} {es : List Expr} {te : TE} {t : TA} {p : Pos} (hc : X.calm = true) (he : PE X e te) (hr : PA X es t) (hs : starEach (.Starred e p :: es) X.env = (true, eval e X.env) :: starEach es X.env := by rfl) :
    PA X (.Starred e p :: es) (fun σ H Q => te σ H fun x H1 => ∃ (a : Addr) (kvs : List (Key × V)), x = .ref a ∧ Rd H1 a (.dK kvs) ∧ t σ H1 fun ys H2 => Q ((kvs.map fun kv => kV kv.1) ++ ys) H2) := by
  constructor
  intro pos pins s σ H Q I h
  refine PySem.W.items_star (thn (he.run pins s σ H _ I h) ?_) hs
  rintro v s1 ⟨y, H1, I1, ry, a, kvs, rfl, hx, q⟩
  cases (show v = Value.ref a from ry)
  refine star_dic hc I1 hx fun us s2 I2 rv => ?_
  refine thn (hr.run pos pins s2 σ H1 _ I2 q) ?_
  rintro ws s3 ⟨vs, H3, I3, r3, q3⟩
  exact ⟨_, H3, I3, rv.append r3, q3⟩
def tStD (te : DTE) (ta : DTA) : DTA := fun en m Q Qx => te en m (fun x m1 => look x m1 fun d => dicD d fun kvs => ta en m1 (fun xs m2 => Q ((kvs.map fun kv => kD kv.1).map .v ++ xs) m2) Qx) Qx
theorem da_starD {e : Expr} {p : Pos} {es : List Expr} {te : DTE} {ta : DTA} (hc : X.calm = true) (he : DE X E e te) (ha : DA X E es ta) (hs : starEach (.Starred e p :: es) X.env = (true, eval e X.env) :: starEach es X.env := by rfl) : DA X E (.Starred e p :: es) (tStD te ta) := by
  obtain ⟨t1, p1, k1⟩ := he.ex
  obtain ⟨t2, p2, k2⟩ := ha.ex
  refine ⟨_, pa_starD hc p1 p2 hs, fun B μ en m σ H Q Qx QV R hx T k => ?_⟩
  refine k1 B μ en m σ H _ Qx _ R hx T fun B1 μ1 m1 H1 x v s1 R1 r1 T1 => ?_
  obtain ⟨d, td, q2⟩ := look_ok R1.mem r1 T1
  obtain ⟨a, vs, kvs, rfl, hd, rk, q⟩ := dicD_ok td q2
  refine ⟨a, vs, rfl, hd, ?_⟩
  refine k2 B1 μ1 en m1 σ H1 _ Qx _ R1 (hx.step s1 R1.mem R.mem.le) q fun B2 μ2 m2 H2 xs us s2 R2 r2 T2 => ?_
  exact k B2 μ2 m2 H2 _ _ (s1.trans R1.mem s2 R.mem.le) R2 (((rvl_keys rk).to s2.same).ws' r2) T2
/-! ### C(k = v), cls(..) -/
structure GmK (P : Program) (w : World) (K : Frag) (mg : Str → Option Value) (base : Heap) (k : Nat) (x : Str) (C : Addr) (ks : List Str) (sp : SpD) : Prop where
  ex : ∃ f fd ps g, mg x = some (.ref C) ∧ Mk K C f ∧ KBn K fd ps 1 ks g (fun vs zs => vs ++ zs) ∧ FnOk P w K mg base (L2.CX P w) k f fd ps (lift K sp)
def tMkK (C : Addr) (n : Nat) (sp : SpD) (tk : DTA) : DTE := fun en m Q Qx => tk en m (fun zs m1 => zs.length = n ∧ mkD C sp zs m1 Q Qx) Qx
theorem d_mkK {x : Str} {C : Addr} {k : Nat} {sp : SpD} {ks : List Str} {kws : List Keyword} {Tk : DTA} {p pos : Pos} (G : GmK X.prog X.w X.K X.mg X.base k x C ks sp) (hr : Room (k + 1) X.A) (hx : Passes (L2.CX X.prog X.w) X E) (hkw : DK X E kws Tk) (hg : Gl X x := by rfl)
    (hall : (backToKw pos (keywordEach kws X.env)).all (·.1.isSome) = true := by rfl) (hks : (backToKw pos (keywordEach kws X.env)).filterMap (·.1) = ks := by rfl) (hdb : (x == ("__debug__" : Str)) = false := by decide)
    (hpl : ((backTo pos (starEach [] X.env)).any (·.1) || (backToKw pos (keywordEach kws X.env)).any (·.1.isNone)) = false := by rfl) : DE X E (.Call (.Name x p) [] kws pos) (tMkK C ks.length sp Tk) := by
  obtain ⟨t2, p2, k2⟩ := hkw.ex
  obtain ⟨f, fd, ps, g, hm, M, hb, F⟩ := G.ex
  have pe : PE X (.Call (.Name x p) [] kws pos) (fun σ H Q => t2 σ H fun zs H2 => zs.length = ks.length ∧ ∀ a dx, H2 a = none → H2 dx = none → dx ≠ a → lift X.K sp (.ref a :: zs) (upd (upd H2 dx (.own a)) a (.ins C dx [])) (fun v H3 => v = .non ∧ Q (.ref a) H3) E) := by
    constructor
    intro pins s σ H Q I h
    refine wpAny_Call_Name_kw (ld_glob I hg hm ?_ hdb)
    refine PySem.W.callWith_KW0 (h₀ := X.base) I.ok.mod.kin M.kp hall ?_ hpl
    refine thn (p2.run pos pins s σ H _ I h) ?_
    rintro ws s2 ⟨zs, H2, I2, rz, l2, q2⟩
    refine ⟨I2.kIn, ?_⟩
    rw [hks]
    exact run_makeN (n := 0) (us := []) (vs := []) M F hr hb hx I2 .nil rz rfl l2 q2
  refine ⟨_, pe, fun B μ en m σ H Q Qx QV R hx' T kk => ?_⟩
  refine k2 B μ en m σ H _ Qx _ R hx' T fun B1 μ1 m1 H1 xs vs s1 R1 r q => ?_
  refine ⟨by rw [r.len]; exact q.1, ?_⟩
  exact mkD_ok (QV := QV) R1.mem r q.2 (hx'.step s1 R1.mem R.mem.le) fun B' H' v d st M' rv qd => kk B' μ1 m1 H' (.v d) v (s1.trans R1.mem st R.mem.le) (R1.stp st M') (RW.d rv) qd
/-- cls(e, ..), the i-th slot holds the class at C -/
def tMkL (i : Nat) (C : Addr) (sp : SpD) (ta : DTA) : DTE := fun en m Q Qx => en[i]? = some (some (.v (.fn C))) ∧ tMk C sp ta en m Q Qx
theorem d_mkL {i : Nat} {x gx : Str} {C : Addr} {k : Nat} {sp : SpD} {e : Expr} {es : List Expr} {ta : DTA} {p pos : Pos} (G : GmC X.prog X.w X.K X.mg X.base k gx C sp) (hr : Room (k + 1) X.A) (hx : Passes (L2.CX X.prog X.w) X E) (ha : DA X E (e :: es) ta) (hN : X.N[i]? = some x := by rfl) (hv : Vis X.env.scope x := by rfl)
    (hdb : (x == ("__debug__" : Str)) = false := by decide) (hcd : (x == ("__classdict__" : Str)) = false := by decide)
    (he : starEach (e :: es) X.env = (false, eval e X.env) :: starEach es X.env := by rfl) (hpl : (backTo pos (starEach es X.env)).any (·.1) = false := by rfl) : DE X E (.Call (.Name x p) (e :: es) [] pos) (tMkL i C sp ta) := by
  obtain ⟨t1, p1, k1⟩ := ha.ex
  obtain ⟨f, fd, ps, hm, M, hb, F⟩ := G.ex
  have pe : PE X (.Call (.Name x p) (e :: es) [] pos) (fun σ H Q => σ[i]? = some (some (.ref C)) ∧ tMake C (lift X.K sp) [] E t1 σ H Q) := by
    constructor
    intro pins s σ H Q I h
    obtain ⟨hs, ht⟩ := h
    refine wpAny_Call_Name_kw (thn ((pe_var (pos := p) hN hv hdb hcd).run pins s σ H (fun v H1 => v = .ref C ∧ H1 = H) I ⟨.ref C, hs, rfl, rfl⟩) ?_)
    rintro u s1 ⟨v, H1, I1, r1, rfl, rfl⟩
    cases r1
    refine PySem.W.callWith_K (h₀ := X.base) I.ok.mod.kin M.kp (thn (p1.run pos pins s1 σ _ _ I1 ht) ?_) he hpl
    rintro us s2 ⟨vs, H2, I2, r, q⟩
    exact ⟨I2.kIn, run_make M F hr hb .nil hx I2 r q⟩
  refine ⟨_, pe, fun B μ en m σ H Q Qx QV R hx' T kk => ?_⟩
  obtain ⟨hi, T⟩ := T
  obtain ⟨v, hv1, hv2⟩ := R.env i _ hi
  cases (show Rv X.K B v (.fn C) from hv2)
  refine ⟨hv1, ?_⟩
  refine k1 B μ en m σ H _ Qx _ R hx' T fun B1 μ1 m1 H1 xs vs s1 R1 r q => ?_
  have z := mkD_ok (QV := QV) R1.mem r q (hx'.step s1 R1.mem R.mem.le) fun B' H' v d st M' rv qd => kk B' μ1 m1 H' (.v d) v (s1.trans R1.mem st R.mem.le) (R1.stp st M') (RW.d rv) qd
  intro a dx na nd da
  rw [List.append_nil]
  exact z a dx na nd da
/-! ### C.m(e, ..), m a classmethod -/
structure GmF (P : Program) (w : World) (K : Frag) (mg : Str → Option Value) (base : Heap) (k : Nat) (C : Addr) (mn : Str) (sp : SpD) : Prop where
  ex : ∃ p g fd ps mc, ClX.CRead K C mc ∧ ClX.CMet K C mc mn p g ∧ Binds K fd ps [] ∧ FnOk P w K mg base (L2.CX P w) k g fd ps (lift K sp)
def tCm (C : Addr) (sp : SpD) (to : DTE) (ta : DTA) : DTE := fun en m Q Qx => to en m (fun x m1 => x = .v (.fn C) ∧ ta en m1 (fun xs m2 => sp (.v (.fn C) :: xs) m2 Q Qx) Qx) Qx
theorem d_cm {mn : Str} {C : Addr} {k : Nat} {sp : SpD} {o e : Expr} {es : List Expr} {to : DTE} {ta : DTA} {pos apos : Pos} {pl : Sem Bool} (G : GmF X.prog X.w X.K X.mg X.base k C mn sp) (hr : Room k X.A) (hx : Passes (L2.CX X.prog X.w) X E) (ho : DE X E o to) (ha : DA X E (e :: es) ta)
    (hst : starEach (e :: es) X.env = (false, eval e X.env) :: starEach es X.env := by rfl) (hpl : (backTo pos (starEach es X.env)).any (·.1) = false := by rfl)
    (ht : eval (.Call (.Attribute o mn apos) (e :: es) [] pos) X.env = (do
      let ov ← eval o X.env
      standAt apos.atName
      let (f, first) ← holding [ov] (getMethod ov mn pl)
      callWith pos f first (backTo pos (starEach (e :: es) X.env)) (backToKw pos (keywordEach [] X.env))) := by rfl) : DE X E (.Call (.Attribute o mn apos) (e :: es) [] pos) (tCm C sp to ta) := by
  obtain ⟨t1, p1, k1⟩ := ho.ex
  obtain ⟨t2, p2, k2⟩ := ha.ex
  obtain ⟨p, g, fd, ps, mc, rd, cm, hb, F⟩ := G.ex
  have FR : FnR X.prog X.w X.K X.mg X.base (L2.CX X.prog X.w) k g (lift X.K sp) := fun A outer s H us vs Q E hr e0 r h => by
    have kin : X.K.In s.heap := e0.mod.kin.keeps fun b o e => (e0.bs b o e).1
    have bt := hb s us kin (by rw [List.append_nil, ← r.length]; exact F.len _ _ _ _ h)
    rw [List.append_nil] at bt
    exact F.run A outer s H ⟨us, []⟩ us vs Q E hr e0 bt r h
  refine ⟨_, ClX.pe_cmeth p1 rd cm FR hr hx p2 hst hpl ht, fun B μ en m σ H Q Qx QV R hx' T kk => ?_⟩
  refine k1 B μ en m σ H _ Qx _ R hx' T fun B1 μ1 m1 H1 y v s1 R1 r q => ?_
  obtain ⟨rfl, q⟩ := q
  cases (show Rv X.K B1 v (.fn C) from r)
  refine ⟨rfl, ?_⟩
  refine k2 B1 μ1 en m1 σ H1 _ Qx _ R1 (hx'.step s1 R1.mem R.mem.le) q fun B2 μ2 m2 H2 xs us s2 R2 r2 q2 => ?_
  have s12 := s1.trans R1.mem s2 R.mem.le
  refine ⟨B2, μ2, m2, _, _, Qx, R2.mem, .cons (RW.d (.fn C)) r2, q2, hx'.step s12 R2.mem R.mem.le, fun B3 μ3 m3 H3 z u s3 M3 rz qz => ?_⟩
  have st := s12.trans R2.mem s3 R.mem.le
  exact kk B3 μ3 m3 H3 z u st (R.stp st M3) rz qz
/-! ### e.clear(), e gives an own dict -/
def tClr (te : DTE) : DTE := fun en m Q Qx => te en m (fun x m1 => match x with
  | .loc n => dicAt m1 n fun _ => Q (.v .non) (m1.set n (.dic []))
  | _ => False) Qx
theorem d_clr {o : Expr} {te : DTE} {apos cpos : Pos} (ho : DE X E o te) (hbase : attributeBase o "clear" X.env (eval o X.env) = eval o X.env := by rfl) (hline : (apos.endLine == cpos.line) = true := by rfl) : DE X E (.Call (.Attribute o "clear" apos) [] [] cpos) (tClr te) := by
  obtain ⟨t1, p1, k1⟩ := ho.ex
  refine ⟨_, pe_dclear p1 hbase hline, fun B μ en m σ H Q Qx QV R hx T kk => ?_⟩
  refine k1 B μ en m σ H _ Qx _ R hx T fun B1 μ1 m1 H1 x v s1 R1 r q => ?_
  cases x with
  | v d => exact q.elim
  | loc n =>
    obtain ⟨kvs, hm, q⟩ := dicAt_ok q
    obtain ⟨a, rfl, ha⟩ := r
    obtain ⟨vs, hv, rk⟩ := R1.mem.at_ n a _ ha hm rfl
    have kp : ∀ b o, b ≠ a → H1 b = some o → upd H1 a (.dK []) b = some o := fun b o c e => by rw [upd_ne c]; exact e
    have sS := Stp.store (H' := upd H1 a (.dK [])) (m' := .dic []) (B := B1) ha hm rfl kp
    have mS := R1.mem.store (m' := .dic []) ha hm rfl rfl kp ⟨_, upd_same, .nil⟩
    have st := s1.trans R1.mem sS R.mem.le
    exact ⟨.inr (.inr (.inl ⟨rfl, .inl ⟨vs, hv⟩⟩)), a, vs, rfl, rfl, hv, kk B1 μ1 _ _ (.v .non) .non st (R.stp st mS) (RW.d .non) q⟩
end
end Fs
set_option Elab.async false
set_option linter.all false
set_option maxRecDepth 100000
set_option maxHeartbeats 8000000
namespace Fs
open PySem PySem.Spec PyProof.Rows L2
def leS (a b : Str) : Prop := a.cps.toList ≤ b.cps.toList
theorem leS_of {a b : Str} (h : ltCps b.cps.toList a.cps.toList = false) : leS a b := by
  rw [PyProof.Rows.ltCps_eq] at h
  exact List.not_lt.mp (of_decide_eq_false h)
theorem leS_trans {a b c : Str} (h : leS a b) (k : leS b c) : leS a c := List.le_trans h k
theorem leS_anti {a b : Str} (h : leS a b) (k : leS b a) : a = b := by
  have z : a.cps.toList = b.cps.toList := List.le_antisymm h k
  cases a with | mk x => cases b with | mk y => exact congrArg Str.mk (Array.toList_inj.mp z)
theorem rising_pw : ∀ (l : List Str) (p : Str), risingS p l = true → (∀ x ∈ l, leS p x) ∧ l.Pairwise leS
  | [], p, _ => ⟨(fun _ h => nomatch h), List.Pairwise.nil⟩
  | x :: r, p, h => by
    have h : (!ltCps x.cps.toList p.cps.toList && risingS x r) = true := h
    simp only [Bool.and_eq_true, Bool.not_eq_true'] at h
    have px : leS p x := leS_of h.1
    obtain ⟨h1, h2⟩ := rising_pw r x h.2
    refine ⟨fun y hy => ?_, List.pairwise_cons.mpr ⟨h1, h2⟩⟩
    rcases List.mem_cons.mp hy with rfl | hy
    · exact px
    · exact leS_trans px (h1 y hy)
theorem sorted_pw : ∀ {l : List Str}, sortedS l = true → l.Pairwise leS
  | [], _ => List.Pairwise.nil
  | x :: r, h => List.pairwise_cons.mpr (rising_pw r x h)
theorem pw_unique : ∀ {xs ys : List Str}, xs.Pairwise leS → ys.Pairwise leS → xs.Nodup → ys.Nodup → (∀ x, x ∈ xs ↔ x ∈ ys) → xs = ys
  | [], [], _, _, _, _, _ => rfl
  | [], y :: ys, _, _, _, _, h => nomatch (h y).mpr (List.mem_cons_self ..)
  | x :: xs, [], _, _, _, _, h => nomatch (h x).mp (List.mem_cons_self ..)
  | x :: xs, y :: ys, px, py, nx, ny, h => by
    obtain ⟨p1, p2⟩ := List.pairwise_cons.mp px
    obtain ⟨q1, q2⟩ := List.pairwise_cons.mp py
    obtain ⟨n1, n2⟩ := List.nodup_cons.mp nx
    obtain ⟨m1, m2⟩ := List.nodup_cons.mp ny
    have e : x = y := by
      rcases List.mem_cons.mp ((h x).mp (List.mem_cons_self ..)) with z | z
      · exact z
      · rcases List.mem_cons.mp ((h y).mpr (List.mem_cons_self ..)) with w | w
        · exact w.symm
        · exact leS_anti (p1 y w) (q1 x z)
    subst e
    congr 1
    refine pw_unique p2 q2 n2 m2 fun z => ⟨fun hz => ?_, fun hz => ?_⟩
    · rcases List.mem_cons.mp ((h z).mp (List.mem_cons_of_mem _ hz)) with e | e
      · subst e
        exact absurd hz n1
      · exact e
    · rcases List.mem_cons.mp ((h z).mpr (List.mem_cons_of_mem _ hz)) with e | e
      · subst e
        exact absurd hz m1
      · exact e
theorem sorted_unique {xs ys : List Str} (h1 : sortedS xs = true) (h2 : sortedS ys = true) (n1 : xs.Nodup) (n2 : ys.Nodup) (h : ∀ x, x ∈ xs ↔ x ∈ ys) : xs = ys := pw_unique (sorted_pw h1) (sorted_pw h2) n1 n2 h
/-! ### tables -/
abbrev FT := List (Str × (Int × Int))
abbrev kvF (l : FT) : List (Key × D) := l.map fun p => (.inr p.1, frD p.2)
def keyF (l : FT) : List Str := l.map (·.1)
def nzF (p : Int × Int) : Option (Int × Int) := if p = (0, 1) then none else some p
/-- the table of f, its names in order -/
structure Tab (l : FT) (f : Str → Option (Int × Int)) : Prop where
  pw : (keyF l).Pairwise leS
  nd : (keyF l).Nodup
  eq : ∀ k, l.lookup k = f k
theorem look_mem {l : FT} {k : Str} : (l.lookup k).isSome = true ↔ k ∈ keyF l := by
  induction l with
  | nil => simp [keyF]
  | cons p l ih =>
    obtain ⟨g, v⟩ := p
    rw [List.lookup_cons]
    by_cases c : k = g
    · subst c
      simp [keyF]
    · have e : (k == g) = false := by simpa using c
      rw [e]
      show (l.lookup k).isSome = true ↔ k ∈ g :: keyF l
      rw [ih, List.mem_cons]
      exact ⟨.inr, fun z => z.elim (fun y => absurd y c) id⟩
theorem look_ext : ∀ {l l' : FT}, keyF l = keyF l' → (keyF l).Nodup → (∀ k, l.lookup k = l'.lookup k) → l = l'
  | [], [], _, _, _ => rfl
  | [], _ :: _, h, _, _ => by cases h
  | _ :: _, [], h, _, _ => by cases h
  | (k, v) :: l, (k', v') :: l', h, nd, e => by
    have h1 := List.cons.inj (show k :: keyF l = k' :: keyF l' from h)
    obtain ⟨rfl, h2⟩ := h1
    have n := List.nodup_cons.mp (show (k :: keyF l).Nodup from nd)
    have ev := e k
    rw [List.lookup_cons, List.lookup_cons, beq_self_eq_true] at ev
    have ev : v = v' := Option.some.inj ev
    subst ev
    congr 1
    refine look_ext h2 n.2 fun z => ?_
    by_cases c : z = k
    · subst c
      have a1 : l.lookup z = none := by
        cases y : l.lookup z with
        | none => rfl
        | some w => exact absurd (look_mem.mp (by rw [y]; rfl)) n.1
      have a2 : l'.lookup z = none := by
        cases y : l'.lookup z with
        | none => rfl
        | some w => exact absurd (look_mem.mp (by rw [y]; rfl)) (by rw [← h2]; exact n.1)
      rw [a1, a2]
    · have ez := e z
      have eb : (z == k) = false := by simpa using c
      rw [List.lookup_cons, List.lookup_cons, eb] at ez
      exact ez
theorem Tab.uniq {l l' : FT} {f : Str → Option (Int × Int)} (a : Tab l f) (b : Tab l' f) : l = l' := by
  refine look_ext (pw_unique a.pw b.pw a.nd b.nd fun k => ?_) a.nd fun k => (a.eq k).trans (b.eq k).symm
  rw [← look_mem, ← look_mem, a.eq, b.eq]
/-! ### the sums -/
def getF (f : Str → Option (Int × Int)) (k : Str) : Int × Int := (f k).getD (0, 1)
/-- a fraction in lowest terms -/
def LowF (p : Int × Int) : Prop := 0 < p.2 ∧ Int.gcd p.1 p.2 = 1
theorem low_id {p : Int × Int} (h : LowF p) : lowI p.1 p.2 = p := by
  obtain ⟨h1, h2⟩ := h
  unfold lowI
  rw [if_neg (by omega), h2]
  simp
theorem times_one {p : Int × Int} (h : LowF p) : timesI p (1, 1) = p := by
  unfold timesI
  simp only [Int.mul_one]
  exact low_id h
theorem plus_zero {p : Int × Int} (h : LowF p) : plusI (0, 1) p = p := by
  unfold plusI
  simp only [Int.zero_mul, Int.mul_one, Int.zero_add, Int.one_mul]
  exact low_id h
theorem low_neg {p : Int × Int} (h : LowF p) : LowF (-p.1, p.2) := ⟨h.1, by show Nat.gcd (-p.1).natAbs p.2.natAbs = 1; rw [Int.natAbs_neg]; exact h.2⟩
theorem times_neg {p : Int × Int} (h : LowF p) : timesI p (-1, 1) = (-p.1, p.2) := by
  have e : timesI p (-1, 1) = lowI (-p.1) p.2 := by
    unfold timesI
    simp only [Int.mul_one]
    congr 1
    omega
  rw [e]
  exact low_id (low_neg h)
theorem plus_neg {p s : Int × Int} (h : LowF s) : plusI p (timesI s (-1, 1)) = minusI p s := by
  rw [times_neg h]
  unfold plusI minusI
  congr 1
  show p.1 * s.2 + -s.1 * p.2 = _
  rw [Int.neg_mul]
  omega
theorem plus_self {p : Int × Int} (h : LowF p) : plusI p (timesI p (-1, 1)) = (0, 1) := by
  rw [plus_neg h]
  unfold minusI lowI
  have pos : 0 < p.2 * p.2 := Int.mul_pos h.1 h.1
  rw [if_neg (by omega), Int.sub_self, Int.gcd_zero_left]
  have e : ((p.2 * p.2).natAbs : Int) = p.2 * p.2 := Int.natAbs_of_nonneg (by omega)
  rw [e]
  show ((0 : Int) / (p.2 * p.2), p.2 * p.2 / (p.2 * p.2)) = (0, 1)
  rw [Int.zero_ediv, Int.ediv_self (by omega)]
theorem lowI_LowF {t b : Int} (h : 0 < b) : LowF (lowI t b) := by
  obtain ⟨k, e, hk, g, _⟩ := lowI_low (t := t) h
  exact ⟨by rw [e]; omega, by rw [e]; exact g⟩
theorem low_01 : LowF (0, 1) := ⟨by decide, by decide⟩
end Fs
set_option Elab.async false
set_option linter.all false
set_option maxRecDepth 100000
set_option maxHeartbeats 8000000
namespace Fs
open PySem PySem.Spec PyProof.Rows L2
section
theorem look_imp {x : W} {m : Me} {P Q : D → Prop} (h : look x m P) (k : ∀ d, P d → Q d) : look x m Q := by
  cases x with
  | v d => exact k d h
  | loc n =>
    have h : lookO m[n]? P := h
    show lookO m[n]? Q
    generalize m[n]? = o at h ⊢
    cases o with
    | none => exact h.elim
    | some mo => cases mo <;> first | exact k _ h | exact h.elim
theorem keysL_kvF : ∀ {l : FT} {Q : List Str → Prop}, Q (keyF l) → keysL (kvF l) Q
  | [], _, h => h
  | p :: l, Q, h => keysL_kvF (l := l) (Q := fun xs => Q (p.1 :: xs)) h
theorem txtL_strs : ∀ {xs : List Str} {Q : List Str → Prop}, Q xs → txtL (xs.map D.str) Q
  | [], _, h => h
  | x :: xs, Q, h => txtL_strs (xs := xs) (Q := fun ys => Q (x :: ys)) h
theorem valD_kvF {k : Str} : ∀ {l : FT}, valD (kvF l) (.inr k) = (l.lookup k).map frD
  | [] => rfl
  | (g, v) :: l => by
    rw [List.lookup_cons]
    by_cases c : k = g
    · subst c
      simp [valD, kvF, List.find?_cons]
    · have e : (k == g) = false := by simpa using c
      rw [e]
      have z : valD (kvF ((g, v) :: l)) (.inr k) = valD (kvF l) (.inr k) := by
        have ne : ¬ (Sum.inr g : Key) = .inr k := fun z => c (Sum.inr.inj z).symm
        simp [valD, kvF, List.find?_cons, ne]
      rw [z, valD_kvF]
theorem deq_fr {p q : Int × Int} : deq (frD p) (frD q) = decide (p = q) := by
  obtain ⟨a, b⟩ := p
  obtain ⟨c, d⟩ := q
  show ((a == c) && ((b == d) && true)) = decide ((a, b) = (c, d))
  rw [Bool.and_true]
  by_cases h1 : a = c
  · by_cases h2 : b = d
    · simp [h1, h2]
    · simp [h1, h2]
  · simp [h1]
theorem put_new {acc : List (Key × D)} {k : Key} {d : D} (h : ∀ p ∈ acc, p.1 ≠ k) : putD' acc k d = acc ++ [(k, d)] := by
  unfold putD'
  rw [if_neg]
  simp only [List.any_eq_true, decide_eq_true_eq, not_exists, not_and]
  exact fun p hp => h p hp
/-- a dict comprehension over names, with a test -/
theorem dcL_names {g : DTG} {tt : DTT} {tk tv : DTE} {en : En} {m : Me} (c : Str → Bool) (v : Str → D) : ∀ {ys : List Str} {acc : List (Key × D)} {Q : W → Me → Prop}, acc.length + ys.length ≤ 1000 → ys.Nodup → (∀ p ∈ acc, ∀ y ∈ ys, p.1 ≠ .inr y) →
    (∀ x ∈ ys, ∀ (Kc : W → W → Me → Prop) (K0 : Me → Prop), (c x = true → Kc (.v (.str x)) (.v (v x)) m) → (c x = false → K0 m) → g (.v (.str x)) en m fun en1 m1 => tt en1 m1 (fun b m2 => if b = true then tk en1 m2 (fun y m3 => tv en1 m3 (fun z m4 => Kc y z m4) noX) noX else K0 m2) noX) →
    Q (.v (.dic (acc ++ (ys.filter c).map fun x => (.inr x, v x)))) m → dcL g tt tk tv en (ys.map D.str) acc m Q
  | [], acc, Q, _, _, _, _, q => by
    rw [List.filter_nil, List.map_nil, List.append_nil] at q
    exact q
  | x :: ys, acc, Q, hl, nd, ne, st, q => by
    obtain ⟨n1, n2⟩ := List.nodup_cons.mp nd
    rw [List.length_cons] at hl
    refine st x (List.mem_cons_self ..) (fun y z m4 => oD y fun dy => keyD dy fun k => oD z fun dz => acc.length < sizeLine ∧ dcL g tt tk tv en (ys.map D.str) (putD' acc k dz) m4 Q) (fun m2 => dcL g tt tk tv en (ys.map D.str) acc m2 Q) (fun hc => ?_) (fun hc => ?_)
    · refine ⟨by have := sizeLine_eq; omega, ?_⟩
      rw [put_new fun p hp => ne p hp x (List.mem_cons_self ..)]
      refine dcL_names c v (by rw [List.length_append]; simp; omega) n2 (fun p hp y hy => ?_) (fun y hy => st y (List.mem_cons_of_mem _ hy)) ?_
      · rcases List.mem_append.mp hp with hp | hp
        · exact ne p hp y (List.mem_cons_of_mem _ hy)
        · rw [List.mem_singleton.mp hp]
          intro z
          have z : x = y := Sum.inr.inj z
          exact n1 (z ▸ hy)
      · rw [List.filter_cons_of_pos hc] at q
        rw [List.append_assoc]
        exact q
    · refine dcL_names c v (by omega) n2 (fun p hp y hy => ne p hp y (List.mem_cons_of_mem _ hy)) (fun y hy => st y (List.mem_cons_of_mem _ hy)) ?_
      rw [List.filter_cons_of_neg (by rw [hc]; decide)] at q
      exact q
theorem look_map {h : Str → Int × Int} {k : Str} : ∀ {xs : List Str}, (xs.map fun x => (x, h x)).lookup k = if k ∈ xs then some (h k) else none
  | [] => rfl
  | x :: xs => by
    rw [List.map_cons, List.lookup_cons]
    by_cases c : k = x
    · subst c
      simp
    · have e : (k == x) = false := by simpa using c
      rw [e, look_map]
      simp [c]
theorem tab_of {ys : List Str} (c : Str → Bool) (h : Str → Int × Int) {f : Str → Option (Int × Int)} (sr : ys.Pairwise leS) (nd : ys.Nodup) (e : ∀ k, f k = if k ∈ ys ∧ c k = true then some (h k) else none) : Tab ((ys.filter c).map fun x => (x, h x)) f := by
  have kk : keyF ((ys.filter c).map fun x => (x, h x)) = ys.filter c := by
    unfold keyF
    rw [List.map_map]
    exact List.map_id' _
  refine ⟨by rw [kk]; exact sr.filter _, by rw [kk]; exact nd.filter _, fun k => ?_⟩
  rw [look_map, e k]
  simp only [List.mem_filter]
theorem kvF_map {ys : List Str} {h : Str → Int × Int} : kvF (ys.map fun x => (x, h x)) = ys.map fun x => (.inr x, frD (h x)) := by
  unfold kvF
  rw [List.map_map]
  rfl
end
abbrev partsS : Str := "parts"
/-- a line -/
abbrev lineD (C : Addr) (l : FT) : D := .obj C [(partsS, .dic (kvF l))]
section
variable {P : Program} {w : World} {K : Frag} {mg : Str → Option Value} {base : Heap}
abbrev s_Line___init__ : Stmt := inClass (top 14) 0
abbrev N_Line___init__ : List Str := ["self", "table", "name"]
abbrev P_Line___init__ : List Str := ["self", "table"]
abbrev O_Line___init___0 : List (Str × Nat) := [("name", 2)]
theorem sc_Line___init__ : FnScope N_Line___init__ P_Line___init__ (defScope s_Line___init__) := ⟨rfl, rfl, rfl, by decide +kernel, rfl, by decide +kernel, by decide +kernel⟩
/-- what Line's __init__ keeps of a table -/
def nzT (l : FT) : Str → Option (Int × Int) := fun k => (l.lookup k).bind nzF
def spInit (C : Addr) : SpD := fun ws m Q _ => ∃ (n : Nat) (y : W) (l : FT), ws = [.loc n, y] ∧ m[n]? = some (.ins C []) ∧ look y m (fun d => d = .dic (kvF l)) ∧ (keyF l).Nodup ∧ l.length < 64 ∧ ∀ l', Tab l' (nzT l) → Q (.v .non) (m.set n (.ins C [(partsS, .v (.dic (kvF l')))]))
theorem fm_init {C f : Addr} {fd : FuncData} {q : Str} (FD : FunD K "__init__" q (defArgs s_Line___init__) (defBody s_Line___init__) (defScope s_Line___init__) [] [] f fd) (cl : Cls K C) (na : NoAttr K C partsS) (m_sorted : mg "sorted" = none) {zv : Value} (c_ZERO : mg "ZERO" = some zv) (k_ZERO : conU K 3 zv (frD (0, 1)) = true) :
    FnOk P w K mg base (L2.CX P w) 3 f fd ["self", "table"] (lift K (spInit C)) := by
  obtain ⟨zz, rz, hz⟩ := conU_ok k_ZERO
  refine fm_o FD sc_Line___init__ (fun ws m Q Qx h => ?_) (fun cdv A outer s H E hr => ⟨_, (dss_one (ds_fst (dv 0) (d_dc (own := O_Line___init___0) rfl sc_Line___init__.nd (di_seq (d_srt rfl m_sorted (da_cons (dv 1) da_nil))) (blkOk_by (own := O_Line___init___0) (N := N_Line___init__) (sc := defScope s_Line___init__) (by decide +kernel)) (fun _ _ _ _ _ => (dg_name (i := 2) sc_Line___init__.nd rfl (.inl rfl))) (fun _ _ _ _ _ => (dts_one (dt_cmp (o_ne (u64 hr)) (d_dk (u65 hr) (dv 1) (dv 2)) (d_glob c_ZERO rz hz) (nomark _)))) (fun _ _ _ _ _ => (dv 2)) (fun _ _ _ _ _ => (d_dk (u65 hr) (dv 1) (dv 2)))))), fun ws m Qd Qx h => ?_⟩)
  · obtain ⟨_, _, _, rfl, _⟩ := h
    rfl
  obtain ⟨n, y, l, rfl, hm, hy, nd, hl, q⟩ := h
  have ln := sizeLine_eq
  refine look_imp hy ?_
  rintro d rfl
  refine keysL_kvF ?_
  refine ⟨by rw [keyF, List.length_map]; exact hl, fun ys pm sr => ?_⟩
  have ny : ys.Nodup := pm.nodup_iff.mpr nd
  have hv : ∀ x ∈ ys, valD (kvF l) (.inr x) = some (frD (getF (fun k => l.lookup k) x)) := fun x hx => by
    rw [valD_kvF]
    have z := look_mem.mpr (pm.mem_iff.mp hx)
    obtain ⟨p, hp⟩ := Option.isSome_iff_exists.mp z
    show (l.lookup x).map frD = some (frD ((l.lookup x).getD (0, 1)))
    rw [hp]
    rfl
  show dcL _ _ _ _ _ (ys.map D.str) [] _ _
  refine dcL_names (fun x => !decide (getF (fun k => l.lookup k) x = (0, 1))) (fun x => frD (getF (fun k => l.lookup k) x)) ?_ ny (fun _ h => nomatch h) (fun x hx Kc K0 h1 h0 => ?_) ?_
  · rw [List.length_nil, pm.length_eq, keyF, List.length_map]
    omega
  · refine look_imp hy ?_
    rintro d rfl
    refine ⟨_, hv x hx, rfl, rfl, (by show 1 ≤ 64; decide), (by show 1 ≤ 64; decide), ?_⟩
    rw [deq_fr]
    refine iteB (fun t => ?_) (fun t => ?_)
    · refine look_imp hy ?_
      rintro d rfl
      exact ⟨_, hv x hx, h1 t⟩
    · exact h0 t
  · rw [List.nil_append]
    have e : (ys.filter fun x => !decide (getF (fun k => l.lookup k) x = (0, 1))).map (fun x => ((.inr x : Key), frD (getF (fun k => l.lookup k) x))) = kvF ((ys.filter fun x => !decide (getF (fun k => l.lookup k) x = (0, 1))).map fun x => (x, getF (fun k => l.lookup k) x)) := kvF_map.symm
    rw [e]
    have T : Tab ((ys.filter fun x => !decide (getF (fun k => l.lookup k) x = (0, 1))).map fun x => (x, getF (fun k => l.lookup k) x)) (nzT l) := by
      refine tab_of _ _ (sorted_pw sr) ny fun k => ?_
      have hk : k ∈ ys ↔ (l.lookup k).isSome = true := by rw [pm.mem_iff, look_mem]
      unfold nzT getF nzF
      cases h : l.lookup k with
      | none =>
        have z : k ∉ ys := fun z => by
          have y := hk.mp z
          rw [h] at y
          cases y
        simp [z]
      | some p =>
        have z : k ∈ ys := hk.mpr (by rw [h]; rfl)
        by_cases c : p = (0, 1) <;> simp [z, c, h]
    show insAt m n _
    unfold insAt
    rw [hm]
    exact ⟨cl, na, by decide, q _ T⟩
end
end Fs
set_option Elab.async false
set_option linter.all false
set_option maxRecDepth 100000
set_option maxHeartbeats 8000000
namespace Fs
open PySem PySem.Spec PyProof.Rows L2
section
variable {X : Cx} {E : XK}
theorem d_ofv (K : Frag) (i : Nat) {x f : Str} {p pos : Pos} (hN : X.N[i]? = some x := by rfl) (hv : Vis X.env.scope x := by first | exact Or.inl rfl | exact Or.inr (Or.inl rfl) | exact Or.inr (Or.inr rfl)) (hd : (x == ("__debug__" : Str)) = false := by decide) (hcd : (x == ("__classdict__" : Str)) = false := by decide)
    (hb : attributeBase (.Name x p) f X.env (eval (.Name x p) X.env) = eval (.Name x p) X.env := by rfl) (hK : X.K = K := by rfl) : DE X E (.Attribute (.Name x p) f pos) (tOf K f (tV i)) := hK ▸ d_of (dv i hN hv hd hcd) hb
theorem d_dictO {e : Expr} {te : DTE} {p pos : Pos} (hm : X.mg "dict" = none) (he : DE X E e te) (hg : Gl X "dict" := by rfl) (hs : starEach [e] X.env = (false, eval e X.env) :: starEach [] X.env := by rfl) (hpl : (backTo pos (starEach [] X.env)).any (·.1) = false := by rfl) :
    DE X E (.Call (.Name "dict" p) [e] [] pos) (fun en m Q Qx => te en m (fun x m1 => look x m1 fun d => dicD d fun kvs => Q (.loc m1.length) (m1 ++ [.dic kvs])) Qx) := by
  obtain ⟨t1, p1, k1⟩ := he.ex
  refine ⟨_, pe_callTy call_dictD hg hm (by decide +kernel) (pa_cons p1 pa_nil hs) (by decide) (by decide) hs hpl, fun B μ en m σ H Q Qx QV R hx T k => ?_⟩
  refine k1 B μ en m σ H _ Qx _ R hx T fun B1 μ1 m1 H1 x v s1 R1 r q => ?_
  obtain ⟨d, td, q⟩ := look_ok R1.mem r q
  obtain ⟨a, vs, kvs, rfl, hd, rk, q⟩ := dicD_ok td q
  refine ⟨a, vs, rfl, hd, fun p np => ?_⟩
  have kp : ∀ b o, b ≠ p → H1 b = some o → upd H1 p (.dK vs) b = some o := fun b o c e => by rw [upd_ne c]; exact e
  have sl := Stp.push R1.mem np (m := .dic kvs) kp
  have st := s1.trans R1.mem sl R.mem.le
  have mo := R1.mem.push np (m := .dic kvs) (fun a o e => kp a o (ne_of_none (R1.mem.le a o e) np) (R1.mem.le a o e)) kp ⟨vs, upd_same, rk⟩
  refine k _ _ _ _ (.loc m1.length) _ st (R.stp st mo) ⟨p, rfl, ?_⟩ q
  rw [← R1.mem.len]
  simp
theorem look_app {x : W} {m more : Me} {P : D → Prop} (h : look x m P) : look x (m ++ more) P := by
  cases x with
  | v d => exact h
  | loc n =>
    have h : lookO m[n]? P := h
    show lookO (m ++ more)[n]? P
    by_cases c : n < m.length
    · rw [List.getElem?_append_left c]
      exact h
    · rw [List.getElem?_eq_none (by omega)] at h
      exact h.elim
/-- Line(table) -/
theorem mk_init {C : Addr} {y : W} {m : Me} {l : FT} {Q : W → Me → Prop} {Qx : QX} (hy : look y m (fun d => d = .dic (kvF l))) (nd : (keyF l).Nodup) (hl : l.length < 64) (q : ∀ l', Tab l' (nzT l) → Q (.v (lineD C l')) m) : mkD C (spInit C) [y] m Q Qx := by
  refine ⟨m.length, y, l, rfl, by simp, look_app hy, nd, hl, fun l' T => ⟨rfl, [(partsS, .dic (kvF l'))], by simp, q l' T⟩⟩
theorem val_get {l : FT} {k : Str} : (valD (kvF l) (.inr k)).getD (frD (0, 1)) = frD (getF (fun k => l.lookup k) k) := by
  rw [valD_kvF]
  show ((l.lookup k).map frD).getD _ = frD ((l.lookup k).getD (0, 1))
  cases l.lookup k <;> rfl
end
theorem keys_str (l : FT) : (kvF l).map (fun kv => kD kv.1) = (keyF l).map D.str := by
  unfold kvF keyF
  rw [List.map_map, List.map_map]
  rfl
theorem lst_names (l r : FT) : ([] : List D) ++ (((kvF r).map fun p => kD p.1).filter (fun d => match d with | .str x => !decide (x ∈ keyF l) | _ => false)).map id = ((keyF r).filter fun x => !decide (x ∈ keyF l)).map D.str := by
  rw [List.nil_append, List.map_id, keys_str, List.filter_map]
  rfl
theorem oDs_v {Q : List D → Prop} : ∀ {ds : List D}, Q ds → oDs (ds.map W.v) Q
  | [], h => h
  | d :: ds, h => oDs_v (Q := fun xs => Q (d :: xs)) (ds := ds) h
theorem Tab.congr {l : FT} {f g : Str → Option (Int × Int)} (h : Tab l f) (e : ∀ k, f k = g k) : Tab l g := ⟨h.pw, h.nd, fun k => (h.eq k).trans (e k)⟩
/-- a table whose fractions are low and small -/
structure OkT (l : FT) : Prop where
  nd : (keyF l).Nodup
  low : ∀ k p, l.lookup k = some p → LowF p
  sm : ∀ k p, l.lookup k = some p → smallF p
abbrev lk (l : FT) : Str → Option (Int × Int) := fun k => l.lookup k
theorem OkT.get {l : FT} (h : OkT l) (k : Str) : LowF (getF (lk l) k) ∧ smallF (getF (lk l) k) := by
  unfold getF
  cases e : lk l k with
  | none => exact ⟨low_01, by decide, by decide⟩
  | some p => exact ⟨h.low k p e, h.sm k p e⟩
/-- .. low and not too great -/
structure OkB (l : FT) : Prop where
  nd : (keyF l).Nodup
  low : ∀ k p, l.lookup k = some p → LowF p
  sz : ∀ k p, l.lookup k = some p → szF bigE p
theorem OkT.b {l : FT} (h : OkT l) : OkB l := ⟨h.nd, h.low, fun k p e => (small_sz (h.sm k p e)).mono (by decide)⟩
theorem OkB.get {l : FT} (h : OkB l) (k : Str) : LowF (getF (lk l) k) ∧ szF bigE (getF (lk l) k) := by
  unfold getF
  cases e : lk l k with
  | none => exact ⟨low_01, (small_sz (p := (0, 1)) ⟨by decide, by decide⟩).mono (by decide)⟩
  | some p => exact ⟨h.low k p e, h.sz k p e⟩
theorem getF_out {l : FT} {k : Str} (h : k ∉ keyF l) : getF (lk l) k = (0, 1) := by
  unfold getF
  cases e : lk l k with
  | none => rfl
  | some p => exact absurd (look_mem.mp (by show (lk l k).isSome = true; rw [e]; rfl)) h
section
variable {P : Program} {w : World} {K : Frag} {mg : Str → Option Value} {base : Heap} {C f : Addr} {fd : FuncData} {q : Str}
abbrev s_Line_part : Stmt := inClass (top 14) 3
abbrev N_Line_part : List Str := ["self", "name"]
abbrev P_Line_part : List Str := ["self", "name"]
theorem sc_Line_part : FnScope N_Line_part P_Line_part (defScope s_Line_part) := ⟨rfl, rfl, rfl, by decide +kernel, rfl, by decide +kernel, by decide +kernel⟩
def spPart (C : Addr) : SpD := fun ws m Q _ => ∃ l k, ws = [.v (lineD C l), .v (.str k)] ∧ Q (.v (frD (getF (lk l) k))) m
theorem fm_part (FD : FunD K "part" q (defArgs s_Line_part) (defBody s_Line_part) (defScope s_Line_part) [] [] f fd) (cl : Cls K C) (na : NoAttr K C partsS) {zv : Value} (c_ZERO : mg "ZERO" = some zv) (k_ZERO : conU K 3 zv (frD (0, 1)) = true) :
    FnOk P w K mg base (L2.CX P w) 2 f fd ["self", "name"] (lift K (spPart C)) := by
  obtain ⟨zz, rz, hz⟩ := conU_ok k_ZERO
  refine fm_d FD sc_Line_part (fun ws m Q Qx h => ?_) (fun cdv A outer s H E hr => ⟨_, (dss_one (ds_ret (d_dg (u65 hr) (d_ofv K 0) (dv 1) (d_glob c_ZERO rz hz)))), fun ws m Qd Qx h => ?_⟩)
  · obtain ⟨_, _, rfl, _⟩ := h
    rfl
  obtain ⟨l, k, rfl, q⟩ := h
  refine ⟨C, _, _, rfl, cl, na, rfl, ?_⟩
  rw [← val_get] at q
  exact ⟨List.prefix_refl _, q⟩
abbrev s_Line_table : Stmt := inClass (top 14) 4
abbrev N_Line_table : List Str := ["self"]
abbrev P_Line_table : List Str := ["self"]
theorem sc_Line_table : FnScope N_Line_table P_Line_table (defScope s_Line_table) := ⟨rfl, rfl, rfl, by decide +kernel, rfl, by decide +kernel, by decide +kernel⟩
def spTable (C : Addr) : SpD := fun ws m Q _ => ∃ l, ws = [.v (lineD C l)] ∧ Q (.loc m.length) (m ++ [.dic (kvF l)])
theorem fm_table (FD : FunD K "table" q (defArgs s_Line_table) (defBody s_Line_table) (defScope s_Line_table) [] [] f fd) (cl : Cls K C) (na : NoAttr K C partsS) (m_dict : mg "dict" = none) :
    FnOk P w K mg base (L2.CX P w) 2 f fd ["self"] (lift K (spTable C)) := by
  refine fm_o FD sc_Line_table (fun ws m Q Qx h => ?_) (fun cdv A outer s H E hr => ⟨_, (dss_one (ds_ret (d_dictO m_dict (d_ofv K 0)))), fun ws m Qd Qx h => ?_⟩)
  · obtain ⟨_, rfl, _⟩ := h
    rfl
  obtain ⟨l, rfl, q⟩ := h
  exact ⟨C, _, _, rfl, cl, na, rfl, q⟩
abbrev s_Line___len__ : Stmt := inClass (top 14) 11
abbrev N_Line___len__ : List Str := ["self"]
abbrev P_Line___len__ : List Str := ["self"]
theorem sc_Line___len__ : FnScope N_Line___len__ P_Line___len__ (defScope s_Line___len__) := ⟨rfl, rfl, rfl, by decide +kernel, rfl, by decide +kernel, by decide +kernel⟩
def spLenL (C : Addr) : SpD := fun ws m Q _ => ∃ l, ws = [.v (lineD C l)] ∧ Q (.v (.int (l.length : Nat))) m
theorem fm_len (FD : FunD K "__len__" q (defArgs s_Line___len__) (defBody s_Line___len__) (defScope s_Line___len__) [] [] f fd) (cl : Cls K C) (na : NoAttr K C partsS) (m_len : mg "len" = none) :
    FnOk P w K mg base (L2.CX P w) 2 f fd ["self"] (lift K (spLenL C)) := by
  refine fm_d FD sc_Line___len__ (fun ws m Q Qx h => ?_) (fun cdv A outer s H E hr => ⟨_, (dss_one (ds_ret (d_len m_len (da_cons (d_ofv K 0) da_nil)))), fun ws m Qd Qx h => ?_⟩)
  · obtain ⟨_, rfl, _⟩ := h
    rfl
  obtain ⟨l, rfl, q⟩ := h
  refine ⟨C, _, _, rfl, cl, na, rfl, List.prefix_refl _, ?_⟩
  rw [List.length_map]
  exact q
abbrev s_Line___add__ : Stmt := inClass (top 14) 7
abbrev N_Line___add__ : List Str := ["self", "other", "names", "name"]
abbrev P_Line___add__ : List Str := ["self", "other"]
abbrev O_Line___add___0 : List (Str × Nat) := [("name", 3)]
abbrev O_Line___add___1 : List (Str × Nat) := [("name", 3)]
theorem sc_Line___add__ : FnScope N_Line___add__ P_Line___add__ (defScope s_Line___add__) := ⟨rfl, rfl, rfl, by decide +kernel, rfl, by decide +kernel, by decide +kernel⟩
def spAdd (C : Addr) : SpD := fun ws m Q _ => ∃ l r, ws = [.v (lineD C l), .v (lineD C r)] ∧ OkT l ∧ OkT r ∧ l.length + r.length < 60 ∧ ∀ l', Tab l' (fun k => nzF (plusI (getF (lk l) k) (getF (lk r) k))) → Q (.v (lineD C l')) m
def spAddB (C : Addr) : SpD := fun ws m Q _ => ∃ l r, ws = [.v (lineD C l), .v (lineD C r)] ∧ OkB l ∧ OkB r ∧ l.length + r.length < 60 ∧ ∀ l', Tab l' (fun k => nzF (plusI (getF (lk l) k) (getF (lk r) k))) → Q (.v (lineD C l')) m
theorem fm_addB (FD : FunD K "__add__" q (defArgs s_Line___add__) (defBody s_Line___add__) (defScope s_Line___add__) [] [] f fd) (cl : Cls K C) (na : NoAttr K C partsS) {zv : Value} (c_ZERO : mg "ZERO" = some zv) (k_ZERO : conU K 3 zv (frD (0, 1)) = true) (m_sorted : mg "sorted" = none) (gL : GmC P w K mg base 3 "Line" C (spInit C)) (g_plus : Gd P w K mg base (L2.CX P w) 3 "plus" P_plus (lift K (spTwoB plusI))) :
    FnOk P w K mg base (L2.CX P w) 6 f fd ["self", "other"] (lift K (spAddB C)) := by
  obtain ⟨zz, rz, hz⟩ := conU_ok k_ZERO
  refine fm_d FD sc_Line___add__ (fun ws m Q Qx h => ?_) (fun cdv A outer s H E hr => ⟨_, (dss_cons (ds_set (i := 2) sc_Line___add__.nd rfl (.inl rfl) (d_srt rfl m_sorted (da_cons (d_lst (da_starD rfl (d_ofv K 0) (da_star (d_lc (own := O_Line___add___0) rfl sc_Line___add__.nd (di_seq (d_ofv K 1)) (blkOk_by (own := O_Line___add___0) (N := N_Line___add__) (sc := defScope s_Line___add__) (by decide +kernel)) (fun _ _ _ _ _ => (dg_name (i := 3) sc_Line___add__.nd rfl (.inl rfl))) (fun _ _ _ _ _ => (dts_one (dt_cmp (o_notinK (u65 hr)) (dv 3) (d_ofv K 0) (by rfl)))) (fun _ _ _ _ _ => (dv 3))) da_nil))) da_nil)))
    (dss_one (ds_ret (d_mk gL (hr.mono (by omega)) (passE (takes_of rfl rfl rfl rfl)) (da_cons (d_dc (own := O_Line___add___1) rfl sc_Line___add__.nd (di_seq (dv 2)) (blkOk_by (own := O_Line___add___1) (N := N_Line___add__) (sc := defScope s_Line___add__) (by decide +kernel)) (fun _ _ _ _ _ => (dg_name (i := 3) sc_Line___add__.nd rfl (.inl rfl))) (fun _ _ _ _ _ => dts_nil) (fun _ _ _ _ _ => (dv 3)) (fun _ _ _ _ _ => (d_call g_plus (hr.mono (by omega)) passF (da_cons (d_dg (u65 hr) (d_ofv K 0) (dv 3) (d_glob c_ZERO rz hz)) (da_cons (d_dg (u65 hr) (d_ofv K 1) (dv 3) (d_glob c_ZERO rz hz)) da_nil))))) da_nil))))), fun ws m Qd Qx h => ?_⟩)
  · obtain ⟨_, _, rfl, _⟩ := h
    rfl
  obtain ⟨l, r, rfl, ol, or, hl, q⟩ := h
  refine ⟨C, _, _, rfl, cl, na, rfl, ?_⟩
  refine ⟨C, _, _, rfl, cl, na, rfl, ?_⟩
  have ln := sizeLine_eq
  show lcL _ _ _ _ ((kvF r).map fun p => kD p.1) [] _ _
  refine lcL_filter (fun d => match d with | .str x => !decide (x ∈ keyF l) | _ => false) id ?_ (fun d Qt Qn hd h1 h0 => ?_) ?_
  · rw [List.length_nil, List.length_map, List.length_map]
    omega
  · obtain ⟨p, hp, rfl⟩ := List.mem_map.mp hd
    obtain ⟨p2, hp2, rfl⟩ := List.mem_map.mp hp
    refine ⟨C, _, _, rfl, cl, na, rfl, ?_⟩
    show if (!(valD (kvF l) (.inr p2.1)).isSome) = true then _ else _
    have ev : (!(valD (kvF l) (.inr p2.1)).isSome) = !decide (p2.1 ∈ keyF l) := by
      rw [valD_kvF, Option.isSome_map]
      congr 1
      rw [Bool.eq_iff_iff, look_mem, decide_eq_true_eq]
    rw [ev]
    refine iteB (fun t => h1 t) (fun t => h0 t)
  rw [lst_names]
  generalize hF : (keyF r).filter (fun x => !decide (x ∈ keyF l)) = F
  show oDs ((((kvF l).map fun kv => kD kv.1).map W.v) ++ ((F.map D.str).map W.v ++ [])) _
  rw [keys_str, List.append_nil, ← List.map_append, ← List.map_append]
  refine oDs_v ?_
  have lF : F.length ≤ r.length := by
    rw [← hF]
    refine Nat.le_trans (List.length_filter_le _ _) ?_
    rw [keyF, List.length_map]
    exact Nat.le_refl _
  have lA : (keyF l ++ F).length < 64 := by
    rw [List.length_append, keyF, List.length_map]
    omega
  have mF : ∀ x, x ∈ F ↔ x ∈ keyF r ∧ x ∉ keyF l := fun x => by
    rw [← hF, List.mem_filter]
    simp
  have nA : (keyF l ++ F).Nodup := by
    refine List.nodup_append.mpr ⟨ol.nd, by rw [← hF]; exact or.nd.filter _, fun a ha b hb e => ?_⟩
    subst e
    exact ((mF a).mp hb).2 ha
  refine ⟨by rw [List.length_map]; omega, ?_⟩
  refine txtL_strs (xs := keyF l ++ F) ?_
  refine ⟨lA, fun ys pm sr => ?_⟩
  have ny : ys.Nodup := pm.nodup_iff.mpr nA
  have lY : ys.length < 64 := by rw [pm.length_eq]; exact lA
  have mY : ∀ x, x ∈ ys ↔ x ∈ keyF l ∨ x ∈ keyF r := fun x => by
    rw [pm.mem_iff, List.mem_append, mF]
    by_cases c : x ∈ keyF l <;> simp [c]
  show dcL _ _ _ _ _ (ys.map D.str) [] _ _
  refine dcL_names (fun _ => true) (fun x => frD (plusI (getF (lk l) x) (getF (lk r) x))) ?_ ny (fun _ h => nomatch h) (fun x hx Kc K0 h1 h0 => ?_) ?_
  · rw [List.length_nil]
    omega
  · obtain ⟨a1, a2⟩ := ol.get x
    obtain ⟨b1, b2⟩ := or.get x
    exact ⟨C, _, _, rfl, cl, na, rfl, C, _, _, rfl, cl, na, rfl, getF (lk l) x, getF (lk r) x, by rw [val_get, val_get], a1.1, b1.1, a2, b2, h1 rfl⟩
  · rw [List.nil_append, List.filter_eq_self.mpr (fun _ _ => rfl)]
    have e : ys.map (fun x => ((.inr x : Key), frD (plusI (getF (lk l) x) (getF (lk r) x)))) = kvF (ys.map fun x => (x, plusI (getF (lk l) x) (getF (lk r) x))) := kvF_map.symm
    rw [e]
    refine mk_init rfl ?_ ?_ fun l' T => ⟨List.prefix_refl _, q l' (T.congr fun k => ?_)⟩
    · rw [keyF, List.map_map]
      exact (List.map_id' ys).symm ▸ ny
    · rw [List.length_map]
      exact lY
    · unfold nzT
      rw [look_map]
      by_cases c : k ∈ ys
      · rw [if_pos c]
        rfl
      · rw [if_neg c]
        have c2 := fun z => c ((mY k).mpr z)
        rw [getF_out fun z => c2 (.inl z), getF_out fun z => c2 (.inr z)]
        rfl
theorem fm_add (FD : FunD K "__add__" q (defArgs s_Line___add__) (defBody s_Line___add__) (defScope s_Line___add__) [] [] f fd) (cl : Cls K C) (na : NoAttr K C partsS) {zv : Value} (c_ZERO : mg "ZERO" = some zv) (k_ZERO : conU K 3 zv (frD (0, 1)) = true) (m_sorted : mg "sorted" = none) (gL : GmC P w K mg base 3 "Line" C (spInit C)) (g_plus : Gd P w K mg base (L2.CX P w) 3 "plus" P_plus (lift K (spTwoB plusI))) :
    FnOk P w K mg base (L2.CX P w) 6 f fd ["self", "other"] (lift K (spAdd C)) := fn_weak (fm_addB FD cl na c_ZERO k_ZERO m_sorted gL g_plus) fun _ _ _ _ ⟨l, r, e, a, b, q⟩ => ⟨l, r, e, a.b, b.b, q⟩
abbrev s_Line___sub__ : Stmt := inClass (top 14) 8
abbrev N_Line___sub__ : List Str := ["self", "other", "names", "name"]
abbrev P_Line___sub__ : List Str := ["self", "other"]
abbrev O_Line___sub___0 : List (Str × Nat) := [("name", 3)]
abbrev O_Line___sub___1 : List (Str × Nat) := [("name", 3)]
theorem sc_Line___sub__ : FnScope N_Line___sub__ P_Line___sub__ (defScope s_Line___sub__) := ⟨rfl, rfl, rfl, by decide +kernel, rfl, by decide +kernel, by decide +kernel⟩
def spSub (C : Addr) : SpD := fun ws m Q _ => ∃ l r, ws = [.v (lineD C l), .v (lineD C r)] ∧ OkT l ∧ OkT r ∧ l.length + r.length < 60 ∧ ∀ l', Tab l' (fun k => nzF (minusI (getF (lk l) k) (getF (lk r) k))) → Q (.v (lineD C l')) m
def spSubB (C : Addr) : SpD := fun ws m Q _ => ∃ l r, ws = [.v (lineD C l), .v (lineD C r)] ∧ OkB l ∧ OkB r ∧ l.length + r.length < 60 ∧ ∀ l', Tab l' (fun k => nzF (minusI (getF (lk l) k) (getF (lk r) k))) → Q (.v (lineD C l')) m
theorem fm_subB (FD : FunD K "__sub__" q (defArgs s_Line___sub__) (defBody s_Line___sub__) (defScope s_Line___sub__) [] [] f fd) (cl : Cls K C) (na : NoAttr K C partsS) {zv : Value} (c_ZERO : mg "ZERO" = some zv) (k_ZERO : conU K 3 zv (frD (0, 1)) = true) (m_sorted : mg "sorted" = none) (gL : GmC P w K mg base 3 "Line" C (spInit C)) (g_minus : Gd P w K mg base (L2.CX P w) 3 "minus" P_minus (lift K (spTwoB minusI))) :
    FnOk P w K mg base (L2.CX P w) 6 f fd ["self", "other"] (lift K (spSubB C)) := by
  obtain ⟨zz, rz, hz⟩ := conU_ok k_ZERO
  refine fm_d FD sc_Line___sub__ (fun ws m Q Qx h => ?_) (fun cdv A outer s H E hr => ⟨_, (dss_cons (ds_set (i := 2) sc_Line___sub__.nd rfl (.inl rfl) (d_srt rfl m_sorted (da_cons (d_lst (da_starD rfl (d_ofv K 0) (da_star (d_lc (own := O_Line___sub___0) rfl sc_Line___sub__.nd (di_seq (d_ofv K 1)) (blkOk_by (own := O_Line___sub___0) (N := N_Line___sub__) (sc := defScope s_Line___sub__) (by decide +kernel)) (fun _ _ _ _ _ => (dg_name (i := 3) sc_Line___sub__.nd rfl (.inl rfl))) (fun _ _ _ _ _ => (dts_one (dt_cmp (o_notinK (u65 hr)) (dv 3) (d_ofv K 0) (by rfl)))) (fun _ _ _ _ _ => (dv 3))) da_nil))) da_nil)))
    (dss_one (ds_ret (d_mk gL (hr.mono (by omega)) (passE (takes_of rfl rfl rfl rfl)) (da_cons (d_dc (own := O_Line___sub___1) rfl sc_Line___sub__.nd (di_seq (dv 2)) (blkOk_by (own := O_Line___sub___1) (N := N_Line___sub__) (sc := defScope s_Line___sub__) (by decide +kernel)) (fun _ _ _ _ _ => (dg_name (i := 3) sc_Line___sub__.nd rfl (.inl rfl))) (fun _ _ _ _ _ => dts_nil) (fun _ _ _ _ _ => (dv 3)) (fun _ _ _ _ _ => (d_call g_minus (hr.mono (by omega)) passF (da_cons (d_dg (u65 hr) (d_ofv K 0) (dv 3) (d_glob c_ZERO rz hz)) (da_cons (d_dg (u65 hr) (d_ofv K 1) (dv 3) (d_glob c_ZERO rz hz)) da_nil))))) da_nil))))), fun ws m Qd Qx h => ?_⟩)
  · obtain ⟨_, _, rfl, _⟩ := h
    rfl
  obtain ⟨l, r, rfl, ol, or, hl, q⟩ := h
  refine ⟨C, _, _, rfl, cl, na, rfl, ?_⟩
  refine ⟨C, _, _, rfl, cl, na, rfl, ?_⟩
  have ln := sizeLine_eq
  show lcL _ _ _ _ ((kvF r).map fun p => kD p.1) [] _ _
  refine lcL_filter (fun d => match d with | .str x => !decide (x ∈ keyF l) | _ => false) id ?_ (fun d Qt Qn hd h1 h0 => ?_) ?_
  · rw [List.length_nil, List.length_map, List.length_map]
    omega
  · obtain ⟨p, hp, rfl⟩ := List.mem_map.mp hd
    obtain ⟨p2, hp2, rfl⟩ := List.mem_map.mp hp
    refine ⟨C, _, _, rfl, cl, na, rfl, ?_⟩
    show if (!(valD (kvF l) (.inr p2.1)).isSome) = true then _ else _
    have ev : (!(valD (kvF l) (.inr p2.1)).isSome) = !decide (p2.1 ∈ keyF l) := by
      rw [valD_kvF, Option.isSome_map]
      congr 1
      rw [Bool.eq_iff_iff, look_mem, decide_eq_true_eq]
    rw [ev]
    refine iteB (fun t => h1 t) (fun t => h0 t)
  rw [lst_names]
  generalize hF : (keyF r).filter (fun x => !decide (x ∈ keyF l)) = F
  show oDs ((((kvF l).map fun kv => kD kv.1).map W.v) ++ ((F.map D.str).map W.v ++ [])) _
  rw [keys_str, List.append_nil, ← List.map_append, ← List.map_append]
  refine oDs_v ?_
  have lF : F.length ≤ r.length := by
    rw [← hF]
    refine Nat.le_trans (List.length_filter_le _ _) ?_
    rw [keyF, List.length_map]
    exact Nat.le_refl _
  have lA : (keyF l ++ F).length < 64 := by
    rw [List.length_append, keyF, List.length_map]
    omega
  have mF : ∀ x, x ∈ F ↔ x ∈ keyF r ∧ x ∉ keyF l := fun x => by
    rw [← hF, List.mem_filter]
    simp
  have nA : (keyF l ++ F).Nodup := by
    refine List.nodup_append.mpr ⟨ol.nd, by rw [← hF]; exact or.nd.filter _, fun a ha b hb e => ?_⟩
    subst e
    exact ((mF a).mp hb).2 ha
  refine ⟨by rw [List.length_map]; omega, ?_⟩
  refine txtL_strs (xs := keyF l ++ F) ?_
  refine ⟨lA, fun ys pm sr => ?_⟩
  have ny : ys.Nodup := pm.nodup_iff.mpr nA
  have lY : ys.length < 64 := by rw [pm.length_eq]; exact lA
  have mY : ∀ x, x ∈ ys ↔ x ∈ keyF l ∨ x ∈ keyF r := fun x => by
    rw [pm.mem_iff, List.mem_append, mF]
    by_cases c : x ∈ keyF l <;> simp [c]
  show dcL _ _ _ _ _ (ys.map D.str) [] _ _
  refine dcL_names (fun _ => true) (fun x => frD (minusI (getF (lk l) x) (getF (lk r) x))) ?_ ny (fun _ h => nomatch h) (fun x hx Kc K0 h1 h0 => ?_) ?_
  · rw [List.length_nil]
    omega
  · obtain ⟨a1, a2⟩ := ol.get x
    obtain ⟨b1, b2⟩ := or.get x
    exact ⟨C, _, _, rfl, cl, na, rfl, C, _, _, rfl, cl, na, rfl, getF (lk l) x, getF (lk r) x, by rw [val_get, val_get], a1.1, b1.1, a2, b2, h1 rfl⟩
  · rw [List.nil_append, List.filter_eq_self.mpr (fun _ _ => rfl)]
    have e : ys.map (fun x => ((.inr x : Key), frD (minusI (getF (lk l) x) (getF (lk r) x)))) = kvF (ys.map fun x => (x, minusI (getF (lk l) x) (getF (lk r) x))) := kvF_map.symm
    rw [e]
    refine mk_init rfl ?_ ?_ fun l' T => ⟨List.prefix_refl _, q l' (T.congr fun k => ?_)⟩
    · rw [keyF, List.map_map]
      exact (List.map_id' ys).symm ▸ ny
    · rw [List.length_map]
      exact lY
    · unfold nzT
      rw [look_map]
      by_cases c : k ∈ ys
      · rw [if_pos c]
        rfl
      · rw [if_neg c]
        have c2 := fun z => c ((mY k).mpr z)
        rw [getF_out fun z => c2 (.inl z), getF_out fun z => c2 (.inr z)]
        rfl
theorem fm_sub (FD : FunD K "__sub__" q (defArgs s_Line___sub__) (defBody s_Line___sub__) (defScope s_Line___sub__) [] [] f fd) (cl : Cls K C) (na : NoAttr K C partsS) {zv : Value} (c_ZERO : mg "ZERO" = some zv) (k_ZERO : conU K 3 zv (frD (0, 1)) = true) (m_sorted : mg "sorted" = none) (gL : GmC P w K mg base 3 "Line" C (spInit C)) (g_minus : Gd P w K mg base (L2.CX P w) 3 "minus" P_minus (lift K (spTwoB minusI))) :
    FnOk P w K mg base (L2.CX P w) 6 f fd ["self", "other"] (lift K (spSub C)) := fn_weak (fm_subB FD cl na c_ZERO k_ZERO m_sorted gL g_minus) fun _ _ _ _ ⟨l, r, e, a, b, q⟩ => ⟨l, r, e, a.b, b.b, q⟩
end
end Fs
set_option Elab.async false
set_option linter.all false
set_option maxRecDepth 100000
set_option maxHeartbeats 8000000
namespace Fs
open PySem PySem.Spec PyProof.Rows L2
section
variable {P : Program} {w : World} {K : Frag} {mg : Str → Option Value} {base : Heap} {C f : Addr} {fd : FuncData} {q : Str}
abbrev s_Line___repr__ : Stmt := inClass (top 14) 12
abbrev N_Line___repr__ : List Str := ["self"]
abbrev P_Line___repr__ : List Str := ["self"]
theorem sc_Line___repr__ : FnScope N_Line___repr__ P_Line___repr__ (defScope s_Line___repr__) := ⟨rfl, rfl, rfl, by decide +kernel, rfl, by decide +kernel, by decide +kernel⟩
def lineT (n : Nat) : Str := "Line(" ++ (Str.ofString (toString (n : Int)) ++ " parts)")
def spReprL (C : Addr) : SpD := fun ws m Q _ => ∃ l, ws = [.v (lineD C l)] ∧ l.length < 64 ∧ Q (.v (.str (lineT l.length))) m
theorem fm_repr (FD : FunD K "__repr__" q (defArgs s_Line___repr__) (defBody s_Line___repr__) (defScope s_Line___repr__) [] [] f fd) (cl : Cls K C) (na : NoAttr K C partsS) (m_len : mg "len" = none) :
    FnOk P w K mg base (L2.CX P w) 2 f fd ["self"] (lift K (spReprL C)) := by
  refine fm_d FD sc_Line___repr__ (fun ws m Q Qx h => ?_) (fun cdv A outer s H E hr => ⟨_, (dss_one (ds_ret (d_joined (.cons d_str (.cons (d_fmt (d_len m_len (da_cons (d_ofv K 0) da_nil))) (.cons d_str .nil)))))), fun ws m Qd Qx h => ?_⟩)
  · obtain ⟨_, rfl, _⟩ := h
    rfl
  obtain ⟨l, rfl, hl, q⟩ := h
  refine ⟨?_, C, _, _, rfl, cl, na, rfl, ?_⟩
  · decide
  have z : ∀ n : Nat, n < 64 → ((n : Int).natAbs.log2 < 1920 ∧ (Str.empty ++ "Line(" ++ Str.ofString (toString (n : Int))).length ≤ sizeLine ∧ (Str.empty ++ "Line(" ++ Str.ofString (toString (n : Int)) ++ " parts)").length ≤ sizeLine ∧ Str.empty ++ "Line(" ++ Str.ofString (toString (n : Int)) ++ " parts)" = lineT n) := by decide +kernel
  obtain ⟨z1, z2, z3, z4⟩ := z _ hl
  have e : (kvF l).length = l.length := by simp [kvF]
  show ((kvF l).length : Int).natAbs.log2 < 1920 ∧ _
  rw [e]
  refine ⟨z1, z2, z3, ?_⟩
  refine ⟨List.prefix_refl _, ?_⟩
  show Qd (.v (.str (Str.empty ++ "Line(" ++ Str.ofString (toString (l.length : Int)) ++ " parts)"))) m
  rw [z4]
  exact q
abbrev s_Line___mul__ : Stmt := inClass (top 14) 9
abbrev N_Line___mul__ : List Str := ["self", "factor", "name"]
abbrev P_Line___mul__ : List Str := ["self", "factor"]
abbrev O_Line___mul___0 : List (Str × Nat) := [("name", 2)]
theorem sc_Line___mul__ : FnScope N_Line___mul__ P_Line___mul__ (defScope s_Line___mul__) := ⟨rfl, rfl, rfl, by decide +kernel, rfl, by decide +kernel, by decide +kernel⟩
def spMulL (C : Addr) : SpD := fun ws m Q _ => ∃ l p, ws = [.v (lineD C l), .v (frD p)] ∧ OkT l ∧ LowF p ∧ smallF p ∧ l.length < 60 ∧ ∀ l', Tab l' (fun k => (lk l k).bind fun v => nzF (timesI v p)) → Q (.v (lineD C l')) m
def spMulB (C : Addr) : SpD := fun ws m Q _ => ∃ l p, ws = [.v (lineD C l), .v (frD p)] ∧ OkB l ∧ LowF p ∧ szF bigE p ∧ l.length < 60 ∧ ∀ l', Tab l' (fun k => (lk l k).bind fun v => nzF (timesI v p)) → Q (.v (lineD C l')) m
theorem fm_mulB (FD : FunD K "__mul__" q (defArgs s_Line___mul__) (defBody s_Line___mul__) (defScope s_Line___mul__) [] [] f fd) (cl : Cls K C) (na : NoAttr K C partsS) (gL : GmC P w K mg base 3 "Line" C (spInit C)) (g_times : Gd P w K mg base (L2.CX P w) 3 "times" P_times (lift K (spTwoB timesI))) :
    FnOk P w K mg base (L2.CX P w) 6 f fd ["self", "factor"] (lift K (spMulB C)) := by
  refine fm_d FD sc_Line___mul__ (fun ws m Q Qx h => ?_) (fun cdv A outer s H E hr => ⟨_, (dss_one (ds_ret (d_mk gL (hr.mono (by omega)) (passE (takes_of rfl rfl rfl rfl)) (da_cons (d_dc (own := O_Line___mul___0) rfl sc_Line___mul__.nd (di_seq (d_ofv K 0)) (blkOk_by (own := O_Line___mul___0) (N := N_Line___mul__) (sc := defScope s_Line___mul__) (by decide +kernel)) (fun _ _ _ _ _ => (dg_name (i := 2) sc_Line___mul__.nd rfl (.inl rfl))) (fun _ _ _ _ _ => dts_nil) (fun _ _ _ _ _ => (dv 2)) (fun _ _ _ _ _ => (d_call g_times (hr.mono (by omega)) passF (da_cons (d_dk (u65 hr) (d_ofv K 0) (dv 2)) (da_cons (dv 1) da_nil))))) da_nil)))), fun ws m Qd Qx h => ?_⟩)
  · obtain ⟨_, _, rfl, _⟩ := h
    rfl
  obtain ⟨l, p, rfl, ol, lp, sp, hl, q⟩ := h
  refine ⟨C, _, _, rfl, cl, na, rfl, ?_⟩
  show dcL _ _ _ _ _ ((kvF l).map fun p => kD p.1) [] _ _
  rw [keys_str]
  refine dcL_names (fun _ => true) (fun x => frD (timesI (getF (lk l) x) p)) ?_ ol.nd (fun _ h => nomatch h) (fun x hx Kc K0 h1 h0 => ?_) ?_
  · rw [List.length_nil, keyF, List.length_map]
    omega
  · obtain ⟨a1, a2⟩ := ol.get x
    have hv : valD (kvF l) (.inr x) = some (frD (getF (lk l) x)) := by
      rw [valD_kvF]
      obtain ⟨v, hv⟩ := Option.isSome_iff_exists.mp (look_mem.mpr hx)
      show (l.lookup x).map frD = some (frD ((l.lookup x).getD (0, 1)))
      rw [hv]
      rfl
    exact ⟨C, _, _, rfl, cl, na, rfl, _, hv, getF (lk l) x, p, rfl, a1.1, lp.1, a2, sp, h1 rfl⟩
  · rw [List.nil_append, List.filter_eq_self.mpr (fun _ _ => rfl)]
    have e : (keyF l).map (fun x => ((.inr x : Key), frD (timesI (getF (lk l) x) p))) = kvF ((keyF l).map fun x => (x, timesI (getF (lk l) x) p)) := kvF_map.symm
    rw [e]
    refine mk_init rfl ?_ ?_ fun l' T => ⟨List.prefix_refl _, q l' (T.congr fun k => ?_)⟩
    · rw [keyF, List.map_map]
      exact (List.map_id' (keyF l)).symm ▸ ol.nd
    · rw [List.length_map, keyF, List.length_map]
      omega
    · unfold nzT
      rw [look_map]
      by_cases c : k ∈ keyF l
      · rw [if_pos c]
        obtain ⟨v, hv⟩ := Option.isSome_iff_exists.mp (look_mem.mpr c)
        unfold getF lk
        rw [hv]
        rfl
      · rw [if_neg c]
        have z : l.lookup k = none := by
          cases y : l.lookup k with
          | none => rfl
          | some w => exact absurd (look_mem.mp (by rw [y]; rfl)) c
        show none = (l.lookup k).bind _
        rw [z]
        rfl
theorem fm_mul (FD : FunD K "__mul__" q (defArgs s_Line___mul__) (defBody s_Line___mul__) (defScope s_Line___mul__) [] [] f fd) (cl : Cls K C) (na : NoAttr K C partsS) (gL : GmC P w K mg base 3 "Line" C (spInit C)) (g_times : Gd P w K mg base (L2.CX P w) 3 "times" P_times (lift K (spTwoB timesI))) :
    FnOk P w K mg base (L2.CX P w) 6 f fd ["self", "factor"] (lift K (spMulL C)) := fn_weak (fm_mulB FD cl na gL g_times) fun _ _ _ _ ⟨l, p, e, a, lp, sp, q⟩ => ⟨l, p, e, a.b, lp, (small_sz sp).mono (by decide), q⟩
end
end Fs
set_option Elab.async false
set_option linter.all false
set_option maxRecDepth 100000
set_option maxHeartbeats 8000000
namespace Fs
open PySem PySem.Spec PyProof.Rows L2
section
variable {P : Program} {w : World} {K : Frag} {mg : Str → Option Value} {base : Heap} {C f : Addr} {fd : FuncData} {q : Str}
abbrev s_Line_unknown : Stmt := inClass (top 14) 2
abbrev N_Line_unknown : List Str := ["cls", "name"]
abbrev P_Line_unknown : List Str := ["cls", "name"]
theorem sc_Line_unknown : FnScope N_Line_unknown P_Line_unknown (defScope s_Line_unknown) := ⟨rfl, rfl, rfl, by decide +kernel, rfl, by decide +kernel, by decide +kernel⟩
def spUnknown (C : Addr) : SpD := fun ws m Q _ => ∃ x, ws = [.v (.fn C), .v (.str x)] ∧ ∀ l', Tab l' (nzT [(x, (1, 1))]) → Q (.v (lineD C l')) m
theorem fm_unknown (FD : FunD K "unknown" q (defArgs s_Line_unknown) (defBody s_Line_unknown) (defScope s_Line_unknown) [] [] f fd) {zv : Value} (c_ONE : mg "ONE" = some zv) (k_ZERO : conU K 3 zv (frD (1, 1)) = true) (gL : GmC P w K mg base 3 "Line" C (spInit C)) :
    FnOk P w K mg base (L2.CX P w) 6 f fd ["cls", "name"] (lift K (spUnknown C)) := by
  obtain ⟨zz, rz, hz⟩ := conU_ok k_ZERO
  refine fm_d FD sc_Line_unknown (fun ws m Q Qx h => ?_) (fun cdv A outer s H E hr => ⟨_, (dss_one (ds_ret (d_mkL (i := 0) (hv := .inl rfl) gL (hr.mono (by omega)) (passE (takes_of rfl rfl rfl rfl)) (da_cons (d_ds1 (dv 1) (d_glob c_ONE rz hz)) da_nil)))), fun ws m Qd Qx h => ?_⟩)
  · obtain ⟨_, rfl, _⟩ := h
    rfl
  obtain ⟨x, rfl, q⟩ := h
  refine ⟨rfl, ?_⟩
  exact mk_init (Qx := (defN m Qd Qx).xc) (l := [(x, ((1, 1) : Int × Int))]) rfl (by simp [keyF]) (by simp) fun l' T => ⟨List.prefix_refl _, q l' T⟩
end
end Fs
set_option Elab.async false
set_option linter.all false
set_option maxRecDepth 100000
set_option maxHeartbeats 8000000
namespace Fs
open PySem PySem.Spec PyProof.Rows L2
/-- what isinstance asks of an own class -/
structure InsC (K : Frag) (C : Addr) : Prop where
  cl : Cls K C
  ha : PySem.W.findIn K (.ref C) "__class__" = some (some (.builtin "object.__class__"))
  hn : PySem.W.specialIn K (.builtin "object.__class__") "__get__" = some (some (.builtin "getset_descriptor.__get__"))
  ht : PySem.W.takesIn K (.builtin "object.__class__") = some true
  hm : PySem.W.mroIn K C (.type "object") = some true
def isOD (K : Frag) : F2 := fun x c Q => match x, c with
  | .obj C _, .fn T => ∃ b, InsC K C ∧ PySem.W.kitOne K (.ref C) (.ref T) = some b ∧ Q (.bl b)
  | .dic _, .fn T => ∃ b, PySem.W.kitOne K (.type "dict") (.ref T) = some b ∧ Q (.bl b)
  | _, _ => False
section
variable {X : Cx} {E : XK}
theorem c_isO : SC X (rIsi X.K) (c2 (isOD X.K)) := SC.of2 fun B μ m H v u d e Q QV M td te q k => by
  cases d with
  | obj C fs =>
    cases e with
    | fn T =>
      obtain ⟨a, dx, vs, rfl, hi, _⟩ := td
      cases (show Rv X.K B u (.fn T) from te)
      obtain ⟨b, ic, hk, q⟩ := q
      exact ⟨.ref a, .ref T, .ref C, .ref T, b, rfl, .own T, .base (.ins hi ic.cl ic.ha ic.hn ic.ht ic.hm), hk, SO.pure M k (.bl _) q⟩
    | _ => exact q.elim
  | dic kvs =>
    cases e with
    | fn T =>
      have ty := Top.ty M.le td (s := "dict") rfl
      cases (show Rv X.K B u (.fn T) from te)
      obtain ⟨b, hk, q⟩ := q
      exact ⟨v, .ref T, _, .ref T, b, rfl, .own T, ty, hk, SO.pure M k (.bl _) q⟩
    | _ => exact q.elim
  | _ => exact q.elim
theorem d_isO {e e2 : Expr} {ta : DTA} {p pos : Pos} (hm : X.mg "isinstance" = none) (ha : DA X E [e, e2] ta) (hg : Gl X "isinstance" := by rfl) (he : starEach [e, e2] X.env = (false, eval e X.env) :: starEach [e2] X.env := by rfl) (hpl : (backTo pos (starEach [e2] X.env)).any (·.1) = false := by rfl) : DE X E (.Call (.Name "isinstance" p) [e, e2] [] pos) (tCa (c2 (isOD X.K)) ta) :=
  d_fn call_isi c_isO hm (by decide +kernel) ha hg (by decide) (by decide) he hpl
end
/-- the answer of two tables for == -/
def eqT (l r : FT) : Bool := l.length == r.length && eqHits (kvF r) (kvF l)
theorem okVs_kvF (l : FT) : okVs (kvF l) := fun p hp => by
  obtain ⟨x, _, rfl⟩ := List.mem_map.mp hp
  exact ⟨rfl, (by decide +kernel : depD (.tup [.int 0, .int 0]) ≤ 64)⟩
section
variable {P : Program} {w : World} {K : Frag} {mg : Str → Option Value} {base : Heap} {C f : Addr} {fd : FuncData} {q : Str}
abbrev s_Line___eq__ : Stmt := inClass (top 14) 10
abbrev N_Line___eq__ : List Str := ["self", "other"]
abbrev P_Line___eq__ : List Str := ["self", "other"]
theorem sc_Line___eq__ : FnScope N_Line___eq__ P_Line___eq__ (defScope s_Line___eq__) := ⟨rfl, rfl, rfl, by decide +kernel, rfl, by decide +kernel, by decide +kernel⟩
def spEqL (C : Addr) : SpD := fun ws m Q _ => ∃ l y, ws = [.v (lineD C l), .v y] ∧ ((∃ r, y = lineD C r ∧ Q (.v (.bl (eqT l r))) m) ∨ ∃ kvs, y = .dic kvs ∧ Q (.v (.bl false)) m)
theorem fm_eq (FD : FunD K "__eq__" q (defArgs s_Line___eq__) (defBody s_Line___eq__) (defScope s_Line___eq__) [] [] f fd) (cl : Cls K C) (na : NoAttr K C partsS) (ic : InsC K C) (k1 : PySem.W.kitOne K (.ref C) (.ref C) = some true) (k2 : PySem.W.kitOne K (.type "dict") (.ref C) = some false) (m_isinstance : mg "isinstance" = none) (c_Line : mg "Line" = some (.ref C)) :
    FnOk P w K mg base (L2.CX P w) 2 f fd ["self", "other"] (lift K (spEqL C)) := by
  refine fm_d FD sc_Line___eq__ (fun ws m Q Qx h => ?_) (fun cdv A outer s H E hr => ⟨_, (dss_one (ds_ret (d_and (d_isO m_isinstance (da_cons (dv 1) (da_cons (d_glob (v := .ref C) (d := .fn C) c_Line rfl (fun _ => .fn C)) da_nil))) (d_one (d_cmp (o_eqK (u65 hr)) (d_ofv K 0) (d_ofv K 1) (nomark _)))))), fun ws m Qd Qx h => ?_⟩)
  · obtain ⟨_, _, rfl, _⟩ := h
    rfl
  obtain ⟨l, y, rfl, h⟩ := h
  rcases h with ⟨r, rfl, q⟩ | ⟨kvs, rfl, q⟩
  · refine ⟨true, ic, k1, ?_⟩
    refine ⟨C, _, _, rfl, cl, na, rfl, C, _, _, rfl, cl, na, rfl, okVs_kvF l, okVs_kvF r, List.prefix_refl _, ?_⟩
    have e : ((kvF l).length == (kvF r).length && eqHits (kvF r) (kvF l)) = eqT l r := by
      unfold eqT kvF
      rw [List.length_map, List.length_map]
    rw [e]
    exact q
  · exact ⟨false, k2, List.prefix_refl _, q⟩
end
theorem eqHits_sub {b : List (Key × D)} : ∀ {a : List (Key × D)}, (∀ p ∈ a, ∃ e, valD b p.1 = some e ∧ deq p.2 e = true) → eqHits b a = true
  | [], _ => rfl
  | (k, d) :: r, h => by
    obtain ⟨e, h1, h2⟩ := h (k, d) (List.mem_cons_self ..)
    show (match valD b k with | some e => deq d e && eqHits b r | none => false) = true
    rw [h1]
    show (deq d e && eqHits b r) = true
    rw [h2, eqHits_sub fun p hp => h p (List.mem_cons_of_mem _ hp)]
    rfl
theorem look_nd : ∀ {l : FT} {x : Str × (Int × Int)}, (keyF l).Nodup → x ∈ l → l.lookup x.1 = some x.2
  | (g, v) :: l, x, nd, h => by
    have nd : (g :: keyF l).Nodup := nd
    rw [List.lookup_cons]
    rcases List.mem_cons.mp h with rfl | h
    · simp
    · have ne : x.1 ≠ g := fun e => (List.nodup_cons.mp nd).1 (e ▸ List.mem_map_of_mem h)
      have e : (x.1 == g) = false := by simpa using ne
      rw [e]
      exact look_nd (List.nodup_cons.mp nd).2 h
theorem eqT_refl {l : FT} (nd : (keyF l).Nodup) : eqT l l = true := by
  have z : eqHits (kvF l) (kvF l) = true := eqHits_sub fun p hp => by
    obtain ⟨x, hx, rfl⟩ := List.mem_map.mp hp
    refine ⟨frD x.2, ?_, ?_⟩
    · show valD (kvF l) (.inr x.1) = _
      rw [valD_kvF, look_nd nd hx]
      rfl
    · rw [deq_fr]
      simp
  unfold eqT
  rw [z]
  simp
end Fs
set_option Elab.async false
set_option linter.all false
set_option maxRecDepth 100000
set_option maxHeartbeats 8000000
namespace Fs
open PySem PySem.Spec PyProof.Rows L2
section
variable {P : Program} {w : World} {K : Frag} {mg : Str → Option Value} {base : Heap}
theorem times_zero {p : Int × Int} (h : LowF p) : timesI (0, 1) p = (0, 1) := by
  have h1 := h.1
  unfold timesI lowI
  simp only [Int.zero_mul, Int.one_mul]
  rw [if_neg (by omega)]
  have e : Int.gcd 0 p.2 = p.2.natAbs := by simp
  rw [e]
  have e2 : ((p.2.natAbs : Nat) : Int) = p.2 := by omega
  rw [e2]
  rw [Int.ediv_self (by omega)]
  simp
def addI (l r : FT) (p : Int × Int) (k : Str) : Int × Int := plusI (getF (lk l) k) (timesI (getF (lk r) k) p)
theorem addI_out {l r : FT} {p : Int × Int} {k : Str} (hp : LowF p) (h1 : k ∉ keyF l) (h2 : k ∉ keyF r) : addI l r p k = (0, 1) := by
  unfold addI
  rw [getF_out h1, getF_out h2, times_zero hp, plus_zero low_01]
theorem putD_kvF {l : FT} {k : Str} {p : Int × Int} (h : k ∉ keyF l) : putD' (kvF l) (.inr k) (frD p) = kvF (l ++ [(k, p)]) := by
  unfold putD'
  rw [if_neg]
  · show _ = (l ++ [(k, p)]).map _
    rw [List.map_append]
    rfl
  · intro z
    obtain ⟨y, hy, e⟩ := List.any_eq_true.mp z
    obtain ⟨x, hx, rfl⟩ := List.mem_map.mp hy
    have e : (.inr x.1 : Key) = .inr k := of_decide_eq_true e
    exact h (Sum.inr.inj e ▸ List.mem_map_of_mem hx)
theorem dicAt_last {m : Me} {X : List (Key × D)} {Q : List (Key × D) → Prop} (h : Q X) : dicAt (m ++ [.dic X]) m.length Q := by
  unfold dicAt
  have g : (m ++ [MO.dic X])[m.length]? = some (.dic X) := by simp
  rw [g]
  exact h
theorem set_last1 {m : Me} {a b : MO} : (m ++ [a]).set m.length b = m ++ [b] := by simp
theorem tDfz_last {m : Me} {X : List (Key × D)} {en : En} {i : Nat} {Q : W → Me → Prop} {Qx : QX} (he : en.get i = some (.loc m.length)) (h : Q (.v (.dic X)) (m ++ [.gone])) : tDfz (tV i) en (m ++ [.dic X]) Q Qx := by
  have g : (m ++ [MO.dic X])[m.length]? = some (.dic X) := by simp
  unfold tDfz tV
  rw [he]
  show (match (m ++ [MO.dic X])[m.length]? with | some (.dic kvs) => Q (.v (.dic kvs)) ((m ++ [MO.dic X]).set m.length .gone) | _ => False)
  rw [g, set_last1]
  exact h
theorem len_sub : ∀ {ys zs : List Str}, ys.Nodup → (∀ x ∈ ys, x ∈ zs) → ys.length ≤ zs.length
  | [], _, _, _ => Nat.zero_le _
  | y :: ys, zs, n, h => by
    have hy := h y (List.mem_cons_self ..)
    have n2 := List.nodup_cons.mp n
    have z := len_sub (ys := ys) (zs := zs.erase y) n2.2 fun x hx => (List.mem_erase_of_ne (fun e : x = y => n2.1 (e ▸ hx))).mpr (h x (List.mem_cons_of_mem _ hx))
    have e := List.length_erase_of_mem hy
    have p := List.length_pos_of_mem hy
    rw [List.length_cons]
    omega
def spAddF : SpD := fun ws m Q _ => ∃ l r p, ws = [.v (.dic (kvF l)), .v (.dic (kvF r)), .v (frD p)] ∧ OkT l ∧ OkT r ∧ LowF p ∧ smallF p ∧ l.length + r.length < 60 ∧ (∀ k, smallF (timesI (getF (lk r) k) p)) ∧ ∀ l', Tab l' (fun k => nzF (addI l r p k)) → Q (.v (.dic (kvF l'))) m
def spAddFB : SpD := fun ws m Q _ => ∃ l r p, ws = [.v (.dic (kvF l)), .v (.dic (kvF r)), .v (frD p)] ∧ OkB l ∧ OkB r ∧ LowF p ∧ szF bigE p ∧ l.length + r.length < 60 ∧ (∀ k, szF bigE (timesI (getF (lk r) k) p)) ∧ ∀ l', Tab l' (fun k => nzF (addI l r p k)) → Q (.v (.dic (kvF l'))) m
abbrev s__law_add : Stmt := top 29
abbrev N__law_add : List Str := ["_law_one", "_law_other", "_law_factor_here", "_law_found", "_law_name", "_law_value_here"]
abbrev P__law_add : List Str := ["_law_one", "_law_other", "_law_factor_here"]
theorem sc__law_add : FnScope N__law_add P__law_add (defScope s__law_add) := ⟨rfl, rfl, rfl, by decide +kernel, rfl, by decide +kernel, by decide +kernel⟩
theorem dd__law_addB (G : Gs K mg "_law_add" s__law_add) (m_sorted : mg "sorted" = none) (m_set : mg "set" = none) (m_list : mg "list" = none) (g__law_plus : Gd P w K mg base (L2.CX P w) 2 "_law_plus" P__law_plus (lift K (spTwoB plusI))) (g__law_times : Gd P w K mg base (L2.CX P w) 2 "_law_times" P__law_times (lift K (spTwoB timesI))) : Gd P w K mg base (L2.CX P w) 4 "_law_add" P__law_add (lift K spAddFB) := by
  refine Fo.gd (fo_d sc__law_add (fun ws m Q Qx h => ?_) (fun f cdv A outer s H E hr => ⟨_, (dss_cons (ds_set (i := 3) sc__law_add.nd rfl (.inl rfl) d_dnw)
    (dss_cons (ds_for (passes_of rfl) rfl (di_seq (d_sset rfl m_sorted m_set (d_op o_add (d_lsk rfl m_list (da_cons (dv 0) da_nil)) (d_lsk rfl m_list (da_cons (dv 1) da_nil))))) (dg_name (i := 4) sc__law_add.nd rfl (.inl rfl))
      (dss_cons (ds_set (i := 5) sc__law_add.nd rfl (.inl rfl) (d_call g__law_plus (hr.mono (by omega)) (passE (takes_of rfl rfl rfl rfl)) (da_cons (d_dg (u65 hr) (dv 0) (dv 4) (d_tup (da_cons d_int (da_cons d_int da_nil)))) (da_cons (d_call g__law_times (hr.mono (by omega)) (passE (takes_of rfl rfl rfl rfl)) (da_cons (d_dg (u65 hr) (dv 1) (dv 4) (d_tup (da_cons d_int (da_cons d_int da_nil)))) (da_cons (dv 2) da_nil))) da_nil))))
      (dss_one (ds_if (dt_cmp (o_ne (u64 hr)) (dv 5) (d_tup (da_cons d_int (da_cons d_int da_nil))) (nomark _))
        (dss_one (ds_dpt (u65 hr) (dv 3) (dv 4) (dv 5)))
        dss_nil))))
    (dss_one (ds_ret (d_dfz (dv 3)))))), fun ws m Qd Qx h => ?_⟩) [] []) G (fun _ _ _ _ _ _ us hl => match us, hl with | [_, _, _], _ => rfl)
  · obtain ⟨_, _, _, rfl, _⟩ := h
    rfl
  obtain ⟨l, r, p, rfl, ol, or, lp, sp, hl, hs, q⟩ := h
  have ln := sizeLine_eq
  refine ⟨by show ((kvF l).map _).length + ((kvF r).map _).length ≤ _; rw [List.length_map, List.length_map, List.length_map, List.length_map]; omega, ?_⟩
  show txtL (((kvF l).map fun kv => kD kv.1) ++ ((kvF r).map fun kv => kD kv.1)) _
  rw [keys_str, keys_str, ← List.map_append]
  refine txtL_strs (xs := keyF l ++ keyF r) ⟨by rw [List.length_append, keyF, keyF, List.length_map, List.length_map]; omega, fun ys ny mY sr => ?_⟩
  have mY : ∀ x, x ∈ ys ↔ x ∈ keyF l ∨ x ∈ keyF r := fun x => (mY x).trans List.mem_append
  show sForL _ _ (ys.map D.str) _ _ _
  have yl : ys.length < 60 := by
    have z := len_sub ny fun x hx => List.mem_append.mpr ((mY x).mp hx)
    rw [List.length_append, keyF, keyF, List.length_map, List.length_map] at z
    omega
  let c : Str → Bool := fun x => !decide (addI l r p x = (0, 1))
  refine sFor0 (fun i en m' => ∃ a b, en = [some (.v (.dic (kvF l))), some (.v (.dic (kvF r))), some (.v (frD p)), some (.loc m.length), a, b] ∧ m' = m ++ [.dic (kvF (((ys.take i).filter c).map fun x => (x, addI l r p x)))]) ⟨_, _, rfl, rfl⟩ (fun j d en m' N' hd hi r1 r2 r3 hn => ?_) (fun en m' hi => ?_)
  · obtain ⟨a, b, rfl, rfl⟩ := hi
    obtain ⟨x, hx, rfl⟩ : ∃ x, ys[j]? = some x ∧ D.str x = d := by simpa using hd
    obtain ⟨a1, a2⟩ := ol.get x
    obtain ⟨b1, b2⟩ := or.get x
    have tk : ys.take (j + 1) = ys.take j ++ [x] := by
      rw [List.take_add_one, hx]
      rfl
    have nx : x ∉ ys.take j := fun z => by
      have n1 := (List.take_sublist (j + 1) ys).nodup ny
      rw [tk] at n1
      exact (List.nodup_append.mp n1).2.2 x z x (List.mem_singleton.mpr rfl) rfl
    refine ⟨by show 2 ≤ sizeLine; omega, by show 2 ≤ sizeLine; omega, ?_⟩
    refine ⟨getF (lk r) x, p, by rw [← val_get], b1.1, lp.1, b2, sp, ?_⟩
    refine ⟨getF (lk l) x, timesI (getF (lk r) x) p, by rw [← val_get], a1.1, (lowI_LowF (Int.mul_pos b1.1 lp.1)).1, a2, hs x, ?_⟩
    refine ⟨by show 2 ≤ sizeLine; omega, rfl, rfl, (by show 1 ≤ 64; decide), (by show 1 ≤ 64; decide), ?_⟩
    show if (!(deq (frD (addI l r p x)) (frD (0, 1)))) = true then _ else _
    rw [deq_fr]
    refine iteB (fun t => ?_) (fun t => ?_)
    · refine dicAt_last ?_
      refine ⟨by rw [List.length_map, List.length_map]; have z := List.length_filter_le c (ys.take j); have z2 := List.length_take_le' j ys; omega, ?_⟩
      rw [set_last1, putD_kvF]
      · refine (hn _ _ ⟨_, _, rfl, ?_⟩).1
        rw [tk, List.filter_append, List.filter_cons_of_pos (p := c) t, List.map_append]
        rfl
      · rw [keyF, List.map_map]
        intro z
        obtain ⟨y, hy, rfl⟩ := List.mem_map.mp z
        exact nx (List.mem_filter.mp hy).1
    · refine (hn _ _ ⟨_, _, rfl, ?_⟩).1
      have t' : ¬ c x = true := by
        show ¬ (!decide (addI l r p x = (0, 1))) = true
        rw [t]
        decide
      rw [tk, List.filter_append, List.filter_cons_of_neg (p := c) t']
      simp
  · obtain ⟨a, b, rfl, rfl⟩ := hi
    show tDfz (tV 3) [some (W.v (D.dic (kvF l))), some (W.v (D.dic (kvF r))), some (W.v (frD p)), some (W.loc (List.length m)), a, b] (m ++ [.dic (kvF _)]) (fun x m1 => (defN m Qd Qx).rt x m1) (defN m Qd Qx).xc
    refine tDfz_last (i := 3) rfl ?_
    refine ⟨List.prefix_append _ _, q _ ?_⟩
    rw [List.length_map, List.take_length]
    refine tab_of c (addI l r p) (sorted_pw sr) ny fun k => ?_
    unfold nzF
    by_cases e : addI l r p k = (0, 1)
    · rw [if_pos e, if_neg]
      rintro ⟨_, z⟩
      have z : (!decide (addI l r p k = (0, 1))) = true := z
      simp [e] at z
    · rw [if_neg e, if_pos]
      refine ⟨(mY k).mpr ?_, by show (!decide (addI l r p k = (0, 1))) = true; simp [e]⟩
      by_cases e1 : k ∈ keyF l
      · exact .inl e1
      · by_cases e2 : k ∈ keyF r
        · exact .inr e2
        · exact absurd (addI_out lp e1 e2) e
theorem dd__law_add (G : Gs K mg "_law_add" s__law_add) (m_sorted : mg "sorted" = none) (m_set : mg "set" = none) (m_list : mg "list" = none) (g__law_plus : Gd P w K mg base (L2.CX P w) 2 "_law_plus" P__law_plus (lift K (spTwoB plusI))) (g__law_times : Gd P w K mg base (L2.CX P w) 2 "_law_times" P__law_times (lift K (spTwoB timesI))) : Gd P w K mg base (L2.CX P w) 4 "_law_add" P__law_add (lift K spAddF) := (dd__law_addB G m_sorted m_set m_list g__law_plus g__law_times).weak fun _ _ _ _ ⟨l, r, p, e, a, b, lp, sp, hl, hs, q⟩ => ⟨l, r, p, e, a.b, b.b, lp, (small_sz sp).mono (by decide), hl, fun k => (small_sz (hs k)).mono (by decide), q⟩
end
section
variable {P : Program} {w : World} {K : Frag} {mg : Str → Option Value} {base : Heap}
theorem okT_nil : OkT [] := ⟨List.nodup_nil, fun _ _ h => (nomatch h), fun _ _ h => (nomatch h)⟩
def spPlain : SpD := fun ws m Q _ => ∃ r, ws = [.v (.dic (kvF r))] ∧ OkT r ∧ r.length < 60 ∧ ∀ l', Tab l' (nzT r) → Q (.v (.dic (kvF l'))) m
theorem addI_nil {r : FT} (h : OkT r) (k : Str) : addI [] r (1, 1) k = getF (lk r) k := by
  unfold addI
  rw [times_one (h.get k).1]
  exact plus_zero (h.get k).1
theorem nzF_get {r : FT} {k : Str} : nzF (getF (lk r) k) = nzT r k := by
  unfold nzT getF lk
  cases r.lookup k with
  | none => rfl
  | some p => rfl
abbrev s__law_plain : Stmt := top 30
abbrev N__law_plain : List Str := ["_law_line_here"]
abbrev P__law_plain : List Str := ["_law_line_here"]
theorem sc__law_plain : FnScope N__law_plain P__law_plain (defScope s__law_plain) := ⟨rfl, rfl, rfl, by decide +kernel, rfl, by decide +kernel, by decide +kernel⟩
theorem dd__law_plain (G : Gs K mg "_law_plain" s__law_plain) (g__law_add : Gd P w K mg base (L2.CX P w) 4 "_law_add" P__law_add (lift K spAddF)) : Gd P w K mg base (L2.CX P w) 6 "_law_plain" P__law_plain (lift K spPlain) := by
  refine Fo.gd (fo_d sc__law_plain (fun ws m Q Qx h => ?_) (fun f cdv A outer s H E hr => ⟨_, (dss_one (ds_ret (d_call g__law_add (hr.mono (by omega)) (passE (takes_of rfl rfl rfl rfl)) (da_cons (d_dfz d_dnw) (da_cons (dv 0) (da_cons (d_tup (da_cons d_int (da_cons d_int da_nil))) da_nil)))))), fun ws m Qd Qx h => ?_⟩) [] []) G (fun _ _ _ _ _ _ us hl => match us, hl with | [_], _ => rfl)
  · obtain ⟨_, rfl, _⟩ := h
    rfl
  obtain ⟨r, rfl, or, hl, q⟩ := h
  have ln := sizeLine_eq
  unfold sRet tCal tCn tDfz tDnw
  have g : (m ++ [MO.dic []])[m.length]? = some (.dic []) := by simp
  show (match (m ++ [MO.dic []])[m.length]? with | some (.dic kvs) => _ | _ => False)
  rw [g]
  rw [set_last1]
  refine ⟨by show 2 ≤ sizeLine; omega, ?_⟩
  refine ⟨[], r, (1, 1), rfl, okT_nil, or, ⟨by decide, by decide⟩, ⟨by decide, by decide⟩, by simpa using hl, fun k => ?_, fun l' T => ⟨List.prefix_append _ _, q l' (T.congr fun k => ?_)⟩⟩
  · rw [times_one (or.get k).1]
    exact (or.get k).2
  · rw [addI_nil or, nzF_get]
end
end Fs
set_option Elab.async false
set_option linter.all false
set_option maxRecDepth 100000
set_option maxHeartbeats 8000000
namespace Fs
open PySem PySem.Spec PyProof.Rows L2
section
variable {P : Program} {w : World} {K : Frag} {mg : Str → Option Value} {base : Heap}
def tinyF (p : Int × Int) : Prop := p.1.natAbs ≤ 10 ^ 12 ∧ p.2.natAbs ≤ 10 ^ 12
def spRatD : SpD := fun ws m Q _ => ∃ n, ws = [.loc n] ∧ m[n]? = some .bag ∧ ∀ p : Int × Int, LowF p → tinyF p → Q (.v (frD p)) m
abbrev s__law_ratio : Stmt := top 26
abbrev N__law_ratio : List Str := ["_law_bag_here", "_law_size"]
abbrev P__law_ratio : List Str := ["_law_bag_here"]
theorem sc__law_ratio : FnScope N__law_ratio P__law_ratio (defScope s__law_ratio) := ⟨rfl, rfl, rfl, by decide +kernel, rfl, by decide +kernel, by decide +kernel⟩
theorem dd__law_ratio (G : Gs K mg "_law_ratio" s__law_ratio) (g__law_of : Gd P w K mg base (L2.CX P w) 2 "_law_of" P__law_of (lift K spOfD)) (g__law_pull : Gd P w K mg base (L2.CX P w) 1 "_law_pull" P__law_pull (lift K spPullD)) (g__law_low : Gd P w K mg base (L2.CX P w) 1 "_law_low" P__law_low (lift K spLowD)) : Gd P w K mg base (L2.CX P w) 3 "_law_ratio" P__law_ratio (lift K spRatD) := by
  refine Fo.gd (fo_d sc__law_ratio (fun ws m Q Qx h => ?_) (fun f cdv A outer s H E hr => ⟨_, (dss_cons (ds_set (i := 1) sc__law_ratio.nd rfl (.inl rfl) (d_call g__law_of (hr.mono (by omega)) (passE (takes_of rfl rfl rfl rfl)) (da_cons (dv 0) (da_cons (d_lst (da_cons d_int (da_cons d_int (da_cons d_int (da_cons (d_op o_sub (d_op o_pow d_int d_int) d_int) da_nil))))) da_nil))))
    (dss_one (ds_ret (d_call g__law_low (hr.mono (by omega)) (passE (takes_of rfl rfl rfl rfl)) (da_cons (d_op o_sub (d_call g__law_pull (hr.mono (by omega)) (passE (takes_of rfl rfl rfl rfl)) (da_cons (dv 0) (da_cons (d_op o_add (d_op o_mul d_int (dv 1)) d_int) da_nil))) (dv 1)) (da_cons (d_op o_add d_int (d_call g__law_pull (hr.mono (by omega)) (passE (takes_of rfl rfl rfl rfl)) (da_cons (dv 0) (da_cons (d_call g__law_of (hr.mono (by omega)) (passE (takes_of rfl rfl rfl rfl)) (da_cons (dv 0) (da_cons (d_lst (da_cons d_int (da_cons d_int (da_cons (dv 1) da_nil)))) da_nil))) da_nil)))) da_nil)))))), fun ws m Qd Qx h => ?_⟩) [] []) G (fun _ _ _ _ _ _ us hl => match us, hl with | [_], _ => rfl)
  · obtain ⟨_, rfl, _⟩ := h
    rfl
  obtain ⟨n, rfl, hm, q⟩ := h
  have ln := sizeLine_eq
  refine ⟨⟨by decide, by decide, by decide⟩, ?_⟩
  refine ⟨by show 4 ≤ sizeLine; omega, n, _, [.int 4, .int 12, .int 1000, .int (10 ^ 12 - 1)], rfl, hm, .inl rfl, by simp, Nat.lt_of_le_of_lt (show 4 ≤ 4 by decide) (by decide), fun d hd => ?_⟩
  obtain ⟨z, rfl, z1, z2⟩ : ∃ z : Int, d = .int z ∧ 1 ≤ z ∧ z < 10 ^ 12 := by
    simp only [List.mem_cons, List.not_mem_nil, or_false] at hd
    rcases hd with rfl | rfl | rfl | rfl
    · exact ⟨_, rfl, by decide, by decide⟩
    · exact ⟨_, rfl, by decide, by decide⟩
    · exact ⟨_, rfl, by decide, by decide⟩
    · exact ⟨_, rfl, by decide, by decide⟩
  have zs : z.natAbs < 10 ^ 40 := by omega
  refine ⟨cm_small (by decide) zs, ?_⟩
  refine ⟨n, _, rfl, hm, by omega, by omega, fun a a0 a1 => ?_⟩
  refine ⟨by show 3 ≤ sizeLine; omega, n, _, [.int 1, .int 6, .int z], rfl, hm, .inl rfl, by simp, Nat.lt_of_le_of_lt (show 3 ≤ 3 by decide) (by decide), fun d hd => ?_⟩
  obtain ⟨y, rfl, y1, y2⟩ : ∃ z : Int, d = .int z ∧ 1 ≤ z ∧ z < 10 ^ 12 := by
    simp only [List.mem_cons, List.not_mem_nil, or_false] at hd
    rcases hd with rfl | rfl | rfl
    · exact ⟨_, rfl, by decide, by decide⟩
    · exact ⟨_, rfl, by decide, by decide⟩
    · exact ⟨_, rfl, z1, z2⟩
  refine ⟨n, _, rfl, hm, by omega, by omega, fun b b0 b1 => ?_⟩
  have e0 : 0 < 1 + b := by omega
  have lg := log2_lt (i := 1 + b) (k := 13) (by omega)
  refine ⟨a - z, 1 + b, rfl, e0, by omega, List.prefix_refl _, q _ (lowI_LowF e0) ?_⟩
  obtain ⟨k, hk, k0, kg, kt, kb⟩ := lowI_low (t := a - z) e0
  exact ⟨by omega, by rw [hk]; omega⟩
end
section
variable {P : Program} {w : World} {K : Frag} {mg : Str → Option Value} {base : Heap}
/-- a drawn table -/
structure DrT (ns : List Str) (l : FT) : Prop where
  nd : (keyF l).Nodup
  sub : ∀ k ∈ keyF l, k ∈ ns
  low : ∀ p ∈ l, LowF p.2 ∧ tinyF p.2
/-- a table with k set -/
def putT (l : FT) (k : Str) (p : Int × Int) : FT := if k ∈ keyF l then l.map fun x => if x.1 = k then (k, p) else x else l ++ [(k, p)]
theorem any_kvF {l : FT} {k : Str} : ((kvF l).any fun kv => decide (kv.1 = (.inr k : Key))) = decide (k ∈ keyF l) := by
  by_cases h : k ∈ keyF l
  · rw [decide_eq_true h]
    obtain ⟨x, hx, rfl⟩ := List.mem_map.mp h
    exact List.any_eq_true.mpr ⟨_, List.mem_map_of_mem hx, decide_eq_true rfl⟩
  · rw [decide_eq_false h]
    refine Bool.eq_false_iff.mpr fun z => ?_
    obtain ⟨y, hy, e⟩ := List.any_eq_true.mp z
    obtain ⟨x, hx, rfl⟩ := List.mem_map.mp hy
    have e : (.inr x.1 : Key) = .inr k := of_decide_eq_true e
    exact h (Sum.inr.inj e ▸ List.mem_map_of_mem hx)
theorem putT_kvF {l : FT} {k : Str} {p : Int × Int} : putD' (kvF l) (.inr k) (frD p) = kvF (putT l k p) := by
  by_cases h : k ∈ keyF l
  · unfold putD' putT
    rw [any_kvF, decide_eq_true h, if_pos rfl, if_pos h, List.map_map]
    show _ = List.map _ (List.map _ _)
    rw [List.map_map]
    refine List.map_congr_left fun x _ => ?_
    show (if (.inr x.1 : Key) = .inr k then ((.inr x.1 : Key), frD p) else (.inr x.1, frD x.2)) = (.inr (if x.1 = k then (k, p) else x).1, frD (if x.1 = k then (k, p) else x).2)
    by_cases c : x.1 = k
    · rw [if_pos c, if_pos (by rw [c])]
      rw [c]
    · rw [if_neg c, if_neg fun z => c (Sum.inr.inj z)]
  · rw [putD_kvF h]
    unfold putT
    rw [if_neg h]
theorem putT_ok {l : FT} {k : Str} {p : Int × Int} (nd : (keyF l).Nodup) : (keyF (putT l k p)).Nodup ∧ (∀ x ∈ keyF (putT l k p), x ∈ keyF l ∨ x = k) ∧ ∀ y ∈ putT l k p, y ∈ l ∨ y = (k, p) := by
  unfold putT
  by_cases h : k ∈ keyF l
  · rw [if_pos h]
    have e : keyF (l.map fun x => if x.1 = k then (k, p) else x) = keyF l := by
      unfold keyF
      rw [List.map_map]
      refine List.map_congr_left fun x _ => ?_
      show (if x.1 = k then (k, p) else x).1 = x.1
      by_cases c : x.1 = k
      · rw [if_pos c]
        exact c.symm
      · rw [if_neg c]
    rw [e]
    refine ⟨nd, fun x hx => .inl hx, fun y hy => ?_⟩
    obtain ⟨x, hx, rfl⟩ := List.mem_map.mp hy
    by_cases c : x.1 = k
    · rw [if_pos c]
      exact .inr rfl
    · rw [if_neg c]
      exact .inl hx
  · rw [if_neg h]
    have ke : keyF (l ++ [(k, p)]) = keyF l ++ [k] := by
      unfold keyF
      rw [List.map_append]
      rfl
    rw [ke]
    refine ⟨List.nodup_append.mpr ⟨nd, by simp, fun a ha b hb e => ?_⟩, fun x hx => ?_, fun y hy => ?_⟩
    · subst e
      exact h (List.mem_singleton.mp hb ▸ ha)
    · rcases List.mem_append.mp hx with h | h
      · exact .inl h
      · exact .inr (List.mem_singleton.mp h)
    · rcases List.mem_append.mp hy with h | h
      · exact .inl h
      · exact .inr (List.mem_singleton.mp h)
def spDrawn : SpD := fun ws m Q _ => ∃ n ns, ws = [.loc n, .v (.lst (ns.map .str))] ∧ m[n]? = some .bag ∧ ns.length < 60 ∧ ∀ l, DrT ns l → Q (.loc m.length) (m ++ [.dic (kvF l)])
abbrev s__law_drawn_line : Stmt := top 37
abbrev N__law_drawn_line : List Str := ["_law_bag_here", "_law_names_here", "_law_found", "_law_name"]
abbrev P__law_drawn_line : List Str := ["_law_bag_here", "_law_names_here"]
theorem sc__law_drawn_line : FnScope N__law_drawn_line P__law_drawn_line (defScope s__law_drawn_line) := ⟨rfl, rfl, rfl, by decide +kernel, rfl, by decide +kernel, by decide +kernel⟩
theorem dd__law_drawn_line (G : Gs K mg "_law_drawn_line" s__law_drawn_line) (g__law_of : Gd P w K mg base (L2.CX P w) 2 "_law_of" P__law_of (lift K spOfD)) (g__law_pull : Gd P w K mg base (L2.CX P w) 1 "_law_pull" P__law_pull (lift K spPullD)) (g__law_ratio : Gd P w K mg base (L2.CX P w) 3 "_law_ratio" P__law_ratio (lift K spRatD)) : Gd P w K mg base (L2.CX P w) 5 "_law_drawn_line" P__law_drawn_line (lift K spDrawn) := by
  refine Fo.gd (fo_o sc__law_drawn_line (fun ws m Q Qx h => ?_) (fun f cdv A outer s H E hr => ⟨_, (dss_cons (ds_set (i := 2) sc__law_drawn_line.nd rfl (.inl rfl) d_dnw)
    (dss_cons (ds_for (passes_of rfl) rfl (di_seq (dv 1)) (dg_name (i := 3) sc__law_drawn_line.nd rfl (.inl rfl))
      (dss_one (ds_if (dt_cmp o_gt (d_call g__law_pull (hr.mono (by omega)) (passE (takes_of rfl rfl rfl rfl)) (da_cons (dv 0) (da_cons d_int da_nil))) d_int (nomark _))
        (dss_one (ds_dpt (u65 hr) (dv 2) (dv 3) (d_call g__law_of (hr.mono (by omega)) (passE (takes_of rfl rfl rfl rfl)) (da_cons (dv 0) (da_cons (d_lst (da_cons (d_tup (da_cons d_int (da_cons d_int da_nil))) (da_cons (d_tup (da_cons d_int (da_cons d_int da_nil))) (da_cons (d_tup (da_cons (d_un o_neg d_int) (da_cons d_int da_nil))) (da_cons (d_call g__law_ratio (hr.mono (by omega)) (passE (takes_of rfl rfl rfl rfl)) (da_cons (dv 0) da_nil)) da_nil))))) da_nil)))))
        dss_nil)))
    (dss_one (ds_ret (dv 2))))), fun ws m Qd Qx h => ?_⟩) [] []) G (fun _ _ _ _ _ _ us hl => match us, hl with | [_, _], _ => rfl)
  · obtain ⟨_, _, rfl, _⟩ := h
    rfl
  obtain ⟨n, ns, rfl, hm, hl, q⟩ := h
  have ln := sizeLine_eq
  have hmx : ∀ X : MO, (m ++ [X])[n]? = some .bag := fun X => by
    have lt : n < m.length := (List.getElem?_eq_some_iff.mp hm).1
    rw [List.getElem?_append_left lt]
    exact hm
  show sForL _ _ (ns.map D.str) _ _ _
  refine sFor0 (fun i en m' => ∃ l a, en = [some (.loc n), some (.v (.lst (ns.map .str))), some (.loc m.length), a] ∧ m' = m ++ [.dic (kvF l)] ∧ DrT (ns.take i) l) ⟨[], _, rfl, rfl, List.nodup_nil, fun _ h => (nomatch h), fun _ h => (nomatch h)⟩ (fun j d en m' N' hd hi r1 r2 r3 hn => ?_) (fun en m' hi => ?_)
  · obtain ⟨l, a, rfl, rfl, T⟩ := hi
    obtain ⟨x, hx, rfl⟩ : ∃ x, ns[j]? = some x ∧ D.str x = d := by simpa using hd
    have tk : ns.take (j + 1) = ns.take j ++ [x] := by
      rw [List.take_add_one, hx]
      rfl
    refine ⟨n, 3, rfl, hmx _, by decide, by decide, fun r r0 r1 => ?_⟩
    refine iteB (fun t => ?_) (fun t => ?_)
    · have s2 : (2 : Nat) ≤ sizeLine := by omega
      refine ⟨s2, s2, s2, n, rfl, hmx _, fun p lp tp => ?_⟩
      refine ⟨by show 4 ≤ sizeLine; omega, n, _, [frD (0, 1), frD (1, 1), frD (-1, 1), frD p], rfl, hmx _, .inl rfl, by simp, Nat.lt_of_le_of_lt (show 4 ≤ 4 by decide) (by decide), fun d hd => ?_⟩
      obtain ⟨v, rfl, lv, tv⟩ : ∃ v, d = frD v ∧ LowF v ∧ tinyF v := by
        simp only [List.mem_cons, List.not_mem_nil, or_false] at hd
        rcases hd with rfl | rfl | rfl | rfl
        · exact ⟨_, rfl, low_01, by decide, by decide⟩
        · exact ⟨_, rfl, ⟨by decide, by decide⟩, by decide, by decide⟩
        · exact ⟨_, rfl, ⟨by decide, by decide⟩, by decide, by decide⟩
        · exact ⟨_, rfl, lp, tp⟩
      refine dicAt_last ?_
      have kl : l.length < 60 := by
        have z := len_sub T.nd T.sub
        have z2 := List.length_take_le' j ns
        rw [keyF, List.length_map] at z
        omega
      refine ⟨by rw [List.length_map]; omega, ?_⟩
      rw [set_last1, putT_kvF]
      obtain ⟨p1, p2, p3⟩ := putT_ok T.nd (k := x) (p := v)
      refine (hn _ _ ⟨putT l x v, _, rfl, rfl, p1, fun k hk => ?_, fun y hy => ?_⟩).1
      · rw [tk]
        rcases p2 k hk with h | h
        · exact List.mem_append.mpr (.inl (T.sub k h))
        · exact List.mem_append.mpr (.inr (List.mem_singleton.mpr h))
      · rcases p3 y hy with h | h
        · exact T.low y h
        · rw [h]
          exact ⟨lv, tv⟩
    · refine (hn _ _ ⟨l, _, rfl, rfl, T.nd, fun k hk => ?_, T.low⟩).1
      rw [tk]
      exact List.mem_append.mpr (.inl (T.sub k hk))
  · obtain ⟨l, a, rfl, rfl, T⟩ := hi
    rw [List.length_map, List.take_length] at T
    exact q l T
end
end Fs
set_option Elab.async false
set_option linter.all false
set_option maxRecDepth 100000
set_option maxHeartbeats 8000000
namespace Fs
open PySem PySem.Spec PyProof.Rows L2
abbrev s__law_same : Stmt := top 22
abbrev N__law_same : List Str := ["_law_found", "_law_due", "_law_k", "_law_key"]
abbrev P__law_same : List Str := ["_law_found", "_law_due"]
abbrev O__law_same_0 : List (Str × Nat) := [("_law_k", 2)]
abbrev O__law_same_1 : List (Str × Nat) := [("_law_key", 3)]
theorem sc__law_same : FnScope N__law_same P__law_same (defScope s__law_same) := ⟨rfl, rfl, rfl, by decide +kernel, rfl, by decide +kernel, by decide +kernel⟩
section
variable {P : Program} {w : World} {K : Frag} {mg : Str → Option Value} {base : Heap}
def flatA : D → Bool
  | .non | .bl _ | .int _ | .str _ => true
  | _ => false
/-- what _law_same walks: lists and tuples, fewer than n levels -/
def fitD : Nat → D → Prop
  | 0, _ => False
  | n + 1, .lst ds => ds.length < 2 ^ 20 ∧ ∀ d ∈ ds, fitD n d
  | n + 1, .tup ds => ds.length < 2 ^ 20 ∧ ∀ d ∈ ds, fitD n d
  | n + 1, .dic kvs => ∃ l : FT, kvs = kvF l ∧ (keyF l).Nodup ∧ l.length < 64 ∧ ∀ p ∈ l, fitD n (frD p.2)
  | _ + 1, d => flatA d = true
theorem fit_mono : ∀ {n : Nat} {d : D}, fitD n d → fitD (n + 1) d
  | 0, _, h => h.elim
  | n + 1, .lst _, h => ⟨h.1, fun d hd => fit_mono (h.2 d hd)⟩
  | n + 1, .tup _, h => ⟨h.1, fun d hd => fit_mono (h.2 d hd)⟩
  | n + 1, .non, h => h
  | n + 1, .bl _, h => h
  | n + 1, .int _, h => h
  | n + 1, .str _, h => h
  | n + 1, .ty _, h => h
  | n + 1, .fn _, h => h
  | n + 1, .dic _, ⟨l, e, nd, hl, h⟩ => ⟨l, e, nd, hl, fun p hp => fit_mono (h p hp)⟩
  | n + 1, .obj _ _, h => h
  | n + 1, .exc _ _, h => h
theorem fit_tup {n : Nat} {ds : List D} (h1 : ds.length < 2 ^ 20) (h2 : ∀ d ∈ ds, fitD n d) : fitD (n + 1) (.tup ds) := ⟨h1, h2⟩
def spSameD (n : Nat) : SpD := fun ws m Q _ => ∃ d, ws = [.v d, .v d] ∧ fitD n d ∧ Q (.v (.bl true)) m
theorem iteN {c : Bool} {A B : Prop} (hc : c = false) (h : B) : if c = true then A else B := by
  subst hc
  exact iteF h
theorem plain_strsK : ∀ ns : List Str, plainL (ns.map .str) = true
  | [] => rfl
  | x :: xs => plain_strsK xs
theorem dep_strsK0 : ∀ ns : List Str, depL (ns.map .str) = 0
  | [] => rfl
  | x :: xs => by
    show max 0 (depL (xs.map .str)) = 0
    rw [dep_strsK0 xs]
    rfl
theorem dep_strsK (ns : List Str) : depD (.lst (ns.map .str)) ≤ 64 := by
  show depL _ + 1 ≤ 64
  rw [dep_strsK0]
  decide
theorem deq_strsK : ∀ ns : List Str, deqL (ns.map .str) (ns.map .str) = true
  | [] => rfl
  | x :: xs => by
    show ((x == x) && deqL (xs.map .str) (xs.map .str)) = true
    rw [deq_strsK xs]
    simp
theorem look_inK : ∀ {l : FT} {x : Str} {v : Int × Int}, l.lookup x = some v → (x, v) ∈ l
  | (g, u) :: l, x, v, h => by
    rw [List.lookup_cons] at h
    by_cases c : x = g
    · subst c
      simp at h
      rw [h]
      exact List.mem_cons_self ..
    · have e : (x == g) = false := by simpa using c
      rw [e] at h
      exact List.mem_cons_of_mem _ (look_inK h)
theorem bools_tr {Q : List Bool → Prop} : ∀ n : Nat, Q (List.replicate n true) → bools (List.replicate n (.bl true)) Q
  | 0, h => h
  | n + 1, h => bools_tr (Q := fun bs => Q (true :: bs)) n h
theorem all2_tr {i : Nat} {its ys : List D} (h : All2 (fun _ _ y => y = .bl true) i its ys) : ys = List.replicate its.length (.bl true) := by
  induction h with
  | nil => rfl
  | cons r _ ih => rw [r, ih, List.length_cons, List.replicate_succ]
theorem dd__law_same (G : Gs K mg "_law_same" s__law_same) (m_isinstance : mg "isinstance" = none) (m_tuple : mg "tuple" = none) (m_list : mg "list" = none) (m_all : mg "all" = none) (m_range : mg "range" = none) (m_len : mg "len" = none) (m_dict : mg "dict" = none) (m_int : mg "int" = none) (m_bool : mg "bool" = none) (m_str : mg "str" = none) (m_sorted : mg "sorted" = none) :
    ∀ n : Nat, Gd P w K mg base (L2.CX P w) (n + 1) "_law_same" P__law_same (lift K (spSameD n)) := by
  intro n
  induction n with
  | zero =>
    refine Fo.gd (fo_okX sc__law_same (fun vs H Q E h => ?_) (fun f cdv A outer s H vs Q E hr h => ?_)) G (fun _ _ _ _ _ _ us hl => match us, hl with | [_, _], _ => rfl)
    · obtain ⟨_, _, _, _, _, _, _, r, ⟨_, _, f, _⟩, _⟩ := h
      exact f.elim
    · obtain ⟨_, _, _, _, _, _, _, r, ⟨_, _, f, _⟩, _⟩ := h
      exact f.elim
  | succ n g__law_same =>
  refine Fo.gd (fo_d sc__law_same (fun ws m Q Qx h => ?_) (fun f cdv A outer s H E hr => ⟨_, (dss_cons (ds_if (dt_val (d_isi2 m_isinstance (dv 1) (pe_bltn (v := .ty "list") (by rfl) m_list (by decide +kernel) rfl) (pe_bltn (v := .ty "tuple") (by rfl) m_tuple (by decide +kernel) rfl)))
      (dss_cons (ds_if (DW.dt (dw_or (dt_cmp (o_ne (u64 hr)) (d_isi m_isinstance (da_cons (dv 0) (da_cons (d_ty (n := "list") m_list (by decide +kernel)) da_nil))) (d_isi m_isinstance (da_cons (dv 1) (da_cons (d_ty (n := "list") m_list (by decide +kernel)) da_nil))) (nomark _)) (dw_or1 (dt_cmp (o_ne (u64 hr)) (d_isi m_isinstance (da_cons (dv 0) (da_cons (d_ty (n := "tuple") m_tuple (by decide +kernel)) da_nil))) (d_isi m_isinstance (da_cons (dv 1) (da_cons (d_ty (n := "tuple") m_tuple (by decide +kernel)) da_nil))) (nomark _)))))
        (dss_one (ds_ret d_bl))
        dss_nil)
      (dss_one (ds_ret (d_and (d_cmp (o_eq (u64 hr)) (d_len m_len (da_cons (dv 0) da_nil)) (d_len m_len (da_cons (dv 1) da_nil)) (nomark _)) (d_one (d_all rfl m_all (da_cons (d_lc (own := O__law_same_0) rfl sc__law_same.nd (di_range1 m_range (da_cons (d_len m_len (da_cons (dv 1) da_nil)) da_nil)) (blkOk_by (own := O__law_same_0) (N := N__law_same) (sc := defScope s__law_same) (by decide +kernel)) (fun _ _ _ _ _ => (dg_name (i := 2) sc__law_same.nd rfl (.inl rfl))) (fun _ _ _ _ _ => dts_nil) (fun _ _ _ _ _ => (d_call g__law_same (hr.mono (by omega)) passF (da_cons (d_ix (dv 0) (dv 2)) (da_cons (d_ix (dv 1) (dv 2)) da_nil))))) da_nil)))))))
      dss_nil)
    (dss_cons (ds_if (dt_val (d_isi m_isinstance (da_cons (dv 1) (da_cons (d_ty (n := "dict") m_dict (by decide +kernel)) da_nil))))
      (dss_cons (ds_if (DW.dt (dw_or (dt_not (dt_val (d_isi m_isinstance (da_cons (dv 0) (da_cons (d_ty (n := "dict") m_dict (by decide +kernel)) da_nil))))) (dw_or1 (dt_cmp (o_ne (u64 hr)) (d_srt rfl m_sorted (da_cons (dv 0) da_nil)) (d_srt rfl m_sorted (da_cons (dv 1) da_nil)) (nomark _)))))
        (dss_one (ds_ret d_bl))
        dss_nil)
      (dss_one (ds_ret (d_all rfl m_all (da_cons (d_lc (own := O__law_same_1) rfl sc__law_same.nd (di_seq (dv 1)) (blkOk_by (own := O__law_same_1) (N := N__law_same) (sc := defScope s__law_same) (by decide +kernel)) (fun _ _ _ _ _ => (dg_name (i := 3) sc__law_same.nd rfl (.inl rfl))) (fun _ _ _ _ _ => dts_nil) (fun _ _ _ _ _ => (d_call g__law_same (hr.mono (by omega)) passF (da_cons (d_dk (u65 hr) (dv 0) (dv 3)) (da_cons (d_dk (u65 hr) (dv 1) (dv 3)) da_nil))))) da_nil)))))
      dss_nil)
    (dss_cons (ds_if (DW.dt (dw_or (dt_cmp o_is (dv 1) d_non (nomark _)) (dw_or1 (dt_cmp o_is (dv 0) d_non (nomark _)))))
      (dss_one (ds_ret (d_and (d_cmp o_is (dv 0) d_non (nomark _)) (d_one (d_cmp o_is (dv 1) d_non (nomark _))))))
      dss_nil)
    (dss_cons (ds_if (DW.dt (dw_or (dt_cmp (o_ne (u64 hr)) (d_isi m_isinstance (da_cons (dv 1) (da_cons (d_ty (n := "bool") m_bool (by decide +kernel)) da_nil))) (d_isi m_isinstance (da_cons (dv 0) (da_cons (d_ty (n := "bool") m_bool (by decide +kernel)) da_nil))) (nomark _)) (dw_or1 (dt_cmp (o_ne (u64 hr)) (d_isi m_isinstance (da_cons (dv 1) (da_cons (d_ty (n := "int") m_int (by decide +kernel)) da_nil))) (d_isi m_isinstance (da_cons (dv 0) (da_cons (d_ty (n := "int") m_int (by decide +kernel)) da_nil))) (nomark _)))))
      (dss_one (ds_ret d_bl))
      dss_nil)
    (dss_one (ds_ret (d_and (d_cmp (o_eq (u64 hr)) (d_isi m_isinstance (da_cons (dv 1) (da_cons (d_ty (n := "str") m_str (by decide +kernel)) da_nil))) (d_isi m_isinstance (da_cons (dv 0) (da_cons (d_ty (n := "str") m_str (by decide +kernel)) da_nil))) (nomark _)) (d_one (d_cmp (o_eq (u64 hr)) (dv 0) (dv 1) (nomark _)))))))))), fun ws m Qd Qx h => ?_⟩) [] []) G (fun _ _ _ _ _ _ us hl => match us, hl with | [_, _], _ => rfl)
  · obtain ⟨_, rfl, _⟩ := h
    rfl
  · obtain ⟨d, rfl, hf, q⟩ := h
    have ln := sizeLine_eq
    have lp : ∀ (x : D) (ds : List D) (Q : W → Me → Prop) (g : DTG) (te : DTE) (en : En), ds.length < 2 ^ 20 → (∀ j (Qt : W → Me → Prop), (hj : j < ds.length) → Qt (.v (.bl true)) m → g (.v (.int (0 + (j : Nat)))) en m fun en1 m1 => te en1 m1 Qt noX) → Q (.v (.lst (List.replicate ds.length (.bl true)))) m → lcL g tYs te en (rngD 0 ds.length) [] m Q := fun x ds Q g te en hl h k => by
      refine lcL_all (fun _ _ y => y = .bl true) 0 (by rw [rngD_len]; show 0 + _ ≤ _; omega) (fun j d Qt hd hq => ?_) fun ys hys => ?_
      · obtain ⟨rfl, hj⟩ := rngD_at hd
        exact h j Qt hj (hq _ rfl)
      · rw [all2_tr hys, rngD_len]
        exact k
    cases d with
    | lst ds =>
      obtain ⟨h1, h2⟩ := hf
      refine ⟨rfl, rfl, rfl, rfl, rfl, Nat.zero_le _, Nat.zero_le _, rfl, rfl, rfl, rfl, Nat.zero_le _, Nat.zero_le _, rfl, rfl, Nat.zero_le _, Nat.zero_le _, ite_of (by show ((ds.length : Int) == (ds.length : Int)) = true; simp) ?_⟩
      refine ⟨by omega, by omega, lp (.lst ds) ds _ _ _ _ h1 (fun j Qt hj hq => ?_) ?_⟩
      · have a := atI_i (xs := ds) (i := (0 : Int) + (j : Nat)) (by omega) (by omega)
        exact ⟨_, a, _, a, _, rfl, h2 _ (atI_mem a), hq⟩
      · refine bools_tr _ ⟨List.prefix_refl _, ?_⟩
        have : (List.replicate ds.length true).all id = true := by simp
        show Qd (.v (.bl ((List.replicate ds.length true).all id))) m
        rw [this]
        exact q
    | tup ds =>
      obtain ⟨h1, h2⟩ := hf
      refine ⟨rfl, rfl, rfl, rfl, rfl, Nat.zero_le _, Nat.zero_le _, rfl, rfl, rfl, rfl, Nat.zero_le _, Nat.zero_le _, rfl, rfl, Nat.zero_le _, Nat.zero_le _, ite_of (by show ((ds.length : Int) == (ds.length : Int)) = true; simp) ?_⟩
      refine ⟨by omega, by omega, lp (.tup ds) ds _ _ _ _ h1 (fun j Qt hj hq => ?_) ?_⟩
      · have a := atI_i (xs := ds) (i := (0 : Int) + (j : Nat)) (by omega) (by omega)
        exact ⟨_, a, _, a, _, rfl, h2 _ (atI_mem a), hq⟩
      · refine bools_tr _ ⟨List.prefix_refl _, ?_⟩
        have : (List.replicate ds.length true).all id = true := by simp
        show Qd (.v (.bl ((List.replicate ds.length true).all id))) m
        rw [this]
        exact q
    | non => exact ⟨rfl, rfl, rfl, rfl, rfl, List.prefix_refl _, q⟩
    | bl b =>
      refine ⟨rfl, rfl, rfl, rfl, rfl, rfl, rfl, rfl, Nat.zero_le _, Nat.zero_le _, rfl, rfl, rfl, rfl, Nat.zero_le _, Nat.zero_le _, rfl, rfl, rfl, rfl, Nat.zero_le _, Nat.zero_le _, rfl, rfl, Nat.zero_le _, Nat.zero_le _, List.prefix_refl _, ?_⟩
      have e : deq (.bl b) (.bl b) = true := by show (b == b) = true; simp
      show Qd (.v (.bl (deq (.bl b) (.bl b)))) m
      rw [e]
      exact q
    | int b =>
      refine ⟨rfl, rfl, rfl, rfl, rfl, rfl, rfl, rfl, Nat.zero_le _, Nat.zero_le _, rfl, rfl, rfl, rfl, Nat.zero_le _, Nat.zero_le _, rfl, rfl, rfl, rfl, Nat.zero_le _, Nat.zero_le _, rfl, rfl, Nat.zero_le _, Nat.zero_le _, List.prefix_refl _, ?_⟩
      have e : deq (.int b) (.int b) = true := by show (b == b) = true; simp
      show Qd (.v (.bl (deq (.int b) (.int b)))) m
      rw [e]
      exact q
    | str b =>
      refine ⟨rfl, rfl, rfl, rfl, rfl, rfl, rfl, rfl, Nat.zero_le _, Nat.zero_le _, rfl, rfl, rfl, rfl, Nat.zero_le _, Nat.zero_le _, rfl, rfl, rfl, rfl, Nat.zero_le _, Nat.zero_le _, rfl, rfl, Nat.zero_le _, Nat.zero_le _, List.prefix_refl _, ?_⟩
      have e : deq (.str b) (.str b) = true := by show (b == b) = true; simp
      show Qd (.v (.bl (deq (.str b) (.str b)))) m
      rw [e]
      exact q
    | dic kvs =>
      obtain ⟨l, rfl, nd, hl, hp⟩ := hf
      have kl : (keyF l).length < 64 := by rw [keyF, List.length_map]; exact hl
      refine ⟨rfl, rfl, rfl, keysL_kvF ⟨kl, fun ys pm sr => keysL_kvF ⟨kl, fun zs pz sz => ?_⟩⟩⟩
      have e : zs = ys := sorted_unique sz sr (pz.nodup_iff.mpr nd) (pm.nodup_iff.mpr nd) fun x => by rw [pz.mem_iff, pm.mem_iff]
      subst e
      refine ⟨plain_strsK zs, plain_strsK zs, dep_strsK zs, dep_strsK zs, iteN (by show (!(deqL (zs.map D.str) (zs.map D.str))) = false; rw [deq_strsK]; rfl) ?_⟩
      show lcL _ _ _ _ ((kvF l).map fun p => kD p.1) [] _ _
      refine lcL_all (fun _ _ y => y = .bl true) 0 (by rw [List.length_map, List.length_map]; show 0 + _ ≤ _; omega) (fun j d Qt hd hq => ?_) fun ys hys => ?_
      · rw [keys_str] at hd
        obtain ⟨x, hx, rfl⟩ : ∃ x, (keyF l)[j]? = some x ∧ D.str x = d := by simpa using hd
        obtain ⟨v, hv⟩ := Option.isSome_iff_exists.mp (look_mem.mpr (List.mem_of_getElem? hx))
        have hk : valD (kvF l) (.inr x) = some (frD v) := by
          rw [valD_kvF, hv]
          rfl
        exact ⟨_, hk, _, hk, _, rfl, hp (x, v) (look_inK hv), hq _ rfl⟩
      · rw [all2_tr hys]
        refine bools_tr _ ⟨List.prefix_refl _, ?_⟩
        have : (List.replicate ((kvF l).map fun p => kD p.1).length true).all id = true := by simp
        show Qd (.v (.bl ((List.replicate ((kvF l).map fun p => kD p.1).length true).all id))) m
        rw [this]
        exact q
    | _ => cases hf
end
end Fs
set_option Elab.async false
set_option linter.all false
set_option maxRecDepth 100000
set_option maxHeartbeats 8000000
namespace Fs
open PySem PySem.Spec PyProof.Rows L2
section
variable {prog : Program} {w : World} {A : Around} {E : Value → Shared → Prop} {s : Shared} {K : Frag} {x y C L f : Addr} {h₀ : Heap} {m : Str → Option Value} {ox : Obj} {od : Option Obj} {name : Str}
theorem ifBoundB_K {M : Model} {id : String} {args : List Value} {Q : Option Value → Shared → Prop} (X : K.In s.heap) (I : PySem.W.InstAt s.heap x ox C od) (hs : PySem.W.findIn K (.ref C) name = some (some (.builtin id))) (hb : ∀ self, bindSpecial (.builtin id) self = pure (.builtin id, [self]))
    (h : wpAny M A (call (.builtin id) (.ref x :: args)) (fun v => Q (some v)) E s) : wpAny M A (callSpecialIfBound? (.ref x) name args) Q E s := by
  simp only [callSpecialIfBound?, bindSpecialIfBound?]
  refine wpAny_holding (wpAny_bind (wpAny_bind (wpAny_bind (I.type.here ((PySem.W.looks_findIn X hs).here ?_)))))
  simp only [hb]
  refine wpAny_bind (wpAny_askSetting (wpAny_ite ?_))
  have fin : wpAny M A (call (.builtin id) ([.ref x] ++ args) >>= fun v => pure (some v)) Q E s := wpAny_bind (wpAny_mono h (fun v s' h' => wpAny_pure h') fun _ _ h' => h')
  split
  · exact wpAny_bind (wpAny_pure (wpAny_pure fin))
  · exact wpAny_tryCatch (wpAny_bind (wpAny_pure (wpAny_pure fin)))
theorem objNe_K (X : K.In s.heap) (I : PySem.W.InstAt s.heap x ox C od) (hs : PySem.W.findIn K (.ref C) "__eq__" = some (some (.ref f))) (hf : PySem.W.isFn K (.ref f) = true) (hu : A.units < cLine) {b : Value} {Q : Fin → Shared → Prop}
    (hcall : wpAny (model prog w) A (call (.ref f) [.ref x, b]) (fun v s' => ∃ r, v = .bool r ∧ Q (.done (.ret (.bool (!r)))) s') E s) :
    wpAny (model prog w) A (Builtin.«object.__ne__» ⟨[.ref x, b], []⟩) Q E s := by
  unfold Builtin.«object.__ne__»
  repeat (first
    | with_reducible refine wpAny_cRoomFor hu ?_
    | (refine wpAny_bind (m := callSpecialIfBound? (.ref x) (Str.ofString "__eq__") [b])
        (PySem.W.ifBound_K X I hs hf (wpAny_mono hcall (fun r s' hr => by
          obtain ⟨b, rfl, hq⟩ := hr
          repeat (first | exact hq | exact wpAny_pure hq | exact wpAny_truthy_bool hq | (refine wpAny_bind (m := truthy (.bool _)) (wpAny_truthy_bool ?_)) | wp_step)) fun _ _ e => e)))
    | wp_step)
theorem ne_K {Q : Value → Shared → Prop} {oy : Obj} {ody : Option Obj} (hu : A.units + 1 < cLine) (X : K.In s.heap) (I : PySem.W.InstAt s.heap x ox C od) (J : PySem.W.InstAt s.heap y oy C ody)
    (hn : PySem.W.findIn K (.ref C) "__ne__" = some (some (.builtin "object.__ne__"))) (hm : PySem.W.mroIn K C (.type "object") = some true) (hs : PySem.W.findIn K (.ref C) "__eq__" = some (some (.ref f))) (hf : PySem.W.isFn K (.ref f) = true)
    (h : wpAny (model prog w) A.in1 (call (.ref f) [.ref x, .ref y]) (fun v s' => ∃ r, v = .bool r ∧ Q (.bool (!r)) s') E s) : wpAny (model prog w) A (richCompare .NotEq (.ref x) (.ref y)) Q E s := by
  have sub : PySem.W.Looks (model prog w) s.heap (isInstance (.ref x) (.type "object")) true := I.type.andThen (PySem.W.looks_mroIn X hm)
  have one : wpAny (model prog w) A (tryCompare (.ref x) "__ne__" (.ref y)) (fun r s' => ∃ v, r = some v ∧ Q v s') E s := by
    unfold tryCompare
    refine wpAny_bind (ifBoundB_K X I hn PySem.F.cmp_object.ne.bind (wpAny_call (codeAny_call_builtin PySem.F.cmp_object.ne.plain PySem.F.cmpEntry_ne
      (@PySem.W.check_slot (model prog w) _ _ s "object.__ne__" "object" "__ne__" (.ref x) [.ref y] [] _ PySem.F.cmpKind_ne PySem.F.cmpSplit_ne sub (PySem.F.cmpArgs_ne _ _)
        (objNe_K (A := A.in1) X I hs hf (by show A.units + 1 < cLine; exact hu) (wpAny_mono h (fun v s' hv => ?_) fun _ _ e => e))))))
    obtain ⟨b, rfl, hq⟩ := hv
    first | exact ⟨b, rfl, wpAny_pure ⟨_, rfl, hq⟩⟩ | exact ⟨b, rfl, wpAny_pure (wpAny_pure ⟨_, rfl, hq⟩)⟩ | exact ⟨b, rfl, _, rfl, hq⟩
  unfold richCompare
  simp only [oneThing_ref]
  refine wpAny_holding (wpAny_bind (wpAny_cRoomFor (by omega) ?_))
  rw [cmpInfo_NotEq]
  dsimp only
  refine wpAny_bind (I.type.here (wpAny_bind (J.type.here ?_)))
  rw [show (Value.ref C != Value.ref C) = false from by simp]
  simp only [Bool.false_eq_true, if_false]
  refine wpAny_bind (wpAny_pure ?_)
  simp only [Bool.false_eq_true, if_false]
  refine wpAny_bind (wpAny_mono one (fun r s' z => ?_) fun _ _ e => e)
  obtain ⟨v, rfl, hq⟩ := z
  exact wpAny_pure hq
end
section
variable {X : Cx} {E : XK} {C : Addr} {k : Nat} {sp : SpD}
/-- one != other, both of the class -/
def neO (C : Addr) (sp : SpD) : DOp := fun x y m Q => (∃ fs gs, x = .v (.obj C fs) ∧ y = .v (.obj C gs)) ∧ liftO sp [x, y] m fun d => ∃ b, d = .bl b ∧ Q (.bl (!b))
theorem o_neO (G : GmS X.prog X.w X.K X.mg X.base k C "__eq__" sp) (hn : PySem.W.findIn X.K (.ref C) "__ne__" = some (some (.builtin "object.__ne__"))) (hm : PySem.W.mroIn X.K C (.type "object") = some true) (hr : Room (k + 1) X.A) : OpD X (compareOp .NotEq) (neO C sp) := by
  obtain ⟨f, fd, ps, at_, fn, hb, F⟩ := G.ex
  refine ⟨fun x y H Q => ∃ a b dx dy fs gs, x = .ref a ∧ y = .ref b ∧ H a = some (.ins C dx fs) ∧ H b = some (.ins C dy gs) ∧ lift X.K sp [x, y] H (fun v H' => ∃ r, v = .bl r ∧ Q (.bl (!r)) H') E0, ?_, ?_⟩
  · intro pins s σ H x y v u Q I rx ry ⟨a, b, dx, dy, fs, gs, e1, e2, ha, hb', h⟩
    subst e1 e2
    cases (show v = Value.ref a from rx)
    cases (show u = Value.ref b from ry)
    obtain ⟨oda, Ja⟩ := ins_at I ha
    obtain ⟨odb, Jb⟩ := ins_at I hb'
    show wpAny _ _ (richCompare .NotEq (.ref a) (.ref b)) _ _ _
    have hu : X.A.in1.units < cLine := (Room.in1 hr).units0
    refine ne_K hu I.kIn Ja Jb hn hm at_ fn (wpAny_mono (run_ownA (us := [.ref a, .ref b]) (vs := [.ref a, .ref b]) F (Room.in1 hr) I.env0.in1 hb I (.cons rfl (.cons rfl .nil)) h) (fun w s' z => ?_) fun _ _ z => z)
    obtain ⟨z, H', I', rz, r, rfl, q⟩ := z
    cases (show w = Value.bool r from rz)
    exact ⟨r, rfl, .bl (!r), H', I', rfl, q⟩
  · intro B μ m H x y v u Q QV M rx ry q kk
    obtain ⟨⟨fs, gs, rfl, rfl⟩, q⟩ := q
    cases (show Rv X.K B v (.obj C fs) from rx) with
    | obj ha rf => cases (show Rv X.K B u (.obj C gs) from ry) with
      | obj hb' rg =>
        refine ⟨_, _, _, _, _, _, rfl, rfl, M.le _ _ ha, M.le _ _ hb', liftO_ok M (.cons rx (.cons ry .nil)) q fun B' H' d z s M' rz qd => ?_⟩
        obtain ⟨b, rfl, qd⟩ := qd
        cases (show Rv X.K B' z (.bl b) from rz)
        exact ⟨b, rfl, kk B' H' _ _ s M' (.bl _) qd⟩
end
end Fs
set_option Elab.async false
set_option linter.all false
set_option maxRecDepth 100000
set_option maxHeartbeats 8000000
namespace Fs
open PySem PySem.Spec PyProof.Rows L2
theorem nz_get {l l1 : FT} (T : Tab l1 (nzT l)) (k : Str) : getF (lk l1) k = getF (lk l) k := by
  unfold getF
  have e : lk l1 k = (l.lookup k).bind nzF := T.eq k
  rw [e]
  show ((l.lookup k).bind nzF).getD (0, 1) = (l.lookup k).getD (0, 1)
  cases l.lookup k with
  | none => rfl
  | some p =>
    show (if p = (0, 1) then none else some p).getD (0, 1) = p
    by_cases c : p = (0, 1)
    · rw [if_pos c]
      exact c.symm
    · rw [if_neg c]
      rfl
theorem nz_some {l : FT} {k : Str} {p : Int × Int} (h : nzT l k = some p) : l.lookup k = some p := by
  have h : (l.lookup k).bind nzF = some p := h
  cases e : l.lookup k with
  | none => rw [e] at h; cases h
  | some v =>
    rw [e] at h
    have h : (if v = (0, 1) then none else some v) = some p := h
    split at h
    · cases h
    · exact h
theorem OkT.nz {l l1 : FT} (o : OkT l) (T : Tab l1 (nzT l)) : OkT l1 := ⟨T.nd, fun k p h => o.low k p (nz_some ((T.eq k).symm.trans h)), fun k p h => o.sm k p (nz_some ((T.eq k).symm.trans h))⟩
theorem nz_len {l l1 : FT} (T : Tab l1 (nzT l)) : l1.length ≤ l.length := by
  have z := len_sub (ys := keyF l1) (zs := keyF l) T.nd fun x hx => by
    obtain ⟨v, hv⟩ := Option.isSome_iff_exists.mp (look_mem.mpr hx)
    exact look_mem.mp (by rw [nz_some ((T.eq x).symm.trans hv)]; rfl)
  unfold keyF at z
  rw [List.length_map, List.length_map] at z
  exact z
theorem tiny_small {p : Int × Int} (h : tinyF p) : smallF p := ⟨Nat.lt_of_le_of_lt h.1 (by decide), Nat.lt_of_le_of_lt h.2 (by decide)⟩
theorem DrT.ok {ns : List Str} {l : FT} (d : DrT ns l) : OkT l := ⟨d.nd, fun _ _ h => (d.low _ (look_inK h)).1, fun _ _ h => tiny_small (d.low _ (look_inK h)).2⟩
theorem DrT.len {ns : List Str} {l : FT} (d : DrT ns l) : l.length ≤ ns.length := by
  have z := len_sub d.nd d.sub
  unfold keyF at z
  rw [List.length_map] at z
  exact z
theorem DrT.tiny {ns : List Str} {l : FT} (d : DrT ns l) (k : Str) : tinyF (getF (lk l) k) := by
  unfold getF
  show tinyF ((l.lookup k).getD (0, 1))
  cases e : l.lookup k with
  | none => exact ⟨by decide, by decide⟩
  | some p => exact (d.low _ (look_inK e)).2
theorem times_small {p q : Int × Int} (hp : LowF p) (hq : LowF q) (tp : tinyF p) (tq : tinyF q) : smallF (timesI p q) := by
  have pos : 0 < p.2 * q.2 := Int.mul_pos hp.1 hq.1
  obtain ⟨k, hk, k0, kg, kt, kb⟩ := lowI_low (t := p.1 * q.1) pos
  have b : (10 : Nat) ^ 12 * 10 ^ 12 < 10 ^ 40 := by decide
  have z1 : (p.1 * q.1).natAbs ≤ 10 ^ 12 * 10 ^ 12 := by rw [Int.natAbs_mul]; exact Nat.mul_le_mul tp.1 tq.1
  have z2 : (p.2 * q.2).natAbs ≤ 10 ^ 12 * 10 ^ 12 := by rw [Int.natAbs_mul]; exact Nat.mul_le_mul tp.2 tq.2
  have e2 : (k : Int).natAbs = k := Int.natAbs_natCast k
  refine ⟨Nat.lt_of_le_of_lt (Nat.le_trans kt z1) b, ?_⟩
  show (lowI (p.1 * q.1) (p.2 * q.2)).2.natAbs < 10 ^ 40
  rw [hk]
  exact Nat.lt_of_le_of_lt (Nat.le_trans (by omega) z2) b
theorem low_m1 : LowF (-1, 1) := ⟨by decide, by decide⟩
theorem low_11 : LowF (1, 1) := ⟨by decide, by decide⟩
theorem tiny_m1 : tinyF (-1, 1) := ⟨by decide, by decide⟩
theorem tiny_11 : tinyF (1, 1) := ⟨by decide, by decide⟩
/-- one + other -/
theorem add_eq {l r l1 r1 : FT} (or : OkT r) (a : Tab l1 (nzT l)) (b : Tab r1 (nzT r)) (k : Str) : nzF (plusI (getF (lk l1) k) (getF (lk r1) k)) = nzF (addI l r (1, 1) k) := by
  unfold addI
  rw [nz_get a, nz_get b, times_one (or.get k).1]
theorem sub_eq {l r l1 r1 : FT} (or : OkT r) (a : Tab l1 (nzT l)) (b : Tab r1 (nzT r)) (k : Str) : nzF (minusI (getF (lk l1) k) (getF (lk r1) k)) = nzF (addI l r (-1, 1) k) := by
  unfold addI
  rw [nz_get a, nz_get b, plus_neg (or.get k).1]
theorem nzF_0 : nzF (0, 1) = none := if_pos rfl
theorem mul_get {l1 u : FT} {p : Int × Int} (hp : LowF p) (T : Tab u (fun k => (lk l1 k).bind fun v => nzF (timesI v p))) (k : Str) : getF (lk u) k = timesI (getF (lk l1) k) p := by
  unfold getF
  have e : lk u k = (lk l1 k).bind fun v => nzF (timesI v p) := T.eq k
  rw [e]
  cases lk l1 k with
  | none => exact (times_zero hp).symm
  | some v =>
    show (nzF (timesI v p)).getD (0, 1) = timesI v p
    unfold nzF
    by_cases c : timesI v p = (0, 1)
    · rw [if_pos c]
      exact c.symm
    · rw [if_neg c]
      rfl
theorem mul_eq {l l1 : FT} {p : Int × Int} (ol : OkT l) (hp : LowF p) (a : Tab l1 (nzT l)) (k : Str) : ((lk l1 k).bind fun v => nzF (timesI v p)) = nzF (addI [] l p k) := by
  unfold addI
  have e0 : getF (lk []) k = (0, 1) := rfl
  have hl : LowF (timesI (getF (lk l) k) p) := lowI_LowF (Int.mul_pos (ol.get k).1.1 hp.1)
  rw [e0, plus_zero hl, ← nz_get a k]
  unfold getF
  cases lk l1 k with
  | none =>
    show none = nzF (timesI (0, 1) p)
    rw [times_zero hp, nzF_0]
  | some v => rfl
theorem self_eq {l1 u : FT} (o1 : OkT l1) (T : Tab u (fun k => (lk l1 k).bind fun v => nzF (timesI v (-1, 1)))) (k : Str) : nzF (plusI (getF (lk l1) k) (getF (lk u) k)) = none := by
  rw [mul_get low_m1 T, plus_self (o1.get k).1, nzF_0]
theorem OkT.mulN {l1 u : FT} (o1 : OkT l1) (T : Tab u (fun k => (lk l1 k).bind fun v => nzF (timesI v (-1, 1)))) : OkT u := by
  have z : ∀ k p, u.lookup k = some p → ∃ v, l1.lookup k = some v ∧ p = (-v.1, v.2) := fun k p h => by
    have e : (lk l1 k).bind (fun v => nzF (timesI v (-1, 1))) = some p := (T.eq k).symm.trans h
    cases c : lk l1 k with
    | none => rw [c] at e; cases e
    | some v =>
      rw [c] at e
      have e : (if timesI v (-1, 1) = (0, 1) then none else some (timesI v (-1, 1))) = some p := e
      split at e
      · cases e
      · cases e
        exact ⟨v, c, times_neg (o1.low k v c)⟩
  refine ⟨T.nd, fun k p h => ?_, fun k p h => ?_⟩
  · obtain ⟨v, hv, rfl⟩ := z k p h
    exact low_neg (o1.low k v hv)
  · obtain ⟨v, hv, rfl⟩ := z k p h
    obtain ⟨s1, s2⟩ := o1.sm k v hv
    exact ⟨by show (-v.1).natAbs < _; rw [Int.natAbs_neg]; exact s1, s2⟩
theorem mul_len {l1 u : FT} {p : Int × Int} (T : Tab u (fun k => (lk l1 k).bind fun v => nzF (timesI v p))) : u.length ≤ l1.length := by
  have z := len_sub (ys := keyF u) (zs := keyF l1) T.nd fun x hx => by
    obtain ⟨v, hv⟩ := Option.isSome_iff_exists.mp (look_mem.mpr hx)
    refine look_mem.mp ?_
    have e : (lk l1 x).bind (fun v => nzF (timesI v p)) = some v := (T.eq x).symm.trans hv
    show (lk l1 x).isSome = true
    cases c : lk l1 x with
    | none => rw [c] at e; cases e
    | some v => rfl
  unfold keyF at z
  rw [List.length_map, List.length_map] at z
  exact z
theorem tab_nil : Tab [] (fun _ => none) := ⟨List.Pairwise.nil, List.nodup_nil, fun _ => rfl⟩
theorem tab_one {x : Str} {p : Int × Int} (h : p ≠ (0, 1)) : Tab [(x, p)] (nzT [(x, p)]) := by
  refine ⟨List.pairwise_singleton _ _, by simp [keyF], fun k => ?_⟩
  unfold nzT
  rw [List.lookup_cons]
  by_cases c : k = x
  · subst c
    simp [nzF, h]
  · have e : (k == x) = false := by simpa using c
    rw [e]
    rfl
theorem fit_frD (n : Nat) (p : Int × Int) : fitD (n + 2) (frD p) := fit_tup (by show 2 < 2 ^ 20; decide) fun d hd => by
  simp only [List.mem_cons, List.not_mem_nil, or_false] at hd
  rcases hd with rfl | rfl <;> rfl
theorem fit_kvF (n : Nat) {l : FT} (nd : (keyF l).Nodup) (hl : l.length < 64) : fitD (n + 3) (.dic (kvF l)) := ⟨l, rfl, nd, hl, fun p _ => fit_frD n p.2⟩
theorem add_len {t l r : FT} {p : Int × Int} (hp : LowF p) (T : Tab t (fun k => nzF (addI l r p k))) : t.length ≤ l.length + r.length := by
  have z := len_sub (ys := keyF t) (zs := keyF l ++ keyF r) T.nd fun x hx => by
    obtain ⟨v, hv⟩ := Option.isSome_iff_exists.mp (look_mem.mpr hx)
    have e : nzF (addI l r p x) = some v := (T.eq x).symm.trans hv
    by_cases c1 : x ∈ keyF l
    · exact List.mem_append.mpr (.inl c1)
    · by_cases c2 : x ∈ keyF r
      · exact List.mem_append.mpr (.inr c2)
      · rw [addI_out hp c1 c2, nzF_0] at e
        cases e
  unfold keyF at z
  rw [List.length_append, List.length_map, List.length_map, List.length_map] at z
  exact z
theorem nz_idem {l l1 : FT} (T : Tab l1 (nzT l)) (k : Str) : nzT l1 k = nzT l k := by
  show (l1.lookup k).bind nzF = nzT l k
  rw [T.eq k]
  cases e : nzT l k with
  | none => rfl
  | some p =>
    show (if p = (0, 1) then none else some p) = some p
    refine if_neg fun z => ?_
    subst z
    have e : (l.lookup k).bind nzF = some (0, 1) := e
    cases c : l.lookup k with
    | none => rw [c] at e; cases e
    | some v =>
      rw [c] at e
      have e : (if v = (0, 1) then none else some v) = some (0, 1) := e
      split at e
      · cases e
      · rename_i h
        exact h (Option.some.inj e)
theorem lineT_facts : ∀ n : Nat, n < 64 → (((n : Int).natAbs.log2 < 1920 ∧ ("Line(" : Str).length + (Str.ofString (toString (n : Int))).length ≤ sizeLine) ∧ ("Line(" ++ Str.ofString (toString (n : Int)) : Str).length + (" parts)" : Str).length ≤ sizeLine ∧ (!(lineT n == ("Line(" ++ Str.ofString (toString (n : Int)) : Str) ++ " parts)")) = false) := by decide +kernel
end Fs
set_option Elab.async false
set_option linter.all false
set_option maxRecDepth 100000
set_option maxHeartbeats 8000000
namespace Fs
open PySem PySem.Spec PyProof.Rows L2
def sPar3 (i j l : Nat) (ta : DTA) : DTS := fun en m N => ta en m (fun xs m1 => match xs with
  | [x, y, z] => N.nx (List.set (List.set (List.set en i (some x)) j (some y)) l (some z)) m1
  | _ => False) N.xc
section
variable {X : Cx} {E : XK}
theorem ds_par3 {i j l : Nat} {x y z : Str} {a b c : Expr} {ta : DTA} {px py pz pt pos : Pos} {kt k2 pt2} (hc : X.calm = true) (hN : X.N.Nodup) (hi : X.N[i]? = some x) (hj : X.N[j]? = some y) (hl : X.N[l]? = some z) (hij : i ≠ j) (hil : i ≠ l) (hjl : j ≠ l)
    (hx : X.env.scope.names.lookup x = some .local) (hy : X.env.scope.names.lookup y = some .local) (hz : X.env.scope.names.lookup z = some .local) (ha : DA X E [a, b, c] ta)
    (hw : swappedStores [.Tuple [.Name x px, .Name y py, .Name z pz] kt pt] (.Tuple [a, b, c] k2 pt2) X.env = pure (some [x, y, z]))
    (hs : swapsWithSole [.Tuple [.Name x px, .Name y py, .Name z pz] kt pt] (.Tuple [a, b, c] k2 pt2) pos.line X.env = pure false := by rfl) :
    DS X E (.Assign [.Tuple [.Name x px, .Name y py, .Name z pz] kt pt] (.Tuple [a, b, c] k2 pt2) pos) (sPar3 i j l ta) := by
  obtain ⟨t1, p1, k1⟩ := ha.ex
  refine ⟨_, ps_par3 hc hN hi hj hl hij hil hjl hx hy hz p1 hw hs, fun B μ en m σ H N D R hx T e => ?_⟩
  refine k1 B μ en m σ H _ _ _ R hx T fun B1 μ1 m1 H1 xs vs s1 R1 r q => ?_
  cases r with
  | nil => exact q.elim
  | cons a r =>
    cases r with
    | nil => exact q.elim
    | cons b r =>
      cases r with
      | nil => exact q.elim
      | cons c r =>
        cases r with
        | nil => exact ⟨_, _, _, rfl, e.nx B1 μ1 _ m1 _ H1 s1 (((R1.set a).set b).set c) q⟩
        | cons _ _ => exact q.elim
end
/-- what becomes of an own dict that is made data at once -/
def fzK (Q : W → Me → Prop) (x : W) (m1 : Me) : Prop := tDfz (fun _ _ Q _ => Q x m1) [] [] Q noX
def tDfzK (te : DTE) : DTE := fun en m Q Qx => te en m (fzK Q) Qx
theorem tDfz_eq : tDfz = tDfzK := rfl
theorem fzK_last {m : Me} {X : List (Key × D)} {Q : W → Me → Prop} (h : Q (.v (.dic X)) (m ++ [.gone])) : fzK Q (.loc m.length) (m ++ [.dic X]) := by
  have g : (m ++ [MO.dic X])[m.length]? = some (.dic X) := by simp
  unfold fzK tDfz
  show (match (m ++ [MO.dic X])[m.length]? with | some (.dic kvs) => Q (.v (.dic kvs)) ((m ++ [MO.dic X]).set m.length .gone) | _ => False)
  rw [g, set_last1]
  exact h
theorem look_mid {m more : Me} {X : List (Key × D)} {P : D → Prop} (h : P (.dic X)) : look (.loc m.length) ((m ++ [.dic X]) ++ more) P := by
  have g : ((m ++ [MO.dic X]) ++ more)[m.length]? = some (.dic X) := by simp
  show lookO ((m ++ [MO.dic X]) ++ more)[m.length]? P
  rw [g]
  exact h
theorem dicAt_mid {m more : Me} {X : List (Key × D)} {Q : List (Key × D) → Prop} (h : Q X) : dicAt ((m ++ [.dic X]) ++ more) m.length Q := by
  have g : ((m ++ [MO.dic X]) ++ more)[m.length]? = some (.dic X) := by simp
  unfold dicAt
  rw [g]
  exact h
theorem sbs_other {n k : Nat} {d : D} (h : k ≠ n) : sbs n d (some (.loc k)) = some (.loc k) := by
  unfold sbs
  simp [h]
theorem sbs_none {n : Nat} {d : D} : sbs n d none = none := rfl
theorem sbs_v {n : Nat} {d x : D} : sbs n d (some (.v x)) = some (.v x) := rfl
end Fs
set_option Elab.async false
set_option linter.all false
set_option maxRecDepth 100000
set_option maxHeartbeats 8000000
namespace Fs
open PySem PySem.Spec PyProof.Rows L2
def tMkw (C : Addr) (mn : Str) (n : Nat) (sp : Sp) (E : XK) (ta : TE) (tk : TA) : TE := fun σ H Q => ta σ H fun x H1 => ∃ a dx fs, x = .ref a ∧ H1 a = some (.ins C dx fs) ∧ fs.lookup mn = none ∧ tk σ H1 fun zs H2 => zs.length = n ∧ sp (.ref a :: zs) H2 Q E
section
variable {X : Cx} {E : XK} {C : Addr} {k : Nat}
theorem pe_mthK {mn : Str} {sp : Sp} {o : Expr} {ta : TE} {tk : TA} {apos pos : Pos} {pl : Sem Bool} {f : Addr} {fd : FuncData} {ps ks : List Str} {kws : List Keyword} {g : List Value → List Value → List Value} (he : PE X o ta) (c : Cls X.K C) (hm : Meth X.K C mn f)
    (F : FnOk X.prog X.w X.K X.mg X.base (L2.CX X.prog X.w) k f fd ps sp) (hr : Room k X.A) (hb : KBn X.K fd ps 1 ks g (fun vs zs => vs ++ zs)) (hx : Passes (L2.CX X.prog X.w) X E) (hkw : PK X kws tk)
    (hall : (backToKw pos (keywordEach kws X.env)).all (·.1.isSome) = true := by rfl) (hks : (backToKw pos (keywordEach kws X.env)).filterMap (·.1) = ks := by rfl)
    (hpl : ((backTo pos (starEach [] X.env)).any (·.1) || (backToKw pos (keywordEach kws X.env)).any (·.1.isNone)) = false := by rfl)
    (hv : eval (.Call (.Attribute o mn apos) [] kws pos) X.env = (do
      let vo ← eval o X.env
      standAt apos.atName
      let (fv, fs) ← holding [vo] (getMethod vo mn pl)
      callWith pos fv fs (backTo pos (starEach [] X.env)) (backToKw pos (keywordEach kws X.env))) := by rfl) : PE X (.Call (.Attribute o mn apos) [] kws pos) (tMkw C mn ks.length sp E ta tk) := by
  refine ⟨fun pins s σ H Q I h => ?_⟩
  refine PySem.W.methodCall_KW (pl := pl) (thn (he.run pins s σ H _ I h) ?_) hv
  rintro u s1 ⟨x, H1, I1, rx, a, dx, fs, ex, ea, l, q⟩
  subst ex
  cases (show u = Value.ref a from rx)
  refine getmeth_ok I1 ea c hm l ?_
  refine PySem.W.callWith_KW0 (first := [Value.ref a]) (h₀ := X.base) I.ok.mod.kin hm.kp hall ?_ hpl
  refine thn (hkw.run pos pins s1 σ H1 _ I1 q) ?_
  rintro ws s2 ⟨zs, H2, I2, rz, l2, q2⟩
  refine ⟨I2.kIn, ?_⟩
  rw [hks]
  exact run_fnN (n := 1) (us := [Value.ref a]) (vs := [V.ref a]) F hr hb hx I2 (.cons rfl .nil) rz rfl l2 q2
/-- the method m of the class at C, one keyword -/
structure GmMk (P : Program) (w : World) (K : Frag) (mg : Str → Option Value) (base : Heap) (k : Nat) (C : Addr) (m : Str) (ks : List Str) (sp : SpD) : Prop where
  cls : Cls K C
  ex : ∃ f fd ps g, Meth K C m f ∧ KBn K fd ps 1 ks g (fun vs zs => vs ++ zs) ∧ FnOk P w K mg base (L2.CX P w) k f fd ps (lift K sp)
def tMthK (C : Addr) (mn : Str) (n : Nat) (sp : SpD) (to : DTE) (tk : DTA) : DTE := fun en m Q Qx => to en m (fun x m1 => ∃ fs, x = .v (.obj C fs) ∧ fs.lookup mn = none ∧ tk en m1 (fun zs m2 => zs.length = n ∧ sp (x :: zs) m2 Q Qx) Qx) Qx
theorem d_mthK {mn : Str} {sp : SpD} {ks : List Str} {o : Expr} {kws : List Keyword} {to : DTE} {tk : DTA} {apos pos : Pos} {pl : Sem Bool} (G : GmMk X.prog X.w X.K X.mg X.base k C mn ks sp) (hr : Room k X.A) (hx : Passes (L2.CX X.prog X.w) X E) (ho : DE X E o to) (hkw : DK X E kws tk)
    (hall : (backToKw pos (keywordEach kws X.env)).all (·.1.isSome) = true := by rfl) (hks : (backToKw pos (keywordEach kws X.env)).filterMap (·.1) = ks := by rfl)
    (hpl : ((backTo pos (starEach [] X.env)).any (·.1) || (backToKw pos (keywordEach kws X.env)).any (·.1.isNone)) = false := by rfl)
    (hv : eval (.Call (.Attribute o mn apos) [] kws pos) X.env = (do
      let vo ← eval o X.env
      standAt apos.atName
      let (fv, fs) ← holding [vo] (getMethod vo mn pl)
      callWith pos fv fs (backTo pos (starEach [] X.env)) (backToKw pos (keywordEach kws X.env))) := by rfl) : DE X E (.Call (.Attribute o mn apos) [] kws pos) (tMthK C mn ks.length sp to tk) := by
  obtain ⟨t1, p1, k1⟩ := ho.ex
  obtain ⟨t2, p2, k2⟩ := hkw.ex
  obtain ⟨f, fd, ps, g, hm, hb, F⟩ := G.ex
  refine ⟨_, pe_mthK p1 G.cls hm F hr hb hx p2 hall hks hpl hv, fun B μ en m σ H Q Qx QV R hx' T kk => ?_⟩
  refine k1 B μ en m σ H _ Qx _ R hx' T fun B1 μ1 m1 H1 y v s1 R1 r q => ?_
  obtain ⟨fs, rfl, nl, q⟩ := q
  cases (show Rv X.K B1 v (.obj C fs) from r) with
  | obj hv' rf =>
    refine ⟨_, _, _, rfl, R1.mem.le _ _ hv', rf.look_none nl, ?_⟩
    refine k2 B1 μ1 en m1 σ H1 _ Qx _ R1 (hx'.step s1 R1.mem R.mem.le) q fun B2 μ2 m2 H2 zs us s2 R2 r2 q2 => ?_
    have s12 := s1.trans R1.mem s2 R.mem.le
    refine ⟨by rw [r2.len]; exact q2.1, B2, μ2, m2, _, _, Qx, R2.mem, .cons (r.to s2.same s2.pre) r2, q2.2, hx'.step s12 R2.mem R.mem.le, fun B3 μ3 m3 H3 z u s3 M3 rz qz => ?_⟩
    have st := s12.trans R2.mem s3 R.mem.le
    exact kk B3 μ3 m3 H3 z u st (R.stp st M3) rz qz
def rNeK (K : Frag) : R2 := fun x y H Q => ∃ (a b : Addr) (ks ls : List (Key × V)) (dks dls : List (Key × D)) (B : Hp), x = .ref a ∧ y = .ref b ∧ Rd H a (.dK ks) ∧ Rd H b (.dK ls) ∧ Le B H ∧ RvK K B ks dks ∧ RvK K B ls dls ∧ okVs dks ∧ okVs dls ∧ Q (.bl (!(dks.length == dls.length && eqHits dls dks))) H
theorem op_neK (hu : X.A.units + 65 < cLine) : OpR X (compareOp .NotEq) (rNeK X.K) := by
  intro pins s σ H x y v u Q I rx ry ⟨a, b, ks, ls, dks, dls, B, e1, e2, ha, hb, le, rk, rl, ok, ol, q⟩
  subst e1 e2
  cases (show v = Value.ref a from rx)
  cases (show u = Value.ref b from ry)
  obtain ⟨_, ya, va, ra, da⟩ := dk_rd I.hok ha
  obtain ⟨_, yb, vb, rb, db⟩ := dk_rd I.hok hb
  refine PySem.W.keq_ne (knd := mixKind X.prog X.w) ya yb da db (by omega) (fun _ => dic_hits I le hu rl rb ol rk ra ok) ?_
  have l1 : va.length = dks.length := by rw [← ra.length, rk.len]
  have l2 : vb.length = dls.length := by rw [← rb.length, rl.len]
  rw [l1, l2]
  exact ⟨.bl _, H, I, rfl, q⟩
def neKD : F2 := fun x y Q => dicD x fun a => dicD y fun b => okVs a ∧ okVs b ∧ Q (.bl (!(a.length == b.length && eqHits b a)))
theorem o_neK (hu : X.A.units + 65 < cLine) : OpD X (compareOp .NotEq) (oL neKD) := ⟨_, op_neK hu, SO.of fun B μ m H v u dx dy Q QV M tx ty q k => by
  obtain ⟨a, ks, dks, rfl, ha, rk, q⟩ := dicD_ok tx q
  obtain ⟨b, ls, dls, rfl, hb, rl, ok, ol, q⟩ := dicD_ok ty q
  exact ⟨a, b, ks, ls, dks, dls, B, rfl, rfl, ha, hb, M.le, rk, rl, ok, ol, SO.pure M k (.bl _) q⟩⟩
end
end Fs
set_option Elab.async false
set_option linter.all false
set_option maxRecDepth 100000
set_option maxHeartbeats 8000000
namespace Fs
open PySem PySem.Spec PyProof.Rows L2
def RWps (K : Frag) (B : Hp) (μ : List Addr) : List (V × V) → List (W × W) → Prop
  | [], [] => True
  | p :: ps, z :: zs => (RW K B μ p.1 z.1 ∧ RW K B μ p.2 z.2) ∧ RWps K B μ ps zs
  | _, _ => False
theorem RWps.to {K : Frag} {B B' : Hp} {μ μ' : List Addr} (s : Same B B') (p : μ <+: μ') : ∀ {ps : List (V × V)} {zs : List (W × W)}, RWps K B μ ps zs → RWps K B' μ' ps zs
  | [], [], _ => trivial
  | _ :: _, _ :: _, h => ⟨⟨RW.to s p h.1.1, RW.to s p h.1.2⟩, RWps.to s p h.2⟩
  | [], _ :: _, h => h
  | _ :: _, [], h => h
abbrev DTP := En → Me → (List (W × W) → Me → Prop) → QX → Prop
def tP0 : DTP := fun _ m Q _ => Q [] m
def tPc (tk tv : DTE) (tr : DTP) : DTP := fun en m Q Qx => tk en m (fun y m1 => tv en m1 (fun z m2 => tr en m2 (fun zs m3 => Q ((y, z) :: zs) m3) Qx) Qx) Qx
def keysW : List (W × W) → (List (Key × D) → Prop) → Prop
  | [], Q => Q []
  | (y, z) :: r, Q => oD y fun dy => keyD dy fun k => oD z fun dz => keysW r fun ks => Q ((k, dz) :: ks)
def mergeD (acc more : List (Key × D)) : List (Key × D) := more.foldl (fun acc kv => putD' acc kv.1 kv.2) acc
def tDsN (tp : DTP) : DTE := fun en m Q Qx => tp en m (fun zs m1 => keysW zs fun kds => Q (.v (.dic (mergeD [] kds))) m1) Qx
section
variable {X : Cx} {E : XK}
structure DPs (X : Cx) (E : XK) (pos : Pos) (keys : List (Option Expr)) (values : List Expr) (T : DTP) : Prop where
  ex : ∃ trs, PPs X pos keys values trs ∧ trs.length = keys.length ∧ ∀ B μ en m σ H (Q : List (W × W) → Me → Prop) (Qx : QX) (QV : List (V × V) → Hp → Prop), Rel X.K B μ en m σ H → ExOf X.K E B μ m H Qx → T en m Q Qx →
    (∀ B' μ' m' H' zs ps, Stp B μ m H B' μ' m' H' → Rel X.K B' μ' en m' σ H' → RWps X.K B' μ' ps zs → ps.length = keys.length → Q zs m' → QV ps H') → tPairs trs σ H QV
theorem dps_nil {pos : Pos} : DPs X E pos [] [] tP0 := ⟨[], pps_nil, rfl, fun B μ en m σ H Q Qx QV R hx T k => k B μ m H [] [] .refl R trivial rfl T⟩
theorem dps_cs {pos : Pos} {kx vx : Expr} {ks : List (Option Expr)} {vs : List Expr} {tk tv : DTE} {tr : DTP} (hk : DE X E kx tk) (hv : DE X E vx tv) (hr : DPs X E pos ks vs tr) : DPs X E pos (some kx :: ks) (vx :: vs) (tPc tk tv tr) := by
  obtain ⟨t1, p1, k1⟩ := hk.ex
  obtain ⟨t2, p2, k2⟩ := hv.ex
  obtain ⟨trs, p3, l3, k3⟩ := hr.ex
  refine ⟨(t1, t2) :: trs, pps_cons p1 p2 p3, by rw [List.length_cons, List.length_cons, l3], fun B μ en m σ H Q Qx QV R hx T k => ?_⟩
  refine k1 B μ en m σ H _ Qx _ R hx T fun B1 μ1 m1 H1 y v s1 R1 r1 T1 => ?_
  refine k2 B1 μ1 en m1 σ H1 _ Qx _ R1 (hx.step s1 R1.mem R.mem.le) T1 fun B2 μ2 m2 H2 z u s2 R2 r2 T2 => ?_
  have s12 := s1.trans R1.mem s2 R.mem.le
  refine k3 B2 μ2 en m2 σ H2 _ Qx _ R2 (hx.step s12 R2.mem R.mem.le) T2 fun B3 μ3 m3 H3 zs ps s3 R3 r3 l3 q => ?_
  exact k B3 μ3 m3 H3 ((y, z) :: zs) ((v, u) :: ps) (s12.trans R2.mem s3 R.mem.le) R3 ⟨⟨(r1.to s2.same s2.pre).to s3.same s3.pre, r2.to s3.same s3.pre⟩, r3⟩ (by rw [List.length_cons, List.length_cons, l3]) q
theorem keysW_ok {K : Frag} {B H : Hp} {μ : List Addr} (le : Le B H) : ∀ {ps : List (V × V)} {zs : List (W × W)} {Q : List (Key × D) → Prop}, RWps K B μ ps zs → keysW zs Q → ∃ (kvs : List (Key × V)) (kds : List (Key × D)), ps = kvs.map (fun kv => (kV kv.1, kv.2)) ∧ RvK K B kvs kds ∧ Q kds
  | [], [], Q, _, q => ⟨[], [], rfl, .nil, q⟩
  | (v, u) :: ps, (y, z) :: zs, Q, r, q => by
    obtain ⟨⟨r1, r2⟩, r3⟩ := r
    cases y with
    | loc n => exact q.elim
    | v dy =>
      have r1 : Rv K B v dy := r1
      obtain ⟨kk, rfl, ko, q⟩ := keyD_ok (r1.top (H := H) le) q
      cases z with
      | loc n => exact q.elim
      | v dz =>
        obtain ⟨kvs, kds, rfl, rk, q⟩ := keysW_ok le (Q := fun ks => Q ((kk, dz) :: ks)) r3 q
        exact ⟨(kk, u) :: kvs, (kk, dz) :: kds, rfl, .cons ko r2 rk, q⟩
  | [], _ :: _, _, r, _ => r.elim
  | _ :: _, [], _, r, _ => r.elim
theorem RvK.merge {K : Frag} {B : Hp} : ∀ {more : List (Key × V)} {md : List (Key × D)} {kvs : List (Key × V)} {ds : List (Key × D)}, RvK K B more md → RvK K B kvs ds → RvK K B (mergeK kvs more) (mergeD ds md)
  | _, _, _, _, .nil, r => r
  | (k, v) :: vs, (_, d) :: ds', kvs, ds, .cons ko h t, r => by
    show RvK K B (mergeK (putK kvs k v) vs) (mergeD (putD' ds k d) ds')
    exact RvK.merge t (r.put ko h)
theorem d_dsN {pos : Pos} {keys : List (Option Expr)} {values : List Expr} {tp : DTP} (h : DPs X E pos keys values tp) (hall : keys.all (·.isSome) = true := by rfl) (hl : keys.length = values.length := by rfl) (h0 : keys ≠ [] := by simp) (h15 : keys.length ≤ 15 := by decide) : DE X E (.Dict keys values pos) (tDsN tp) := by
  obtain ⟨trs, p3, l3, k3⟩ := h.ex
  refine ⟨_, pe_frz (pe_disp p3 hall hl h0 h15), fun B μ en m σ H Q Qx QV R hx T k => ?_⟩
  intro L nL
  obtain ⟨nb, nl⟩ := R.mem.none nL
  have kp : ∀ b o, b ≠ L → H b = some o → upd H L (.dK []) b = some o := fun b o c e => by rw [upd_ne c]; exact e
  have s0 : Stp B μ m H B μ m (upd H L (.dK [])) := Stp.refl.touch nL kp
  have M0 := R.mem.touch nb nl kp
  have dk : ∀ {vs : List (Key × V)}, (∀ q, HO.dK vs ≠ LamX.CodeO L q) ∧ ∀ ps, HO.dK vs ≠ .tbl ps := fun {vs} => ⟨(fun _ z => nomatch z), (fun _ z => nomatch z)⟩
  refine k3 B μ en m σ _ _ Qx _ (R.stp s0 M0) (hx.step s0 M0 R.mem.le) T fun B1 μ1 m1 H1 zs ps s1 R1 r1 l1 T1 => ?_
  have s01 := s0.trans M0 s1 R.mem.le
  obtain ⟨nb1, nl1⟩ := s1.hid L _ nl upd_same dk nb
  have hL1 := s1.out L _ nl upd_same dk.2
  obtain ⟨kvs, kds, rfl, rk, q⟩ := keysW_ok R1.mem.le r1 T1
  refine ⟨hL1, kvs, rfl, by rw [List.length_map] at l1; omega, L, _, rfl, upd_same, fun od => ?_⟩
  rw [upd_upd]
  obtain ⟨st, M3, same⟩ := frz_laid (od := od) (vs := mergeK [] kvs) R.mem nL s01 R1.mem nb1 nl1
  exact k _ μ1 m1 _ (.v (.dic (mergeD [] kds))) _ st (R.stp st M3) (RW.d (.dic upd_same (RvK.merge (rk.to same) .nil))) q
end
end Fs
set_option Elab.async false
set_option linter.all false
set_option maxRecDepth 100000
set_option maxHeartbeats 8000000
namespace Fs
open PySem PySem.Spec PyProof.Rows L2
theorem lowI_sz {t b : Int} {e : Nat} (hb : 0 < b) (h1 : t.natAbs < 2 ^ e) (h2 : b.natAbs < 2 ^ e) : szF e (lowI t b) := by
  obtain ⟨k, hk, k0, kg, kt, kb⟩ := lowI_low (t := t) hb
  refine ⟨Nat.lt_of_le_of_lt kt h1, ?_⟩
  rw [hk]
  exact Nat.lt_of_le_of_lt (by rw [Int.natAbs_natCast]; exact kb) h2
theorem plus_sz {p q : Int × Int} {a b : Nat} (hp : 0 < p.2) (hq : 0 < q.2) (sp : szF a p) (sq : szF b q) : szF (a + b + 1) (plusI p q) := by
  have z1 := mul_pow2 sp.1 sq.2
  have z2 := mul_pow2 sq.1 sp.2
  have z3 := mul_pow2 sp.2 sq.2
  rw [Nat.add_comm b a] at z2
  have e : 2 ^ (a + b + 1) = 2 ^ (a + b) * 2 := Nat.pow_succ ..
  unfold plusI
  refine lowI_sz (Int.mul_pos hp hq) ?_ ?_
  · rw [e]
    generalize 2 ^ (a + b) = T at *
    omega
  · rw [e]
    generalize 2 ^ (a + b) = T at *
    omega
theorem minus_sz {p q : Int × Int} {a b : Nat} (hp : 0 < p.2) (hq : 0 < q.2) (sp : szF a p) (sq : szF b q) : szF (a + b + 1) (minusI p q) := by
  have z1 := mul_pow2 sp.1 sq.2
  have z2 := mul_pow2 sq.1 sp.2
  have z3 := mul_pow2 sp.2 sq.2
  rw [Nat.add_comm b a] at z2
  have e : 2 ^ (a + b + 1) = 2 ^ (a + b) * 2 := Nat.pow_succ ..
  unfold minusI
  refine lowI_sz (Int.mul_pos hp hq) ?_ ?_
  · rw [e]
    generalize 2 ^ (a + b) = T at *
    omega
  · rw [e]
    generalize 2 ^ (a + b) = T at *
    omega
theorem times_sz {p q : Int × Int} {a b : Nat} (hp : 0 < p.2) (hq : 0 < q.2) (sp : szF a p) (sq : szF b q) : szF (a + b) (timesI p q) := lowI_sz (Int.mul_pos hp hq) (mul_pow2 sp.1 sq.1) (mul_pow2 sp.2 sq.2)
theorem plus_low {p q : Int × Int} (hp : 0 < p.2) (hq : 0 < q.2) : LowF (plusI p q) := lowI_LowF (Int.mul_pos hp hq)
theorem minus_low {p q : Int × Int} (hp : 0 < p.2) (hq : 0 < q.2) : LowF (minusI p q) := lowI_LowF (Int.mul_pos hp hq)
theorem times_low {p q : Int × Int} (hp : 0 < p.2) (hq : 0 < q.2) : LowF (timesI p q) := lowI_LowF (Int.mul_pos hp hq)
/-! ### rationals -/
def qF (p : Int × Int) : Rat := Rat.divInt p.1 p.2
theorem q_low {t b : Int} (h : 0 < b) : qF (lowI t b) = Rat.divInt t b := by
  have g0 : (0 : Int) < (Int.gcd t b : Nat) := by
    have := Int.gcd_pos_of_ne_zero_right t (show b ≠ 0 by omega)
    omega
  obtain ⟨t', ht⟩ := Int.gcd_dvd_left t b
  obtain ⟨b', hb⟩ := Int.gcd_dvd_right t b
  unfold lowI qF
  rw [if_neg (by omega)]
  show Rat.divInt (t / ((Int.gcd t b : Nat) : Int)) (b / ((Int.gcd t b : Nat) : Int)) = _
  generalize hg : ((Int.gcd t b : Nat) : Int) = g at *
  have e1 : t / g = t' := by rw [ht]; exact Int.mul_ediv_cancel_left _ (by omega)
  have e2 : b / g = b' := by rw [hb]; exact Int.mul_ediv_cancel_left _ (by omega)
  rw [e1, e2, ht, hb]
  exact (Rat.divInt_mul_left (by omega)).symm
theorem q_plus {p q : Int × Int} (hp : 0 < p.2) (hq : 0 < q.2) : qF (plusI p q) = qF p + qF q := by
  unfold plusI
  rw [q_low (Int.mul_pos hp hq)]
  unfold qF
  rw [Rat.divInt_add_divInt _ _ (by omega) (by omega)]
theorem q_minus {p q : Int × Int} (hp : 0 < p.2) (hq : 0 < q.2) : qF (minusI p q) = qF p - qF q := by
  unfold minusI
  rw [q_low (Int.mul_pos hp hq)]
  unfold qF
  rw [Rat.divInt_sub_divInt _ _ (by omega) (by omega)]
theorem q_times {p q : Int × Int} (hp : 0 < p.2) (hq : 0 < q.2) : qF (timesI p q) = qF p * qF q := by
  unfold timesI
  rw [q_low (Int.mul_pos hp hq)]
  unfold qF
  rw [Rat.divInt_mul_divInt]
theorem q_inj {p q : Int × Int} (hp : LowF p) (hq : LowF q) (h : qF p = qF q) : p = q := by
  have one : ∀ {p : Int × Int}, LowF p → (qF p).num = p.1 ∧ ((qF p).den : Int) = p.2 := fun {p} hp => by
    obtain ⟨h1, h2⟩ := hp
    unfold qF
    rw [Rat.num_divInt, Rat.den_divInt, if_neg (by omega), Int.gcd_comm, h2, Int.sign_eq_one_of_pos h1]
    constructor
    · simp
    · rw [Nat.div_one]
      omega
  obtain ⟨a1, a2⟩ := one hp
  obtain ⟨b1, b2⟩ := one hq
  rw [h] at a1 a2
  exact Prod.ext (a1.symm.trans b1) (a2.symm.trans b2)
/-! ### sums over names -/
def sumR (f : Str → Rat) : List Str → Rat
  | [] => 0
  | k :: ks => f k + sumR f ks
theorem sumR_perm {f : Str → Rat} {xs ys : List Str} (h : xs.Perm ys) : sumR f xs = sumR f ys := by
  induction h with
  | nil => rfl
  | cons x _ ih => show f x + _ = f x + _; rw [ih]
  | swap x y l =>
    show f y + (f x + sumR f l) = f x + (f y + sumR f l)
    rw [← Rat.add_assoc, ← Rat.add_assoc, Rat.add_comm (f y)]
  | trans _ _ a b => exact a.trans b
theorem sumR_filter {f : Str → Rat} {c : Str → Bool} : ∀ {xs : List Str}, (∀ x ∈ xs, c x = false → f x = 0) → sumR f (xs.filter c) = sumR f xs
  | [], _ => rfl
  | x :: xs, h => by
    have ih := sumR_filter (f := f) (c := c) (xs := xs) fun y hy => h y (List.mem_cons_of_mem _ hy)
    by_cases e : c x = true
    · rw [List.filter_cons_of_pos e]
      show f x + _ = f x + _
      rw [ih]
    · rw [List.filter_cons_of_neg e, ih]
      show _ = f x + _
      rw [h x (List.mem_cons_self ..) (by simpa using e), Rat.zero_add]
theorem sumR_sup {f : Str → Rat} {ks ns : List Str} (n1 : ks.Nodup) (n2 : ns.Nodup) (sub : ∀ k ∈ ks, k ∈ ns) (z : ∀ k ∈ ns, k ∉ ks → f k = 0) : sumR f ks = sumR f ns := by
  rw [← sumR_filter (c := fun k => decide (k ∈ ks)) (xs := ns) fun k hk e => z k hk (of_decide_eq_false e)]
  refine sumR_perm ((List.perm_ext_iff_of_nodup n1 (n2.filter _)).mpr fun k => ?_)
  rw [List.mem_filter]
  exact ⟨fun h => ⟨sub k h, decide_eq_true h⟩, fun h => of_decide_eq_true h.2⟩
/-- the value of factors at sizes, name by name -/
def sumV (l g : Str → Int × Int) (st : Int × Int) : List Str → Int × Int
  | [] => st
  | k :: ks => sumV l g (plusI st (timesI (l k) (g k))) ks
theorem sumV_snoc {l g : Str → Int × Int} {k : Str} : ∀ {ks : List Str} {st : Int × Int}, sumV l g st (ks ++ [k]) = plusI (sumV l g st ks) (timesI (l k) (g k))
  | [], _ => rfl
  | x :: ks, st => sumV_snoc (ks := ks)
structure PosF (l : Str → Int × Int) (e : Nat) : Prop where
  low : ∀ k, LowF (l k)
  sz : ∀ k, szF e (l k)
theorem sumV_low {l g : Str → Int × Int} {e1 e2 : Nat} (hl : PosF l e1) (hg : PosF g e2) : ∀ {ks : List Str} {st : Int × Int}, LowF st → LowF (sumV l g st ks)
  | [], _, h => h
  | k :: ks, st, h => sumV_low hl hg (ks := ks) (plus_low h.1 (times_low (hl.low k).1 (hg.low k).1).1)
theorem sumV_sz {l g : Str → Int × Int} {e1 e2 : Nat} (hl : PosF l e1) (hg : PosF g e2) : ∀ {ks : List Str} {st : Int × Int} {e : Nat}, LowF st → szF e st → szF (e + ks.length * (e1 + e2 + 1)) (sumV l g st ks)
  | [], _, e, _, s => by
    rw [List.length_nil, Nat.zero_mul]
    exact s
  | k :: ks, st, e, h, s => by
    have t0 := times_low (hl.low k).1 (hg.low k).1
    have z := sumV_sz hl hg (ks := ks) (plus_low h.1 t0.1) (plus_sz h.1 t0.1 s (times_sz (hl.low k).1 (hg.low k).1 (hl.sz k) (hg.sz k)))
    rw [List.length_cons, Nat.succ_mul]
    have e' : e + (e1 + e2) + 1 + ks.length * (e1 + e2 + 1) = e + (ks.length * (e1 + e2 + 1) + (e1 + e2 + 1)) := by omega
    rw [e'] at z
    exact z
theorem sumV_q {l g : Str → Int × Int} {e1 e2 : Nat} (hl : PosF l e1) (hg : PosF g e2) : ∀ {ks : List Str} {st : Int × Int}, LowF st → qF (sumV l g st ks) = qF st + sumR (fun k => qF (l k) * qF (g k)) ks
  | [], st, _ => (Rat.add_zero _).symm
  | k :: ks, st, h => by
    have t0 := times_low (hl.low k).1 (hg.low k).1
    have z := sumV_q hl hg (ks := ks) (plus_low h.1 t0.1)
    show qF (sumV l g (plusI st (timesI (l k) (g k))) ks) = qF st + (qF (l k) * qF (g k) + _)
    rw [z, q_plus h.1 t0.1, q_times (hl.low k).1 (hg.low k).1, Rat.add_assoc]
theorem sumR_add {f g : Str → Rat} : ∀ {ks : List Str}, sumR (fun k => f k + g k) ks = sumR f ks + sumR g ks
  | [] => (Rat.add_zero _).symm
  | k :: ks => by
    have ih := sumR_add (f := f) (g := g) (ks := ks)
    show f k + g k + sumR (fun k => f k + g k) ks = f k + sumR f ks + (g k + sumR g ks)
    rw [ih]
    grind
theorem sumR_mul {f : Str → Rat} {c : Rat} : ∀ {ks : List Str}, sumR (fun k => f k * c) ks = sumR f ks * c
  | [] => (Rat.zero_mul _).symm
  | k :: ks => by
    have ih := sumR_mul (f := f) (c := c) (ks := ks)
    show f k * c + sumR (fun k => f k * c) ks = (f k + sumR f ks) * c
    rw [ih]
    grind
theorem sumR_congr {f g : Str → Rat} {ks : List Str} (h : ∀ k ∈ ks, f k = g k) : sumR f ks = sumR g ks := by
  induction ks with
  | nil => rfl
  | cons k ks ih =>
    show f k + _ = g k + _
    rw [h k (List.mem_cons_self ..), ih fun y hy => h y (List.mem_cons_of_mem _ hy)]
theorem q_zero : qF (0, 1) = 0 := by
  unfold qF
  exact Rat.zero_divInt 1
end Fs
set_option Elab.async false
set_option linter.all false
set_option maxRecDepth 100000
set_option maxHeartbeats 8000000
namespace Fs
open PySem PySem.Spec PyProof.Rows L2
theorem nzF_getF {s : FT} {h : Str → Int × Int} (T : Tab s (fun k => nzF (h k))) (k : Str) : getF (lk s) k = h k := by
  unfold getF
  have e : lk s k = nzF (h k) := T.eq k
  rw [e]
  unfold nzF
  by_cases c : h k = (0, 1)
  · rw [if_pos c]
    exact c.symm
  · rw [if_neg c]
    rfl
theorem bind_nz {l1 u : FT} {p : Int × Int} (hp : LowF p) (T : Tab u (fun k => (lk l1 k).bind fun v => nzF (timesI v p))) : Tab u (fun k => nzF (timesI (getF (lk l1) k) p)) := T.congr fun k => by
  unfold getF
  cases lk l1 k with
  | none =>
    show none = nzF (timesI (0, 1) p)
    rw [times_zero hp, nzF_0]
  | some v => rfl
theorem nzF_key {s : FT} {h : Str → Int × Int} (T : Tab s (fun k => nzF (h k))) {k : Str} (hk : k ∈ keyF s) : h k ≠ (0, 1) := by
  obtain ⟨v, hv⟩ := Option.isSome_iff_exists.mp (look_mem.mpr hk)
  have e : nzF (h k) = some v := (T.eq k).symm.trans hv
  intro z
  rw [z, nzF_0] at e
  cases e
section
variable {P : Program} {w : World} {K : Frag} {mg : Str → Option Value} {base : Heap} {C f : Addr} {fd : FuncData} {q : Str}
def notOne (k : Str) : Bool := !(k == ("one" : Str))
theorem OkT.pos {l : FT} (h : OkT l) : PosF (getF (lk l)) 133 := ⟨fun k => (h.get k).1, fun k => small_sz (h.get k).2⟩
/-- the value of a line at sizes -/
def valL (l g : FT) : Int × Int := sumV (getF (lk l)) (getF (lk g)) (getF (lk l) "one") ((keyF l).filter notOne)
abbrev s_Line_value : Stmt := inClass (top 14) 5
abbrev N_Line_value : List Str := ["self", "sizes", "found", "name"]
abbrev P_Line_value : List Str := ["self", "sizes"]
theorem sc_Line_value : FnScope N_Line_value P_Line_value (defScope s_Line_value) := ⟨rfl, rfl, rfl, by decide +kernel, rfl, by decide +kernel, by decide +kernel⟩
def spValue (C : Addr) : SpD := fun ws m Q _ => ∃ l y g, ws = [.v (lineD C l), y] ∧ look y m (fun d => d = .dic (kvF g)) ∧ OkT l ∧ OkT g ∧ l.length ≤ 10 ∧ Q (.v (frD (valL l g))) m
def spValueB (C : Addr) : SpD := fun ws m Q _ => ∃ l y g a b, ws = [.v (lineD C l), y] ∧ look y m (fun d => d = .dic (kvF g)) ∧ (keyF l).Nodup ∧ PosF (getF (lk l)) a ∧ PosF (getF (lk g)) b ∧ a + 10 * (a + b + 1) ≤ bigE ∧ l.length ≤ 10 ∧ Q (.v (frD (valL l g))) m
theorem look_use {y : W} {m : Me} {d : D} {P : D → Prop} (h : look y m (fun x => x = d)) (p : P d) : look y m P := look_imp h fun _ e => e ▸ p
theorem fm_valueB (FD : FunD K "value" q (defArgs s_Line_value) (defBody s_Line_value) (defScope s_Line_value) [] [] f fd) (cl : Cls K C) (na : NoAttr K C partsS) {zv cv : Value} (c_ZERO : mg "ZERO" = some zv) (k_ZERO : conU K 3 zv (frD (0, 1)) = true) (c_CON : mg "CONSTANT" = some cv) (r_CON : RelV (.str "one") cv) (okO : okS "one" = true)
    (gPart : GmM P w K mg base 2 C "part" (spPart C)) (g_plus : Gd P w K mg base (L2.CX P w) 3 "plus" P_plus (lift K (spTwoB plusI))) (g_times : Gd P w K mg base (L2.CX P w) 3 "times" P_times (lift K (spTwoB timesI))) :
    FnOk P w K mg base (L2.CX P w) 6 f fd ["self", "sizes"] (lift K (spValueB C)) := by
  obtain ⟨zz, rz, hz⟩ := conU_ok k_ZERO
  refine fm_d FD sc_Line_value (fun ws m Q Qx h => ?_) (fun cdv A outer s H E hr => ⟨_, (dss_cons (ds_set (i := 2) sc_Line_value.nd rfl (.inl rfl) (d_mth gPart (hr.mono (by omega)) (passE (takes_of rfl rfl rfl rfl)) (dv 0) (da_cons (d_glob c_CON r_CON (fun _ => .str okO)) da_nil)))
    (dss_cons (ds_for (passes_of rfl) rfl (di_seq (d_ofv K 0)) (dg_name (i := 3) sc_Line_value.nd rfl (.inl rfl))
      (dss_one (ds_if (dt_cmp (o_ne (u64 hr)) (dv 3) (d_glob c_CON r_CON (fun _ => .str okO)) (nomark _))
        (dss_one (ds_set (i := 2) sc_Line_value.nd rfl (.inl rfl) (d_call g_plus (hr.mono (by omega)) (passE (takes_of rfl rfl rfl rfl)) (da_cons (dv 2) (da_cons (d_call g_times (hr.mono (by omega)) (passE (takes_of rfl rfl rfl rfl)) (da_cons (d_dk (u65 hr) (d_ofv K 0) (dv 3)) (da_cons (d_dg (u65 hr) (dv 1) (dv 3) (d_glob c_ZERO rz hz)) da_nil))) da_nil)))))
        dss_nil)))
    (dss_one (ds_ret (dv 2))))), fun ws m Qd Qx h => ?_⟩)
  · obtain ⟨_, _, _, _, _, rfl, _⟩ := h
    rfl
  obtain ⟨l, y, g, ea, eb, rfl, hy, nd, pl, pg, hb, hl, q⟩ := h
  refine ⟨_, rfl, rfl, l, _, rfl, ?_⟩
  refine ⟨C, _, _, rfl, cl, na, rfl, ?_⟩
  show sForL _ _ ((kvF l).map fun p => kD p.1) _ _ _
  rw [keys_str]
  have kl : (keyF l).length ≤ 10 := by rw [keyF, List.length_map]; exact hl
  refine sFor0 (fun i en m' => ∃ a, en = [some (.v (lineD C l)), some y, some (.v (frD (sumV (getF (lk l)) (getF (lk g)) (getF (lk l) "one") (((keyF l).take i).filter notOne)))), a] ∧ m' = m) ⟨_, rfl, rfl⟩ (fun j d en m' N' hd hi r1 r2 r3 hn => ?_) (fun en m' hi => ?_)
  · obtain ⟨a, rfl, rfl⟩ := hi
    obtain ⟨x, hx, rfl⟩ : ∃ x, (keyF l)[j]? = some x ∧ D.str x = d := by simpa using hd
    have tk : (keyF l).take (j + 1) = (keyF l).take j ++ [x] := by
      rw [List.take_add_one, hx]
      rfl
    have low1 := pl.low "one"
    have sz1 := pl.sz "one"
    have hlow := sumV_low pl pg (ks := ((keyF l).take j).filter notOne) low1
    have hsz : szF bigE (sumV (getF (lk l)) (getF (lk g)) (getF (lk l) "one") (((keyF l).take j).filter notOne)) := by
      refine (sumV_sz pl pg low1 sz1).mono ?_
      have z1 := List.length_filter_le notOne ((keyF l).take j)
      have z2 := List.length_take_le' j (keyF l)
      have z3 : (((keyF l).take j).filter notOne).length ≤ 10 := by omega
      have z4 : (((keyF l).take j).filter notOne).length * (ea + eb + 1) ≤ 10 * (ea + eb + 1) := Nat.mul_le_mul_right _ z3
      omega
    refine ⟨rfl, rfl, Nat.zero_le _, Nat.zero_le _, ?_⟩
    show if (!(x == ("one" : Str))) = true then _ else _
    refine iteB (fun t => ?_) (fun t => ?_)
    · refine ⟨C, _, _, rfl, cl, na, rfl, ?_⟩
      have hv : valD (kvF l) (.inr x) = some (frD (getF (lk l) x)) := by
        rw [valD_kvF]
        obtain ⟨v, hv⟩ := Option.isSome_iff_exists.mp (look_mem.mpr (List.mem_of_getElem? hx))
        show (l.lookup x).map frD = some (frD ((l.lookup x).getD (0, 1)))
        rw [hv]
        rfl
      refine ⟨_, hv, look_use hy ?_⟩
      refine look_use hy ?_
      simp only [look, oD, dicD, keyD, tN, frD, List.set]
      rw [val_get]
      have lx := pl.low x
      have gx := pg.low x
      refine ⟨_, _, rfl, lx.1, gx.1, (pl.sz x).mono (by omega), (pg.sz x).mono (by omega), ?_⟩
      refine ⟨_, _, rfl, hlow.1, (times_low lx.1 gx.1).1, hsz, (times_sz lx.1 gx.1 (pl.sz x) (pg.sz x)).mono (by omega), ?_⟩
      refine (hn _ _ ⟨some (.v (.str x)), ?_, rfl⟩).1
      rw [tk, List.filter_append, List.filter_cons_of_pos (p := notOne) t, List.filter_nil, sumV_snoc]
    · refine (hn _ _ ⟨some (.v (.str x)), ?_, rfl⟩).1
      have t' : ¬ notOne x = true := by
        show ¬ (!(x == ("one" : Str))) = true
        rw [t]
        decide
      rw [tk, List.filter_append, List.filter_cons_of_neg (p := notOne) t', List.filter_nil, List.append_nil]
      rfl
  · obtain ⟨a, rfl, rfl⟩ := hi
    rw [List.length_map, List.take_length] at *
    exact ⟨List.prefix_refl _, q⟩
theorem fm_value (FD : FunD K "value" q (defArgs s_Line_value) (defBody s_Line_value) (defScope s_Line_value) [] [] f fd) (cl : Cls K C) (na : NoAttr K C partsS) {zv cv : Value} (c_ZERO : mg "ZERO" = some zv) (k_ZERO : conU K 3 zv (frD (0, 1)) = true) (c_CON : mg "CONSTANT" = some cv) (r_CON : RelV (.str "one") cv) (okO : okS "one" = true)
    (gPart : GmM P w K mg base 2 C "part" (spPart C)) (g_plus : Gd P w K mg base (L2.CX P w) 3 "plus" P_plus (lift K (spTwoB plusI))) (g_times : Gd P w K mg base (L2.CX P w) 3 "times" P_times (lift K (spTwoB timesI))) :
    FnOk P w K mg base (L2.CX P w) 6 f fd ["self", "sizes"] (lift K (spValue C)) := fn_weak (fm_valueB FD cl na c_ZERO k_ZERO c_CON r_CON okO gPart g_plus g_times) fun _ _ _ _ ⟨l, y, g, e, hy, ol, og, hl, q⟩ => ⟨l, y, g, 133, 133, e, hy, ol.nd, ol.pos, og.pos, by decide, hl, q⟩
end
end Fs
set_option Elab.async false
set_option linter.all false
set_option maxRecDepth 100000
set_option maxHeartbeats 8000000
namespace Fs
open PySem PySem.Spec PyProof.Rows L2
section
variable {P : Program} {w : World} {K : Frag} {mg : Str → Option Value} {base : Heap}
theorem look_last {m : Me} {es : List D} {Q : D → Prop} (h : Q (.lst es)) : look (.loc m.length) (m ++ [.lst es]) Q := by
  show lookO ((m ++ [MO.lst es])[m.length]?) Q
  rw [List.getElem?_append_right (Nat.le_refl _), Nat.sub_self]
  exact h
def spMixedD : SpD := fun ws m Q _ => ∃ (n : Nat) (ds : List D), ws = [.loc n, .v (.lst ds)] ∧ m[n]? = some .bag ∧ ds.length ≤ 1000 ∧ ∀ es : List D, es.length = ds.length → (∀ e ∈ es, e ∈ ds) → Q (.v (.lst es)) m
abbrev s__law_mixed : Stmt := top 21
abbrev N__law_mixed : List Str := ["_law_bag_here", "_law_things", "_law_found", "_law_thing"]
abbrev P__law_mixed : List Str := ["_law_bag_here", "_law_things"]
theorem sc__law_mixed : FnScope N__law_mixed P__law_mixed (defScope s__law_mixed) := ⟨rfl, rfl, rfl, by decide +kernel, rfl, by decide +kernel, by decide +kernel⟩
theorem dd__law_mixed (G : Gs K mg "_law_mixed" s__law_mixed) (m_len : mg "len" = none) (g__law_pull : Gd P w K mg base (L2.CX P w) 1 "_law_pull" P__law_pull (lift K spPullD)) : Gd P w K mg base (L2.CX P w) 2 "_law_mixed" P__law_mixed (lift K spMixedD) := by
  refine Fo.gd (fo_d sc__law_mixed (fun ws m Q Qx h => ?_) (fun f cdv A outer s H E hr => ⟨_, (dss_cons (ds_set (i := 2) sc__law_mixed.nd rfl (.inl rfl) (d_lstO da_nil))
    (dss_cons (ds_for (passes_of rfl) rfl (di_seq (dv 1)) (dg_name (i := 3) sc__law_mixed.nd rfl (.inl rfl))
      (dss_one (ds_expr (d_insert (dv 2) (da_cons (d_call g__law_pull (hr.mono (by omega)) (passE (takes_of rfl rfl rfl rfl)) (da_cons (dv 0) (da_cons (d_op o_add (d_len m_len (da_cons (dv 2) da_nil)) d_int) da_nil))) (da_cons (dv 3) da_nil))))))
    (dss_fz 2 (dss_one (ds_ret (dv 2)))))), fun ws m Qd Qx h => ?_⟩) [] []) G (fun _ _ _ _ _ _ us hl => match us, hl with | [_, _], _ => rfl)
  · obtain ⟨_, _, rfl, _⟩ := h
    rfl
  · obtain ⟨n, ds, rfl, hm, hl, q⟩ := h
    have ln := sizeLine_eq
    refine ⟨Nat.zero_le _, ?_⟩
    refine sFor0 (fun i en m' => ∃ v3, ∃ es : List D, en = [some (.loc n), some (.v (.lst ds)), some (.loc m.length), v3] ∧ m' = m ++ [.lst es] ∧ es.length = i ∧ ∀ e ∈ es, e ∈ ds) ⟨none, [], rfl, rfl, rfl, fun _ h => by cases h⟩ ?_ ?_
    · rintro j d en m' N' hd ⟨v3, es, rfl, rfl, el, he⟩ r1 r2 r3 hn
      have hj := (List.getElem?_eq_some_iff.mp hd).1
      refine ⟨lstAt_last trivial, ?_⟩
      refine look_last ?_
      refine ⟨n, (es.length : Int) + 1, rfl, at_more hm, by omega, by omega, fun r r0 r1 => ?_⟩
      refine lstAt_last ⟨by omega, r0, by omega, ?_⟩
      rw [set_last]
      refine (hn _ _ ⟨_, _, rfl, rfl, ?_, fun e hm => ?_⟩).1
      · rw [List.length_append, List.length_append, List.length_take, List.length_drop, List.length_singleton]
        omega
      · rcases List.mem_append.mp hm with h | h
        · rcases List.mem_append.mp h with h | h
          · exact he _ (List.mem_of_mem_take h)
          · rw [List.mem_singleton.mp h]
            exact List.mem_of_getElem? hd
        · exact he _ (List.mem_of_mem_drop h)
    · rintro en m' ⟨v3, es, rfl, rfl, el, he⟩
      dsimp only
      refine ret_last rfl ?_
      exact ⟨List.prefix_append _ _, q es el he⟩
end
end Fs
set_option Elab.async false
set_option linter.all false
set_option maxRecDepth 100000
set_option maxHeartbeats 8000000
namespace Fs
open PySem PySem.Spec PyProof.Rows L2
def spFlatD : SpD := fun ws m Q _ => ∃ rs : List (List D), ws = [.v (.lst (rs.map .lst))] ∧ rs.flatten.length ≤ 1000 ∧ Q (.v (.lst rs.flatten)) m
def lowP (p : Int × Int) : Prop := 0 < p.2 ∧ p.2 ≤ 10 ∧ p.1.natAbs ≤ 10 ∧ p.1 ≠ 0 ∧ Int.gcd p.1 p.2 = 1
def spFacD : SpD := fun ws m Q _ => ∃ n, ws = [.loc n] ∧ m[n]? = some .bag ∧ ∀ p : Int × Int, lowP p → Q (.v (frD p)) m
def sufN (a b : Str) (zs : List Str) : List Str := (zs.map fun z => [z ++ a, z ++ b]).flatten
def edgeN (ax : Nat) (zs : List Str) : List Str := if ax = 0 then "room.w" :: sufN ".left" ".right" zs else "room.h" :: sufN ".top" ".bottom" zs
def spSzN : SpD := fun ws m Q _ => ∃ zs : List Str, ws = [.v (.lst (zs.map .str))] ∧ zs.length ≤ 100 ∧ (∀ z ∈ zs, z.length ≤ 100) ∧ Q (.v (.lst ((sufN ".w" ".h" zs).map .str))) m
def spEgN : SpD := fun ws m Q _ => ∃ (zs : List Str) (ax : Nat), ws = [.v (.lst (zs.map .str)), .v (.int ax)] ∧ ax < 2 ∧ zs.length ≤ 100 ∧ (∀ z ∈ zs, z.length ≤ 100) ∧ Q (.v (.lst ((edgeN ax zs).map .str))) m
/-- a drawn expression over the names -/
def exprOver (zs : List Str) (k : Nat) (its : List D) : Prop := 1 ≤ its.length ∧ its.length ≤ k ∧ ∀ it ∈ its, ∃ p z, it = .tup [frD p, .str z] ∧ lowP p ∧ z ∈ zs
def spExpr (K : Frag) : SpD := fun ws m Q _ => ∃ (n : Nat) (zs : List Str) (k : Nat), ws = [.loc n, .v (.lst (zs.map .str)), .v (.int k)] ∧ m[n]? = some .bag ∧ zs ≠ [] ∧ zs.length ≤ 1000 ∧ 0 < k ∧ k ≤ 100 ∧ ∀ its, exprOver zs k its → Q (.v (.tup its)) m
theorem suf_len (a b : Str) : ∀ zs, (sufN a b zs).length = 2 * zs.length
  | [] => rfl
  | z :: zs => by
    show ([z ++ a, z ++ b] ++ sufN a b zs).length = _
    rw [List.length_append, suf_len a b zs, List.length_cons, List.length_cons, List.length_cons, List.length_nil]
    omega
theorem suf_mem {a b : Str} {zs : List Str} {x : Str} (h : x ∈ sufN a b zs) : ∃ z ∈ zs, x = z ++ a ∨ x = z ++ b := by
  obtain ⟨l, hl, hx⟩ := List.mem_flatten.mp h
  obtain ⟨z, hz, rfl⟩ := List.mem_map.mp hl
  simp only [List.mem_cons, List.not_mem_nil, or_false] at hx
  exact ⟨z, hz, hx⟩
theorem all2_len {R : Nat → D → D → Prop} {i : Nat} {its ys : List D} (h : All2 R i its ys) : ys.length = its.length := by
  induction h with
  | nil => rfl
  | cons _ _ ih => rw [List.length_cons, List.length_cons, ih]
theorem all2_mem {R : D → D → Prop} {i : Nat} {its ys : List D} (h : All2 (fun _ d y => R d y) i its ys) : ∀ y ∈ ys, ∃ d, R d y := by
  induction h with
  | nil => exact fun y hy => by cases hy
  | cons r _ ih =>
    intro y hy
    rcases List.mem_cons.mp hy with e | hy
    · exact ⟨_, e ▸ r⟩
    · exact ih y hy
def pairD (a b : Str) : D → D
  | .str z => .lst [.str (z ++ a), .str (z ++ b)]
  | _ => .non
theorem pair_map (a b : Str) (zs : List Str) : (zs.map D.str).map (pairD a b) = (zs.map fun z => [D.str (z ++ a), .str (z ++ b)]).map .lst := by
  rw [List.map_map, List.map_map]
  rfl
theorem pair_flat (a b : Str) (zs : List Str) : (zs.map fun z => [D.str (z ++ a), .str (z ++ b)]).flatten = (sufN a b zs).map .str := by
  unfold sufN
  rw [List.map_flatten, List.map_map]
  rfl
section
variable {P : Program} {w : World} {K : Frag} {mg : Str → Option Value} {base : Heap}
abbrev s__law_flat : Stmt := top 28
abbrev N__law_flat : List Str := ["_law_rows", "_law_found", "_law_row"]
abbrev P__law_flat : List Str := ["_law_rows"]
theorem sc__law_flat : FnScope N__law_flat P__law_flat (defScope s__law_flat) := ⟨rfl, rfl, rfl, by decide +kernel, rfl, by decide +kernel, by decide +kernel⟩
theorem dd__law_flat (G : Gs K mg "_law_flat" s__law_flat) (m_list : mg "list" = none) : Gd P w K mg base (L2.CX P w) 1 "_law_flat" P__law_flat (lift K spFlatD) := by
  refine Fo.gd (fo_d sc__law_flat (fun ws m Q Qx h => ?_) (fun f cdv A outer s H E hr => ⟨_, (dss_cons (ds_set (i := 1) sc__law_flat.nd rfl (.inl rfl) (d_lst da_nil))
    (dss_cons (ds_for (passes_of rfl) rfl (di_seq (dv 0)) (dg_name (i := 2) sc__law_flat.nd rfl (.inl rfl))
      (dss_one (ds_set (i := 1) sc__law_flat.nd rfl (.inl rfl) (d_op o_add (dv 1) (d_list m_list (da_cons (dv 2) da_nil))))))
    (dss_one (ds_ret (dv 1))))), fun ws m Qd Qx h => ?_⟩) [] []) G (fun _ _ _ _ _ _ us hl => match us, hl with | [_], _ => rfl)
  · obtain ⟨_, rfl, _⟩ := h
    rfl
  · obtain ⟨rs, rfl, hl, q⟩ := h
    have ln := sizeLine_eq
    refine ⟨Nat.zero_le _, ?_⟩
    refine sFor0 (fun i en m' => m' = m ∧ ∃ v2, en = [some (.v (.lst (rs.map .lst))), some (.v (.lst (rs.take i).flatten)), v2]) ⟨rfl, none, rfl⟩ ?_ ?_
    · rintro j d en m' N' hd ⟨rfl, v2, rfl⟩ r1 r2 r3 hn
      rw [List.getElem?_map] at hd
      obtain ⟨r, hr, rfl⟩ := Option.map_eq_some_iff.mp hd
      have e : (rs.take (j + 1)).flatten = (rs.take j).flatten ++ r := by
        rw [List.take_succ, hr, List.flatten_append]
        simp
      have le : ((rs.take j).flatten ++ r).length ≤ rs.flatten.length := by
        rw [← e]
        conv => rhs; rw [← List.take_append_drop (j + 1) rs, List.flatten_append, List.length_append]
        exact Nat.le_add_right _ _
      rw [List.length_append] at le
      refine ⟨by omega, ?_⟩
      refine (hn _ _ ⟨rfl, some (.v (.lst r)), ?_⟩).1
      rw [e]
      rfl
    · rintro en m' ⟨rfl, v2, rfl⟩
      rw [List.length_map, List.take_length]
      exact ⟨List.prefix_refl _, q⟩
abbrev s__law_factor : Stmt := top 31
abbrev N__law_factor : List Str := ["_law_bag_here", "_law_top"]
abbrev P__law_factor : List Str := ["_law_bag_here"]
theorem sc__law_factor : FnScope N__law_factor P__law_factor (defScope s__law_factor) := ⟨rfl, rfl, rfl, by decide +kernel, rfl, by decide +kernel, by decide +kernel⟩
theorem dd__law_factor (G : Gs K mg "_law_factor" s__law_factor) (g__law_of : Gd P w K mg base (L2.CX P w) 2 "_law_of" P__law_of (lift K spOfD)) (g__law_pull : Gd P w K mg base (L2.CX P w) 1 "_law_pull" P__law_pull (lift K spPullD)) (g__law_low : Gd P w K mg base (L2.CX P w) 1 "_law_low" P__law_low (lift K spLowD)) : Gd P w K mg base (L2.CX P w) 3 "_law_factor" P__law_factor (lift K spFacD) := by
  refine Fo.gd (fo_d sc__law_factor (fun ws m Q Qx h => ?_) (fun f cdv A outer s H E hr => ⟨_, (dss_cons (ds_set (i := 1) sc__law_factor.nd rfl (.inl rfl) (d_call g__law_of (hr.mono (by omega)) (passE (takes_of rfl rfl rfl rfl)) (da_cons (dv 0) (da_cons (d_lst (da_cons d_int (da_cons d_int (da_cons (d_un o_neg d_int) (da_cons (d_op o_add d_int (d_call g__law_pull (hr.mono (by omega)) (passE (takes_of rfl rfl rfl rfl)) (da_cons (dv 0) (da_cons d_int da_nil)))) (da_cons (d_op o_sub (d_op o_sub d_int d_int) (d_call g__law_pull (hr.mono (by omega)) (passE (takes_of rfl rfl rfl rfl)) (da_cons (dv 0) (da_cons d_int da_nil)))) da_nil)))))) da_nil))))
    (dss_one (ds_ret (d_call g__law_low (hr.mono (by omega)) (passE (takes_of rfl rfl rfl rfl)) (da_cons (dv 1) (da_cons (d_call g__law_of (hr.mono (by omega)) (passE (takes_of rfl rfl rfl rfl)) (da_cons (dv 0) (da_cons (d_lst (da_cons d_int (da_cons d_int (da_cons d_int (da_cons (d_op o_add d_int (d_call g__law_pull (hr.mono (by omega)) (passE (takes_of rfl rfl rfl rfl)) (da_cons (dv 0) (da_cons d_int da_nil)))) da_nil))))) da_nil))) da_nil)))))), fun ws m Qd Qx h => ?_⟩) [] []) G (fun _ _ _ _ _ _ us hl => match us, hl with | [_], _ => rfl)
  · obtain ⟨_, rfl, _⟩ := h
    rfl
  · obtain ⟨n, rfl, hm, q⟩ := h
    have ln := sizeLine_eq
    refine ⟨n, 5, rfl, hm, by decide, by decide, fun a a0 a1 => ?_⟩
    refine ⟨n, 5, rfl, hm, by decide, by decide, fun b b0 b1 => ?_⟩
    refine ⟨by show 5 ≤ sizeLine; omega, n, _, [.int 1, .int 1, .int (-1), .int (1 + a), .int (0 - 1 - b)], rfl, hm, .inl rfl, by simp, Nat.lt_of_le_of_lt (show 5 ≤ 5 by decide) (by decide), fun d hd => ?_⟩
    obtain ⟨t, rfl, t0, t1⟩ : ∃ t : Int, d = .int t ∧ t ≠ 0 ∧ t.natAbs ≤ 10 := by
      simp only [List.mem_cons, List.not_mem_nil, or_false] at hd
      rcases hd with rfl | rfl | rfl | rfl | rfl
      · exact ⟨_, rfl, by decide, by decide⟩
      · exact ⟨_, rfl, by decide, by decide⟩
      · exact ⟨_, rfl, by decide, by decide⟩
      · exact ⟨_, rfl, by omega, by omega⟩
      · exact ⟨_, rfl, by omega, by omega⟩
    refine ⟨n, 6, rfl, hm, by decide, by decide, fun c c0 c1 => ?_⟩
    refine ⟨by show 4 ≤ sizeLine; omega, n, _, [.int 1, .int 1, .int 2, .int (1 + c)], rfl, hm, .inl rfl, by simp, Nat.lt_of_le_of_lt (show 4 ≤ 4 by decide) (by decide), fun d hd => ?_⟩
    obtain ⟨e, rfl, e0, e1⟩ : ∃ t : Int, d = .int t ∧ 0 < t ∧ t ≤ 10 := by
      simp only [List.mem_cons, List.not_mem_nil, or_false] at hd
      rcases hd with rfl | rfl | rfl | rfl
      · exact ⟨_, rfl, by decide, by decide⟩
      · exact ⟨_, rfl, by decide, by decide⟩
      · exact ⟨_, rfl, by decide, by decide⟩
      · exact ⟨_, rfl, by omega, by omega⟩
    have lg := log2_lt (i := e) (k := 3) (by omega)
    refine ⟨t, e, rfl, e0, by omega, List.prefix_refl _, q _ ?_⟩
    obtain ⟨k, hk, k0, kg, kt, kb⟩ := lowI_low (t := t) e0
    refine ⟨by rw [hk]; omega, by rw [hk]; omega, by omega, fun z => ?_, by rw [hk]; exact kg⟩
    have hg : 0 < Int.gcd t e := Int.gcd_pos_of_ne_zero_right _ (by omega)
    have e2 : lowI t e = (t / ((Int.gcd t e : Nat) : Int), e / ((Int.gcd t e : Nat) : Int)) := by
      unfold lowI
      rw [if_neg (by omega)]
    rw [e2] at z
    obtain ⟨r, hr⟩ := Int.gcd_dvd_left (a := t) (b := e)
    have z : t / ((Int.gcd t e : Nat) : Int) = 0 := z
    have e3 : t / ((Int.gcd t e : Nat) : Int) = r := by
      conv => lhs; lhs; rw [hr]
      exact Int.mul_ediv_cancel_left _ (by omega)
    rw [e3] at z
    rw [z, Int.mul_zero] at hr
    exact t0 hr
abbrev s__law_expression : Stmt := top 32
abbrev N__law_expression : List Str := ["_law_bag_here", "_law_names_here", "_law_most", "_law_some", "_law_name"]
abbrev P__law_expression : List Str := ["_law_bag_here", "_law_names_here", "_law_most"]
abbrev O__law_expression_0 : List (Str × Nat) := [("_law_name", 4)]
theorem sc__law_expression : FnScope N__law_expression P__law_expression (defScope s__law_expression) := ⟨rfl, rfl, rfl, by decide +kernel, rfl, by decide +kernel, by decide +kernel⟩
theorem dd__law_expression (G : Gs K mg "_law_expression" s__law_expression) (g__law_mixed : Gd P w K mg base (L2.CX P w) 2 "_law_mixed" P__law_mixed (lift K spMixedD)) (g__law_pull : Gd P w K mg base (L2.CX P w) 1 "_law_pull" P__law_pull (lift K spPullD)) (m_tuple : mg "tuple" = none) (g__law_factor : Gd P w K mg base (L2.CX P w) 3 "_law_factor" P__law_factor (lift K spFacD)) : Gd P w K mg base (L2.CX P w) 4 "_law_expression" P__law_expression (lift K (spExpr K)) := by
  refine Fo.gd (fo_d sc__law_expression (fun ws m Q Qx h => ?_) (fun f cdv A outer s H E hr => ⟨_, (dss_cons (ds_set (i := 3) sc__law_expression.nd rfl (.inl rfl) (d_slice (d_call g__law_mixed (hr.mono (by omega)) (passE (takes_of rfl rfl rfl rfl)) (da_cons (dv 0) (da_cons (dv 1) da_nil))) do_none (do_some (d_op o_add d_int (d_call g__law_pull (hr.mono (by omega)) (passE (takes_of rfl rfl rfl rfl)) (da_cons (dv 0) (da_cons (dv 2) da_nil)))))))
    (dss_one (ds_ret (d_tuple m_tuple (da_cons (d_lc (own := O__law_expression_0) rfl sc__law_expression.nd (di_seq (dv 3)) (blkOk_by (own := O__law_expression_0) (N := N__law_expression) (sc := defScope s__law_expression) (by decide +kernel)) (fun _ _ _ _ _ => (dg_name (i := 4) sc__law_expression.nd rfl (.inl rfl))) (fun _ _ _ _ _ => dts_nil) (fun _ _ _ _ _ => (d_tup (da_cons (d_call g__law_factor (hr.mono (by omega)) passF (da_cons (dv 0) da_nil)) (da_cons (dv 4) da_nil))))) da_nil))))), fun ws m Qd Qx h => ?_⟩) [] []) G (fun _ _ _ _ _ _ us hl => match us, hl with | [_, _, _], _ => rfl)
  · obtain ⟨_, _, _, rfl, _⟩ := h
    rfl
  · obtain ⟨n, zs, k, rfl, hm, hz, hl, k0, k1, q⟩ := h
    have ln := sizeLine_eq
    refine ⟨n, zs.map .str, rfl, hm, by rw [List.length_map]; omega, fun es el he => ?_⟩
    rw [List.length_map] at el
    refine ⟨n, k, rfl, hm, by omega, Int.lt_of_lt_of_le (show (k : Int) < 101 by omega) (by decide), fun r r0 r1 => ?_⟩
    obtain ⟨rn, rfl⟩ : ∃ j : Nat, r = j := ⟨r.toNat, by omega⟩
    have e1 : (1 : Int) + (rn : Int) = ((1 + rn : Nat) : Int) := by omega
    have ec : cutD es none (some ((1 : Int) + (rn : Int))) = es.take (1 + rn) := by rw [e1, cutD_to]
    have zl : 0 < zs.length := List.length_pos_iff.mpr hz
    have tl : (es.take (1 + rn)).length = min (1 + rn) zs.length := by rw [List.length_take, el]
    refine lcL_all (fun _ d y => ∃ p z, y = .tup [frD p, .str z] ∧ lowP p ∧ d = .str z ∧ z ∈ zs) 0 (by rw [ec, tl]; show 0 + _ ≤ _; omega) (fun j d Qt hd hq => ?_) fun ys hys => ?_
    · rw [ec] at hd
      have hd2 := he d (List.mem_of_mem_take (List.mem_of_getElem? hd))
      obtain ⟨z, hz2, rfl⟩ := List.mem_map.mp hd2
      refine ⟨n, rfl, hm, fun p hp => ?_⟩
      exact ⟨by show 2 ≤ sizeLine; omega, hq _ ⟨p, z, rfl, hp, rfl, hz2⟩⟩
    · rw [ec] at hys
      have yl := all2_len hys
      refine ⟨List.prefix_refl _, q ys ⟨by omega, by omega, fun y hy => ?_⟩⟩
      obtain ⟨d, p, z, h1, h2, _, h4⟩ := all2_mem hys y hy
      exact ⟨p, z, h1, h2, h4⟩
abbrev s__law_size_names : Stmt := top 33
abbrev N__law_size_names : List Str := ["_law_things", "_law_thing"]
abbrev P__law_size_names : List Str := ["_law_things"]
abbrev O__law_size_names_0 : List (Str × Nat) := [("_law_thing", 1)]
theorem sc__law_size_names : FnScope N__law_size_names P__law_size_names (defScope s__law_size_names) := ⟨rfl, rfl, rfl, by decide +kernel, rfl, by decide +kernel, by decide +kernel⟩
theorem dd__law_size_names (G : Gs K mg "_law_size_names" s__law_size_names) (g__law_flat : Gd P w K mg base (L2.CX P w) 1 "_law_flat" P__law_flat (lift K spFlatD)) : Gd P w K mg base (L2.CX P w) 2 "_law_size_names" P__law_size_names (lift K spSzN) := by
  refine Fo.gd (fo_d sc__law_size_names (fun ws m Q Qx h => ?_) (fun f cdv A outer s H E hr => ⟨_, (dss_one (ds_ret (d_call g__law_flat (hr.mono (by omega)) (passE (takes_of rfl rfl rfl rfl)) (da_cons (d_lc (own := O__law_size_names_0) rfl sc__law_size_names.nd (di_seq (dv 0)) (blkOk_by (own := O__law_size_names_0) (N := N__law_size_names) (sc := defScope s__law_size_names) (by decide +kernel)) (fun _ _ _ _ _ => (dg_name (i := 1) sc__law_size_names.nd rfl (.inl rfl))) (fun _ _ _ _ _ => dts_nil) (fun _ _ _ _ _ => (d_lst (da_cons (d_op o_add (dv 1) d_str) (da_cons (d_op o_add (dv 1) d_str) da_nil))))) da_nil)))), fun ws m Qd Qx h => ?_⟩) [] []) G (fun _ _ _ _ _ _ us hl => match us, hl with | [_], _ => rfl)
  · obtain ⟨_, rfl, _⟩ := h
    rfl
  · obtain ⟨zs, rfl, hl, hz, q⟩ := h
    have ln := sizeLine_eq
    have l1 : (".w" : Str).length = 2 := rfl
    have l2 : (".h" : Str).length = 2 := rfl
    refine lcL_map (pairD ".w" ".h") (by rw [List.length_map]; show 0 + _ ≤ _; omega) (fun d Qt hd hq => ?_) ?_
    · obtain ⟨z, hz2, rfl⟩ := List.mem_map.mp hd
      have := hz z hz2
      exact ⟨by omega, by omega, by show 2 ≤ sizeLine; omega, hq⟩
    · refine ⟨(zs.map fun z => [D.str (z ++ ".w"), .str (z ++ ".h")]), by rw [List.nil_append, pair_map], ?_, ?_⟩
      · rw [pair_flat, List.length_map, suf_len]
        omega
      · rw [pair_flat]
        exact ⟨List.prefix_refl _, q⟩
abbrev s__law_edge_names : Stmt := top 34
abbrev N__law_edge_names : List Str := ["_law_things", "_law_axis", "_law_words", "_law_thing"]
abbrev P__law_edge_names : List Str := ["_law_things", "_law_axis"]
abbrev O__law_edge_names_0 : List (Str × Nat) := [("_law_thing", 3)]
theorem sc__law_edge_names : FnScope N__law_edge_names P__law_edge_names (defScope s__law_edge_names) := ⟨rfl, rfl, rfl, by decide +kernel, rfl, by decide +kernel, by decide +kernel⟩
theorem dd__law_edge_names (G : Gs K mg "_law_edge_names" s__law_edge_names) (g__law_flat : Gd P w K mg base (L2.CX P w) 1 "_law_flat" P__law_flat (lift K spFlatD)) : Gd P w K mg base (L2.CX P w) 2 "_law_edge_names" P__law_edge_names (lift K spEgN) := by
  refine Fo.gd (fo_d sc__law_edge_names (fun ws m Q Qx h => ?_) (fun f cdv A outer s H E hr => ⟨_, (dss_cons (ds_set (i := 2) sc__law_edge_names.nd rfl (.inr rfl) (d_ix (d_lst (da_cons (d_lst (da_cons d_str (da_cons d_str da_nil))) (da_cons (d_lst (da_cons d_str (da_cons d_str da_nil))) da_nil))) (dv 1)))
    (dss_one (ds_ret (d_op o_add (d_lst (da_cons (d_ix (d_lst (da_cons d_str (da_cons d_str da_nil))) (dv 1)) da_nil)) (d_call g__law_flat (hr.mono (by omega)) (passE (takes_of rfl rfl rfl rfl)) (da_cons (d_lc (own := O__law_edge_names_0) rfl sc__law_edge_names.nd (di_seq (dv 0)) (blkOk_by (own := O__law_edge_names_0) (N := N__law_edge_names) (sc := defScope s__law_edge_names) (by decide +kernel)) (fun _ _ _ _ _ => (dg_name (i := 3) sc__law_edge_names.nd rfl (.inl rfl))) (fun _ _ _ _ _ => dts_nil) (fun _ _ _ _ _ => (d_lst (da_cons (d_op o_add (dv 3) (d_ix (dv 2) d_int)) (da_cons (d_op o_add (dv 3) (d_ix (dv 2) d_int)) da_nil))))) da_nil)))))), fun ws m Qd Qx h => ?_⟩) [] []) G (fun _ _ _ _ _ _ us hl => match us, hl with | [_, _], _ => rfl)
  · obtain ⟨_, _, rfl, _⟩ := h
    rfl
  · obtain ⟨zs, ax, rfl, hax, hl, hz, q⟩ := h
    have ln := sizeLine_eq
    have hx : ax = 0 ∨ ax = 1 := by omega
    rcases hx with rfl | rfl
    · refine ⟨by show 2 ≤ sizeLine; omega, by show 2 ≤ sizeLine; omega, by show 2 ≤ sizeLine; omega, .lst [.str ".left", .str ".right"], rfl, by show 2 ≤ sizeLine; omega, .str "room.w", rfl, by show 1 ≤ sizeLine; omega, ?_⟩
      have la : (".left" : Str).length ≤ 10 := by decide
      have lb : (".right" : Str).length ≤ 10 := by decide
      refine lcL_map (pairD ".left" ".right") (by rw [List.length_map]; show 0 + _ ≤ _; omega) (fun d Qt hd hq => ?_) ?_
      · obtain ⟨z, hz2, rfl⟩ := List.mem_map.mp hd
        have := hz z hz2
        exact ⟨.str ".left", rfl, by omega, .str ".right", rfl, by omega, by show 2 ≤ sizeLine; omega, hq⟩
      · refine ⟨(zs.map fun z => [D.str (z ++ ".left"), .str (z ++ ".right")]), by rw [List.nil_append, pair_map], ?_, ?_⟩
        · rw [pair_flat, List.length_map, suf_len]
          omega
        · rw [pair_flat]
          refine ⟨?_, List.prefix_refl _, q⟩
          rw [List.length_map, suf_len]
          show 1 + _ ≤ _
          omega
    · refine ⟨by show 2 ≤ sizeLine; omega, by show 2 ≤ sizeLine; omega, by show 2 ≤ sizeLine; omega, .lst [.str ".top", .str ".bottom"], rfl, by show 2 ≤ sizeLine; omega, .str "room.h", rfl, by show 1 ≤ sizeLine; omega, ?_⟩
      have la : (".top" : Str).length ≤ 10 := by decide
      have lb : (".bottom" : Str).length ≤ 10 := by decide
      refine lcL_map (pairD ".top" ".bottom") (by rw [List.length_map]; show 0 + _ ≤ _; omega) (fun d Qt hd hq => ?_) ?_
      · obtain ⟨z, hz2, rfl⟩ := List.mem_map.mp hd
        have := hz z hz2
        exact ⟨.str ".top", rfl, by omega, .str ".bottom", rfl, by omega, by show 2 ≤ sizeLine; omega, hq⟩
      · refine ⟨(zs.map fun z => [D.str (z ++ ".top"), .str (z ++ ".bottom")]), by rw [List.nil_append, pair_map], ?_, ?_⟩
        · rw [pair_flat, List.length_map, suf_len]
          omega
        · rw [pair_flat]
          refine ⟨?_, List.prefix_refl _, q⟩
          rw [List.length_map, suf_len]
          show 1 + _ ≤ _
          omega
abbrev s__law_any_expression : Stmt := top 38
abbrev N__law_any_expression : List Str := ["_law_bag_here", "_law_things", "_law_names_here"]
abbrev P__law_any_expression : List Str := ["_law_bag_here", "_law_things"]
theorem sc__law_any_expression : FnScope N__law_any_expression P__law_any_expression (defScope s__law_any_expression) := ⟨rfl, rfl, rfl, by decide +kernel, rfl, by decide +kernel, by decide +kernel⟩
def anyN (zs : List Str) : List Str := edgeN 0 zs ++ edgeN 1 zs ++ sufN ".w" ".h" zs ++ [("one" : Str)]
def spAnyD : SpD := fun ws m Q _ => ∃ (n : Nat) (zs : List Str), ws = [.loc n, .v (.lst (zs.map .str))] ∧ m[n]? = some .bag ∧ zs.length ≤ 100 ∧ (∀ z ∈ zs, z.length ≤ 100) ∧ ∀ its, exprOver (anyN zs) 6 its → Q (.v (.tup its)) m
theorem edge_len (zs : List Str) : (edgeN 0 zs).length = 1 + 2 * zs.length ∧ (edgeN 1 zs).length = 1 + 2 * zs.length := by
  constructor
  · show (sufN ".left" ".right" zs).length + 1 = _
    rw [suf_len]
    omega
  · show (sufN ".top" ".bottom" zs).length + 1 = _
    rw [suf_len]
    omega
theorem any_size {zs : List Str} (hz : ∀ z ∈ zs, z.length ≤ 100) : ∀ x ∈ anyN zs, x.length ≤ 200 := fun x hx => by
  have suf : ∀ a b : Str, a.length ≤ 10 → b.length ≤ 10 → x ∈ sufN a b zs → x.length ≤ 200 := fun a b la lb h => by
    obtain ⟨z, h1, h2⟩ := suf_mem h
    have := hz z h1
    rcases h2 with rfl | rfl <;> (rw [Str.length_append]; omega)
  unfold anyN at hx
  rcases List.mem_append.mp hx with hx | hx
  · rcases List.mem_append.mp hx with hx | hx
    · rcases List.mem_append.mp hx with hx | hx
      · rcases List.mem_cons.mp (show x ∈ ("room.w" : Str) :: sufN ".left" ".right" zs from hx) with rfl | hx
        · decide
        · exact suf _ _ (by decide) (by decide) hx
      · rcases List.mem_cons.mp (show x ∈ ("room.h" : Str) :: sufN ".top" ".bottom" zs from hx) with rfl | hx
        · decide
        · exact suf _ _ (by decide) (by decide) hx
    · exact suf _ _ (by decide) (by decide) hx
  · rw [List.mem_singleton.mp hx]
    decide
theorem dd__law_any_expression (G : Gs K mg "_law_any_expression" s__law_any_expression) (g__law_edge_names : Gd P w K mg base (L2.CX P w) 2 "_law_edge_names" P__law_edge_names (lift K spEgN)) (g__law_size_names : Gd P w K mg base (L2.CX P w) 2 "_law_size_names" P__law_size_names (lift K spSzN)) (g__law_expression : Gd P w K mg base (L2.CX P w) 4 "_law_expression" P__law_expression (lift K (spExpr K))) : Gd P w K mg base (L2.CX P w) 5 "_law_any_expression" P__law_any_expression (lift K spAnyD) := by
  refine Fo.gd (fo_d sc__law_any_expression (fun ws m Q Qx h => ?_) (fun f cdv A outer s H E hr => ⟨_, (dss_cons (ds_set (i := 2) sc__law_any_expression.nd rfl (.inl rfl) (d_op o_add (d_op o_add (d_op o_add (d_call g__law_edge_names (hr.mono (by omega)) (passE (takes_of rfl rfl rfl rfl)) (da_cons (dv 1) (da_cons d_int da_nil))) (d_call g__law_edge_names (hr.mono (by omega)) (passE (takes_of rfl rfl rfl rfl)) (da_cons (dv 1) (da_cons d_int da_nil)))) (d_call g__law_size_names (hr.mono (by omega)) (passE (takes_of rfl rfl rfl rfl)) (da_cons (dv 1) da_nil))) (d_lst (da_cons d_str da_nil))))
    (dss_one (ds_ret (d_call g__law_expression (hr.mono (by omega)) (passE (takes_of rfl rfl rfl rfl)) (da_cons (dv 0) (da_cons (dv 2) (da_cons d_int da_nil))))))), fun ws m Qd Qx h => ?_⟩) [] []) G (fun _ _ _ _ _ _ us hl => match us, hl with | [_, _], _ => rfl)
  · obtain ⟨_, _, rfl, _⟩ := h
    rfl
  · obtain ⟨n, zs, rfl, hm, hl, hz, q⟩ := h
    have ln := sizeLine_eq
    obtain ⟨l0, l1⟩ := edge_len zs
    have l2 := suf_len ".w" ".h" zs
    refine ⟨zs, 0, rfl, by decide, hl, hz, zs, 1, rfl, by decide, hl, hz, by rw [List.length_map, List.length_map]; omega, zs, rfl, hl, hz, by rw [List.length_append, List.length_map, List.length_map, List.length_map]; omega, by show 1 ≤ sizeLine; omega, ?_, ?_⟩
    · rw [List.length_append, List.length_append, List.length_map, List.length_map, List.length_map]
      show _ + 1 ≤ _
      omega
    · have e : (((edgeN 0 zs).map D.str ++ (edgeN 1 zs).map D.str) ++ (sufN ".w" ".h" zs).map D.str) ++ [D.str "one"] = (anyN zs).map D.str := by
        unfold anyN
        rw [List.map_append, List.map_append, List.map_append]
        rfl
      refine ⟨n, anyN zs, 6, ?_, hm, ?_, ?_, by decide, by decide, fun its hi => ⟨List.prefix_refl _, q its hi⟩⟩
      · rw [← e]
        rfl
      · unfold anyN
        simp
      · unfold anyN
        rw [List.length_append, List.length_append, List.length_append]
        show _ + 1 ≤ _
        omega
end
end Fs
set_option Elab.async false
set_option linter.all false
set_option maxRecDepth 100000
set_option maxHeartbeats 8000000
namespace Fs
open PySem PySem.Spec PyProof.Rows L2
abbrev XT := List ((Int × Int) × Str)
abbrev itD (x : (Int × Int) × Str) : D := .tup [frD x.1, .str x.2]
abbrev ET := List (Str × FT)
def edgeOf (E : ET) (z : Str) : FT := (E.lookup z).getD [(z, (1, 1))]
abbrev linesK (C : Addr) (E : ET) : List (Key × D) := E.map fun e => (.inr e.1, lineD C e.2)
abbrev tabsK (E : ET) : List (Key × D) := E.map fun e => (.inr e.1, .dic (kvF e.2))
theorem valD_mapE {h : FT → D} {k : Str} : ∀ {E : ET}, valD (E.map fun e => ((.inr e.1 : Key), h e.2)) (.inr k) = (E.lookup k).map h
  | [] => rfl
  | (g, v) :: l => by
    rw [List.lookup_cons]
    by_cases c : k = g
    · subst c
      simp [valD, List.find?_cons]
    · have e : (k == g) = false := by simpa using c
      rw [e]
      have ne : ¬ (Sum.inr g : Key) = .inr k := fun z => c (Sum.inr.inj z).symm
      have z : valD (((g, v) :: l).map fun e => ((.inr e.1 : Key), h e.2)) (.inr k) = valD (l.map fun e => ((.inr e.1 : Key), h e.2)) (.inr k) := by
        simp [valD, List.find?_cons, ne]
      rw [z, valD_mapE]
/-- a table of an edge -/
structure EdT (e : FT) : Prop where
  nd : (keyF e).Nodup
  pos : PosF (getF (lk e)) 40
  len : e.length ≤ 4
def EdOk (E : ET) : Prop := ∀ p ∈ E, EdT p.2
theorem pos_11 (z : Str) : EdT [(z, ((1, 1) : Int × Int))] := by
  have g : ∀ k, getF (lk [(z, ((1, 1) : Int × Int))]) k = (1, 1) ∨ getF (lk [(z, ((1, 1) : Int × Int))]) k = (0, 1) := fun k => by
    unfold getF
    show (List.lookup k [(z, ((1, 1) : Int × Int))]).getD (0, 1) = _ ∨ (List.lookup k [(z, ((1, 1) : Int × Int))]).getD (0, 1) = _
    rw [List.lookup_cons]
    by_cases c : (k == z) = true
    · rw [c]
      exact .inl rfl
    · rw [Bool.not_eq_true] at c
      rw [c]
      exact .inr rfl
  refine ⟨by simp [keyF], ⟨fun k => ?_, fun k => ?_⟩, by show 1 ≤ 4; decide⟩
  · rcases g k with e | e <;> rw [e]
    · exact low_11
    · exact low_01
  · rcases g k with e | e <;> rw [e] <;> exact ⟨by decide, by decide⟩
theorem look_memE {E : ET} {z : Str} {e : FT} (h : E.lookup z = some e) : (z, e) ∈ E := by
  induction E with
  | nil => cases h
  | cons p r ih =>
    obtain ⟨g, v⟩ := p
    rw [List.lookup_cons] at h
    by_cases c : z = g
    · subst c
      rw [beq_self_eq_true] at h
      cases h
      exact List.mem_cons_self ..
    · have q : (z == g) = false := by simpa using c
      rw [q] at h
      exact List.mem_cons_of_mem _ (ih h)
theorem EdOk.get {E : ET} (h : EdOk E) (z : Str) : EdT (edgeOf E z) := by
  unfold edgeOf
  cases e : E.lookup z with
  | none => exact pos_11 z
  | some v => exact h _ (look_memE e)
theorem EdT.okB {e : FT} (h : EdT e) : OkB e := by
  have g : ∀ k p, e.lookup k = some p → getF (lk e) k = p := fun k p q => by
    unfold getF
    have q : lk e k = some p := q
    rw [q]
    rfl
  exact ⟨h.nd, fun k p q => g k p q ▸ h.pos.low k, fun k p q => g k p q ▸ (h.pos.sz k).mono (by decide)⟩
def stepF (E : ET) (F : Str → Int × Int) (x : (Int × Int) × Str) : Str → Int × Int := fun k => plusI (F k) (timesI (getF (lk (edgeOf E x.2)) k) x.1)
def lineFn (E : ET) (xs : XT) : Str → Int × Int := xs.foldl (stepF E) fun _ => (0, 1)
theorem lineFn_snoc {E : ET} {xs : XT} {x : (Int × Int) × Str} : lineFn E (xs ++ [x]) = stepF E (lineFn E xs) x := by
  unfold lineFn
  rw [List.foldl_append]
  rfl
theorem lowP_F {p : Int × Int} (h : lowP p) : LowF p ∧ szF 4 p := by
  obtain ⟨h1, h2, h3, h4, h5⟩ := h
  have e : (2 : Nat) ^ 4 = 16 := rfl
  exact ⟨⟨h1, h5⟩, by rw [e]; omega, by rw [e]; omega⟩
def XOk (xs : XT) : Prop := ∀ x ∈ xs, lowP x.1
theorem snocInd {α : Type} {P : List α → Prop} (h0 : P []) (h1 : ∀ xs x, P xs → P (xs ++ [x])) (xs : List α) : P xs := by
  have z : ∀ n, P (xs.take n) := fun n => by
    induction n with
    | zero => exact h0
    | succ n ih =>
      rw [List.take_add_one]
      cases xs[n]? with
      | none => simpa using ih
      | some x => exact h1 _ _ ih
  have e := z xs.length
  rw [List.take_length] at e
  exact e
theorem lineFn_pos {E : ET} (he : EdOk E) (xs : XT) : XOk xs → PosF (lineFn E xs) (1 + 45 * xs.length) := by
  refine snocInd (P := fun xs => XOk xs → PosF (lineFn E xs) (1 + 45 * xs.length)) (fun _ => ⟨fun _ => low_01, fun _ => ⟨by show (0 : Int).natAbs < 2 ^ 1; decide, by show (1 : Int).natAbs < 2 ^ 1; decide⟩⟩) (fun xs x ih h => ?_) xs
  have z := ih fun y hy => h y (List.mem_append.mpr (.inl hy))
  obtain ⟨lp, sp⟩ := lowP_F (h x (List.mem_append.mpr (.inr (List.mem_singleton.mpr rfl))))
  have ed := (he.get x.2).pos
  rw [lineFn_snoc]
  refine ⟨fun k => plus_low (z.low k).1 (times_low (ed.low k).1 lp.1).1, fun k => ?_⟩
  refine (plus_sz (z.low k).1 (times_low (ed.low k).1 lp.1).1 (z.sz k) (times_sz (ed.low k).1 lp.1 (ed.sz k) sp)).mono ?_
  rw [List.length_append, List.length_singleton]
  omega
theorem lineFn_key {E : ET} (xs : XT) : XOk xs → ∀ {k : Str}, lineFn E xs k ≠ (0, 1) → k ∈ xs.flatMap fun x => keyF (edgeOf E x.2) := by
  refine snocInd (P := fun xs => XOk xs → ∀ {k : Str}, lineFn E xs k ≠ (0, 1) → k ∈ xs.flatMap fun x => keyF (edgeOf E x.2)) (fun _ k h => absurd rfl h) (fun xs x ih h k hk => ?_) xs
  rw [List.flatMap_append]
  have hx : XOk xs := fun y hy => h y (List.mem_append.mpr (.inl hy))
  obtain ⟨lp, _⟩ := lowP_F (h x (List.mem_append.mpr (.inr (List.mem_singleton.mpr rfl))))
  by_cases c1 : lineFn E xs k = (0, 1)
  · by_cases c2 : k ∈ keyF (edgeOf E x.2)
    · exact List.mem_append.mpr (.inr (by simpa using c2))
    · refine absurd ?_ hk
      rw [lineFn_snoc]
      unfold stepF
      rw [c1, getF_out c2, times_zero lp]
      decide +kernel
  · exact List.mem_append.mpr (.inl (ih hx c1))
theorem flat_len {f : (Int × Int) × Str → List Str} {c : Nat} (h : ∀ x, (f x).length ≤ c) : ∀ xs : XT, (xs.flatMap f).length ≤ c * xs.length
  | [] => Nat.le_refl _
  | x :: xs => by
    rw [List.flatMap_cons, List.length_append, List.length_cons, Nat.mul_succ]
    have := h x
    have := flat_len h xs
    omega
theorem lineFn_len {E : ET} (he : EdOk E) {xs : XT} (hx : XOk xs) {l : FT} (T : Tab l (fun k => nzF (lineFn E xs k))) : l.length ≤ 4 * xs.length := by
  have z := len_sub (ys := keyF l) T.nd fun k hk => lineFn_key xs hx (nzF_key T hk)
  rw [keyF, List.length_map] at z
  exact Nat.le_trans z (flat_len (fun x => by rw [keyF, List.length_map]; exact (he.get x.2).len) xs)
theorem okB_of {s : FT} {h : Str → Int × Int} {e : Nat} (T : Tab s (fun k => nzF (h k))) (po : PosF h e) (le : e ≤ bigE) : OkB s := by
  have z : ∀ k p, s.lookup k = some p → p = h k := fun k p e => by
    have g := nzF_getF T k
    unfold getF at g
    have e : lk s k = some p := e
    rw [e] at g
    exact g
  exact ⟨T.nd, fun k p e => z k p e ▸ po.low k, fun k p e => z k p e ▸ (po.sz k).mono le⟩
section
variable {P : Program} {w : World} {K : Frag} {mg : Str → Option Value} {base : Heap} {C : Addr}
def spLineOf (C : Addr) : SpD := fun ws m Q _ => ∃ (xs : XT) (y : W) (E : ET), ws = [.v (.tup (xs.map itD)), y] ∧ look y m (fun d => d = .dic (linesK C E)) ∧ EdOk E ∧ XOk xs ∧ xs.length ≤ 6 ∧ ∀ l, Tab l (fun k => nzF (lineFn E xs k)) → Q (.v (lineD C l)) m
abbrev s_line_of : Stmt := top 16
abbrev N_line_of : List Str := ["expression", "edges", "found", "factor", "name"]
abbrev P_line_of : List Str := ["expression", "edges"]
theorem sc_line_of : FnScope N_line_of P_line_of (defScope s_line_of) := ⟨rfl, rfl, rfl, by decide +kernel, rfl, by decide +kernel, by decide +kernel⟩
theorem fo_line_of (gL : GmC P w K mg base 3 "Line" C (spInit C)) (c_Line : mg "Line" = some (.ref C)) (gUnk : GmF P w K mg base 6 C "unknown" (spUnknown C)) (sfL : PySem.W.selfFirst K C = true) (gAdd : GmS P w K mg base 6 C (PySem.dunder (Operator.Add).info.2) (spAddB C)) (bM : BinT K C .Mult) (gMul : GmS P w K mg base 6 C (PySem.dunder (Operator.Mult).info.2) (spMulB C)) :
    Fo P w K mg base (L2.CX P w) 8 "line_of" s_line_of [] [] P_line_of (lift K (spLineOf C)) := by
  refine fo_d sc_line_of (fun ws m Q Qx h => ?_) (fun f cdv A outer s H E hr => ⟨_, (dss_cons (ds_set (i := 2) sc_line_of.nd rfl (.inl rfl) (d_mk gL (hr.mono (by omega)) (passE (takes_of rfl rfl rfl rfl)) (da_cons (d_dfz d_dnw) da_nil)))
    (dss_cons (ds_for (passes_of rfl) rfl (di_seq (dv 0)) (dg_tup (n := 2) rfl (dgs_cons (dg_name (i := 3) sc_line_of.nd rfl (.inl rfl)) (dgs_cons (dg_name (i := 4) sc_line_of.nd rfl (.inl rfl)) dgs_nil)))
      (dss_one (ds_set (i := 2) sc_line_of.nd rfl (.inl rfl) (d_op (o_own sfL gAdd (hr.mono (by omega))) (dv 2) (d_op (o_ownT bM gMul (hr.mono (by omega))) (d_dg (u65 hr) (dv 1) (dv 4) (d_cm gUnk (hr.mono (by omega)) (passE (takes_of rfl rfl rfl rfl)) (d_glob (v := .ref C) (d := .fn C) c_Line rfl (fun _ => .fn C)) (da_cons (dv 4) da_nil))) (dv 3))))))
    (dss_one (ds_ret (dv 2))))), fun ws m Qd Qx h => ?_⟩) [] []
  · obtain ⟨_, _, _, rfl, _⟩ := h
    rfl
  obtain ⟨xs, y, E, rfl, hy, he, hx, hl, q⟩ := h
  have ln := sizeLine_eq
  rw [tDfz_eq]
  simp only [sSeq, sPar, sAsg, sSet, sExpr, sRet, sDpt, tTu, tLs, tCn, tN, tMk, tMkK, tMth, tCm, tCal, tV, tK, tDfzK, tDnw, tDs1, gTp, gCn, gN, gNl, List.set, En.get, List.getElem?_cons_zero, List.getElem?_cons_succ, Option.getD_some, oDs, oD, keyD, List.map_cons, List.map_nil]
  refine fzK_last ?_
  refine mk_init (y := .v (.dic [])) (l := []) rfl List.nodup_nil (by show 0 < 64; decide) fun w0 T0 => ?_
  have ez : w0 = [] := T0.uniq (tab_nil.congr fun k => rfl)
  subst ez
  have hy' : look y (m ++ [MO.gone]) (fun d => d = .dic (linesK C E)) := look_app hy
  show sForL _ _ (xs.map itD) _ _ _
  refine sFor0 (fun i en m' => ∃ l a b, en = [some (.v (.tup (xs.map itD))), some y, some (.v (lineD C l)), a, b] ∧ m' = m ++ [MO.gone] ∧ Tab l (fun k => nzF (lineFn E (xs.take i) k))) ⟨[], none, none, rfl, rfl, tab_nil.congr fun k => nzF_0.symm⟩ (fun j d en m' N' hd hi r1 r2 r3 hn => ?_) (fun en m' hi => ?_)
  · obtain ⟨l, a, b, rfl, rfl, T⟩ := hi
    rw [List.getElem?_map] at hd
    obtain ⟨x, hxj, rfl⟩ := Option.map_eq_some_iff.mp hd
    have tk : xs.take (j + 1) = xs.take j ++ [x] := by
      rw [List.take_add_one, hxj]
      rfl
    have hx' : XOk (xs.take j) := fun y hy => hx y (List.mem_of_mem_take hy)
    obtain ⟨lp, sp⟩ := lowP_F (hx x (List.mem_of_getElem? hxj))
    have jl : (xs.take j).length ≤ 6 := Nat.le_trans (List.length_take_le' j xs) hl
    have ed := he.get x.2
    have pos := lineFn_pos he (xs.take j) hx'
    have ob := okB_of T pos (by have e : bigE = 4000 := rfl; omega)
    have ll := lineFn_len he hx' T
    refine ⟨rfl, look_use hy' ?_⟩
    refine ⟨rfl, x.2, rfl, fun e0 T1 => ?_⟩
    have e1 : e0 = [(x.2, ((1, 1) : Int × Int))] := T1.uniq (tab_one (by decide))
    subst e1
    refine look_use hy' ?_
    have ev : (valD (linesK C E) (.inr x.2)).getD (lineD C [(x.2, (1, 1))]) = lineD C (edgeOf E x.2) := by
      rw [valD_mapE (h := lineD C)]
      unfold edgeOf
      cases E.lookup x.2 <;> rfl
    simp only [sSeq, sPar, sAsg, sSet, sExpr, sRet, sDpt, tTu, tLs, tCn, tN, tMk, tMkK, tMth, tCm, tCal, tV, tK, tDfzK, tDnw, tDs1, gTp, gCn, gN, gNl, List.set, En.get, List.getElem?_cons_zero, List.getElem?_cons_succ, Option.getD_some, oDs, oD, keyD, List.map_cons, List.map_nil, look, dicD]
    rw [ev]
    have el := ed.len
    refine ⟨⟨_, _, rfl, rfl⟩, edgeOf E x.2, x.1, rfl, ed.okB, lp, sp.mono (by decide), by omega, fun u U => ⟨rfl, ?_⟩⟩
    have U' := bind_nz lp U
    have ul := mul_len U
    have up : PosF (fun k => timesI (getF (lk (edgeOf E x.2)) k) x.1) 44 := ⟨fun k => times_low (ed.pos.low k).1 lp.1, fun k => times_sz (ed.pos.low k).1 lp.1 (ed.pos.sz k) sp⟩
    refine ⟨⟨_, _, rfl, rfl⟩, l, u, rfl, ob, okB_of U' up (by decide), by omega, fun l' T' => ⟨rfl, ?_⟩⟩
    refine (hn _ _ ⟨l', _, _, rfl, rfl, T'.congr fun k => ?_⟩).1
    rw [tk, lineFn_snoc, nzF_getF T, nzF_getF U']
    rfl
  · obtain ⟨l, a, b, rfl, rfl, T⟩ := hi
    rw [List.length_map, List.take_length] at T
    exact ⟨List.prefix_append _ _, q l T⟩
def spLLine : SpD := fun ws m Q _ => ∃ (xs : XT) (y : W) (E : ET), ws = [.v (.tup (xs.map itD)), y] ∧ look y m (fun d => d = .dic (tabsK E)) ∧ EdOk E ∧ XOk xs ∧ xs.length ≤ 6 ∧ ∀ l, Tab l (fun k => nzF (lineFn E xs k)) → Q (.v (.dic (kvF l))) m
abbrev s__law_line : Stmt := top 36
abbrev N__law_line : List Str := ["_law_expression_z", "_law_edges_z", "_law_found", "_law_factor_here", "_law_name"]
abbrev P__law_line : List Str := ["_law_expression_z", "_law_edges_z"]
theorem sc__law_line : FnScope N__law_line P__law_line (defScope s__law_line) := ⟨rfl, rfl, rfl, by decide +kernel, rfl, by decide +kernel, by decide +kernel⟩
theorem dd__law_line (G : Gs K mg "_law_line" s__law_line) (g__law_add : Gd P w K mg base (L2.CX P w) 4 "_law_add" P__law_add (lift K spAddFB)) : Gd P w K mg base (L2.CX P w) 6 "_law_line" P__law_line (lift K spLLine) := by
  refine Fo.gd (fo_d sc__law_line (fun ws m Q Qx h => ?_) (fun f cdv A outer s H E hr => ⟨_, (dss_cons (ds_set (i := 2) sc__law_line.nd rfl (.inl rfl) (d_dfz d_dnw))
    (dss_cons (ds_for (passes_of rfl) rfl (di_seq (dv 0)) (dg_tup (n := 2) rfl (dgs_cons (dg_name (i := 3) sc__law_line.nd rfl (.inl rfl)) (dgs_cons (dg_name (i := 4) sc__law_line.nd rfl (.inl rfl)) dgs_nil)))
      (dss_one (ds_set (i := 2) sc__law_line.nd rfl (.inl rfl) (d_call g__law_add (hr.mono (by omega)) (passE (takes_of rfl rfl rfl rfl)) (da_cons (dv 2) (da_cons (d_dg (u65 hr) (dv 1) (dv 4) (d_ds1 (dv 4) (d_tup (da_cons d_int (da_cons d_int da_nil))))) (da_cons (dv 3) da_nil)))))))
    (dss_one (ds_ret (dv 2))))), fun ws m Qd Qx h => ?_⟩) [] []) G (fun _ _ _ _ _ _ us hl => match us, hl with | [_, _], _ => rfl)
  · obtain ⟨_, _, _, rfl, _⟩ := h
    rfl
  obtain ⟨xs, y, E, rfl, hy, he, hx, hl, q⟩ := h
  have ln := sizeLine_eq
  rw [tDfz_eq]
  simp only [sSeq, sPar, sAsg, sSet, sExpr, sRet, sDpt, tTu, tLs, tCn, tN, tMk, tMkK, tMth, tCm, tCal, tV, tK, tDfzK, tDnw, tDs1, gTp, gCn, gN, gNl, List.set, En.get, List.getElem?_cons_zero, List.getElem?_cons_succ, Option.getD_some, oDs, oD, keyD, List.map_cons, List.map_nil]
  refine fzK_last ?_
  have hy' : look y (m ++ [MO.gone]) (fun d => d = .dic (tabsK E)) := look_app hy
  show sForL _ _ (xs.map itD) _ _ _
  refine sFor0 (fun i en m' => ∃ l a b, en = [some (.v (.tup (xs.map itD))), some y, some (.v (.dic (kvF l))), a, b] ∧ m' = m ++ [MO.gone] ∧ Tab l (fun k => nzF (lineFn E (xs.take i) k))) ⟨[], none, none, rfl, rfl, tab_nil.congr fun k => nzF_0.symm⟩ (fun j d en m' N' hd hi r1 r2 r3 hn => ?_) (fun en m' hi => ?_)
  · obtain ⟨l, a, b, rfl, rfl, T⟩ := hi
    rw [List.getElem?_map] at hd
    obtain ⟨x, hxj, rfl⟩ := Option.map_eq_some_iff.mp hd
    have tk : xs.take (j + 1) = xs.take j ++ [x] := by
      rw [List.take_add_one, hxj]
      rfl
    have hx' : XOk (xs.take j) := fun y hy => hx y (List.mem_of_mem_take hy)
    obtain ⟨lp, sp⟩ := lowP_F (hx x (List.mem_of_getElem? hxj))
    have jl : (xs.take j).length ≤ 6 := Nat.le_trans (List.length_take_le' j xs) hl
    have ed := he.get x.2
    have pos := lineFn_pos he (xs.take j) hx'
    have ob := okB_of T pos (by have e : bigE = 4000 := rfl; omega)
    have ll := lineFn_len he hx' T
    have el := ed.len
    refine ⟨rfl, look_use hy' ?_⟩
    refine ⟨by show 2 ≤ sizeLine; omega, look_use hy' ?_⟩
    have ev : (valD (tabsK E) (.inr x.2)).getD (.dic [(.inr x.2, .tup [.int 1, .int 1])]) = .dic (kvF (edgeOf E x.2)) := by
      rw [valD_mapE (h := fun e => .dic (kvF e))]
      unfold edgeOf
      cases E.lookup x.2 <;> rfl
    simp only [sSeq, sPar, sAsg, sSet, sExpr, sRet, sDpt, tTu, tLs, tCn, tN, tMk, tMkK, tMth, tCm, tCal, tV, tK, tDfzK, tDnw, tDs1, gTp, gCn, gN, gNl, List.set, En.get, List.getElem?_cons_zero, List.getElem?_cons_succ, Option.getD_some, oDs, oD, keyD, List.map_cons, List.map_nil, look, dicD]
    rw [ev]
    have up : PosF (fun k => timesI (getF (lk (edgeOf E x.2)) k) x.1) 44 := ⟨fun k => times_low (ed.pos.low k).1 lp.1, fun k => times_sz (ed.pos.low k).1 lp.1 (ed.pos.sz k) sp⟩
    refine ⟨l, edgeOf E x.2, x.1, rfl, ob, ed.okB, lp, sp.mono (by decide), by omega, fun k => (up.sz k).mono (by decide), fun l' T' => ?_⟩
    refine (hn _ _ ⟨l', _, _, rfl, rfl, T'.congr fun k => ?_⟩).1
    unfold addI
    rw [tk, lineFn_snoc, nzF_getF T]
    rfl
  · obtain ⟨l, a, b, rfl, rfl, T⟩ := hi
    rw [List.length_map, List.take_length] at T
    exact ⟨List.prefix_append _ _, q l T⟩
/-- the value of an expression at values -/
def stepV (g : FT) (a : Int × Int) (x : (Int × Int) × Str) : Int × Int := plusI a (timesI x.1 (if x.2 = "one" then (1, 1) else getF (lk g) x.2))
def valX (g : FT) (xs : XT) : Int × Int := xs.foldl (stepV g) (0, 1)
theorem valX_snoc {g : FT} {xs : XT} {x : (Int × Int) × Str} : valX g (xs ++ [x]) = stepV g (valX g xs) x := by
  unfold valX
  rw [List.foldl_append]
  rfl
def wgt (g : FT) (z : Str) : Int × Int := if z = "one" then (1, 1) else getF (lk g) z
theorem wgt_pos {g : FT} {e : Nat} (p : PosF (getF (lk g)) e) (he : 1 ≤ e) (z : Str) : LowF (wgt g z) ∧ szF e (wgt g z) := by
  unfold wgt
  by_cases c : z = "one"
  · rw [if_pos c]
    exact ⟨low_11, (show szF 1 ((1, 1) : Int × Int) from ⟨by decide, by decide⟩).mono he⟩
  · rw [if_neg c]
    exact ⟨p.low z, p.sz z⟩
theorem valX_ok {g : FT} {e : Nat} (p : PosF (getF (lk g)) e) (he : 1 ≤ e) (xs : XT) : XOk xs → LowF (valX g xs) ∧ szF (1 + (e + 5) * xs.length) (valX g xs) := by
  refine snocInd (P := fun xs => XOk xs → LowF (valX g xs) ∧ szF (1 + (e + 5) * xs.length) (valX g xs)) (fun _ => ⟨low_01, ⟨by show (0 : Int).natAbs < 2 ^ 1; decide, by show (1 : Int).natAbs < 2 ^ 1; decide⟩⟩) (fun xs x ih h => ?_) xs
  obtain ⟨z1, z2⟩ := ih fun y hy => h y (List.mem_append.mpr (.inl hy))
  obtain ⟨lp, sp⟩ := lowP_F (h x (List.mem_append.mpr (.inr (List.mem_singleton.mpr rfl))))
  obtain ⟨w1, w2⟩ := wgt_pos p he x.2
  rw [valX_snoc]
  refine ⟨plus_low z1.1 (times_low lp.1 w1.1).1, (plus_sz z1.1 (times_low lp.1 w1.1).1 z2 (times_sz lp.1 w1.1 sp w2)).mono ?_⟩
  rw [List.length_append, List.length_singleton, Nat.mul_add]
  omega
def spLVal : SpD := fun ws m Q _ => ∃ (xs : XT) (y : W) (g : FT) (e : Nat), ws = [.v (.tup (xs.map itD)), y] ∧ look y m (fun d => d = .dic (kvF g)) ∧ PosF (getF (lk g)) e ∧ 1 ≤ e ∧ e ≤ 500 ∧ XOk xs ∧ xs.length ≤ 6 ∧ Q (.v (frD (valX g xs))) m
abbrev s__law_value : Stmt := top 35
abbrev N__law_value : List Str := ["_law_expression_z", "_law_values", "_law_found", "_law_factor_here", "_law_name"]
abbrev P__law_value : List Str := ["_law_expression_z", "_law_values"]
theorem sc__law_value : FnScope N__law_value P__law_value (defScope s__law_value) := ⟨rfl, rfl, rfl, by decide +kernel, rfl, by decide +kernel, by decide +kernel⟩
theorem dd__law_value (G : Gs K mg "_law_value" s__law_value) (g__law_plus : Gd P w K mg base (L2.CX P w) 2 "_law_plus" P__law_plus (lift K (spTwoB plusI))) (g__law_times : Gd P w K mg base (L2.CX P w) 2 "_law_times" P__law_times (lift K (spTwoB timesI))) : Gd P w K mg base (L2.CX P w) 4 "_law_value" P__law_value (lift K spLVal) := by
  refine Fo.gd (fo_d sc__law_value (fun ws m Q Qx h => ?_) (fun f cdv A outer s H E hr => ⟨_, (dss_cons (ds_set (i := 2) sc__law_value.nd rfl (.inl rfl) (d_tup (da_cons d_int (da_cons d_int da_nil))))
    (dss_cons (ds_for (passes_of rfl) rfl (di_seq (dv 0)) (dg_tup (n := 2) rfl (dgs_cons (dg_name (i := 3) sc__law_value.nd rfl (.inl rfl)) (dgs_cons (dg_name (i := 4) sc__law_value.nd rfl (.inl rfl)) dgs_nil)))
      (dss_one (ds_set (i := 2) sc__law_value.nd rfl (.inl rfl) (d_call g__law_plus (hr.mono (by omega)) (passE (takes_of rfl rfl rfl rfl)) (da_cons (dv 2) (da_cons (d_call g__law_times (hr.mono (by omega)) (passE (takes_of rfl rfl rfl rfl)) (da_cons (dv 3) (da_cons (d_if (dt_cmp (o_eq (u64 hr)) (dv 4) d_str (nomark _)) (d_tup (da_cons d_int (da_cons d_int da_nil))) (d_dg (u65 hr) (dv 1) (dv 4) (d_tup (da_cons d_int (da_cons d_int da_nil))))) da_nil))) da_nil))))))
    (dss_one (ds_ret (dv 2))))), fun ws m Qd Qx h => ?_⟩) [] []) G (fun _ _ _ _ _ _ us hl => match us, hl with | [_, _], _ => rfl)
  · obtain ⟨_, _, _, _, rfl, _⟩ := h
    rfl
  obtain ⟨xs, y, g, e, rfl, hy, pg, he1, he2, hx, hl, q⟩ := h
  have ln := sizeLine_eq
  refine ⟨by show 2 ≤ sizeLine; omega, ?_⟩
  show sForL _ _ (xs.map itD) _ _ _
  refine sFor0 (fun i en m' => ∃ a b, en = [some (.v (.tup (xs.map itD))), some y, some (.v (frD (valX g (xs.take i)))), a, b] ∧ m' = m) ⟨none, none, rfl, rfl⟩ (fun j d en m' N' hd hi r1 r2 r3 hn => ?_) (fun en m' hi => ?_)
  · obtain ⟨a, b, rfl, rfl⟩ := hi
    rw [List.getElem?_map] at hd
    obtain ⟨x, hxj, rfl⟩ := Option.map_eq_some_iff.mp hd
    have tk : xs.take (j + 1) = xs.take j ++ [x] := by
      rw [List.take_add_one, hxj]
      rfl
    have hx' : XOk (xs.take j) := fun y hy => hx y (List.mem_of_mem_take hy)
    obtain ⟨lp, sp⟩ := lowP_F (hx x (List.mem_of_getElem? hxj))
    have jl : (xs.take j).length ≤ 6 := Nat.le_trans (List.length_take_le' j xs) hl
    obtain ⟨v1, v2⟩ := valX_ok pg he1 (xs.take j) hx'
    obtain ⟨w1, w2⟩ := wgt_pos pg he1 x.2
    have eb : bigE = 4000 := rfl
    have vz : szF bigE (valX g (xs.take j)) := v2.mono (by have : (e + 5) * (xs.take j).length ≤ (e + 5) * 6 := Nat.mul_le_mul_left _ jl; omega)
    have fin : spTwoB timesI [.v (frD x.1), .v (frD (wgt g x.2))] m' (fun r m1 => spTwoB plusI [.v (frD (valX g (xs.take j))), r] m1 (fun r m1 => N'.nx [some (.v (.tup (xs.map itD))), some y, some r, some (.v (frD x.1)), some (.v (.str x.2))] m1) N'.xc) N'.xc := by
      refine ⟨_, _, rfl, lp.1, w1.1, sp.mono (by decide), w2.mono (by omega), ?_⟩
      refine ⟨_, _, rfl, v1.1, (times_low lp.1 w1.1).1, vz, (times_sz lp.1 w1.1 sp w2).mono (by omega), ?_⟩
      refine (hn _ _ ⟨some (.v (frD x.1)), some (.v (.str x.2)), ?_, rfl⟩).1
      rw [tk, valX_snoc]
      rfl
    refine ⟨rfl, rfl, rfl, Nat.zero_le _, Nat.zero_le _, ?_⟩
    show if (x.2 == ("one" : Str)) = true then _ else _
    refine iteB (fun t => ?_) (fun t => ?_)
    · refine ⟨by show 2 ≤ sizeLine; omega, ?_⟩
      have e2 : wgt g x.2 = (1, 1) := if_pos (by simpa using t)
      rw [e2] at fin
      exact fin
    · refine look_use hy ⟨by show 2 ≤ sizeLine; omega, look_use hy ?_⟩
      have e2 : wgt g x.2 = getF (lk g) x.2 := if_neg (by simpa using t)
      have e3 : (valD (kvF g) (Sum.inr x.2)).getD (D.tup [.int 0, .int 1]) = frD (getF (lk g) x.2) := val_get
      simp only [sSeq, sPar, sAsg, sSet, sExpr, sRet, sDpt, tTu, tLs, tCn, tN, tMk, tMkK, tMth, tCm, tCal, tV, tK, tDfzK, tDnw, tDs1, gTp, gCn, gN, gNl, List.set, En.get, List.getElem?_cons_zero, List.getElem?_cons_succ, Option.getD_some, oDs, oD, keyD, List.map_cons, List.map_nil, look, dicD]
      rw [e3]
      rw [e2] at fin
      exact fin
  · obtain ⟨a, b, rfl, rfl⟩ := hi
    rw [List.length_map, List.take_length]
    exact ⟨List.prefix_refl _, q⟩
end
end Fs
set_option Elab.async false
set_option linter.all false
set_option maxRecDepth 100000
set_option maxHeartbeats 8000000
namespace Fs
open PySem PySem.Spec PyProof.Rows L2
def VU (F G : Str → Int × Int) (U : List Str) : Rat := qF (F "one") + sumR (fun k => qF (F k) * qF (G k)) U
theorem valL_qU {l g : FT} {U : List Str} {a b : Nat} (nd : (keyF l).Nodup) (pl : PosF (getF (lk l)) a) (pg : PosF (getF (lk g)) b) (nU : U.Nodup) (o : ("one" : Str) ∉ U) (sub : ∀ k ∈ keyF l, k ∈ U ∨ k = "one") : qF (valL l g) = VU (getF (lk l)) (getF (lk g)) U := by
  unfold valL VU
  rw [sumV_q pl pg (pl.low _)]
  congr 1
  refine sumR_sup (nd.filter _) nU (fun k hk => ?_) (fun k hk nk => ?_)
  · obtain ⟨h1, h2⟩ := List.mem_filter.mp hk
    rcases sub k h1 with h | h
    · exact h
    · subst h
      exact absurd h2 (by decide +kernel)
  · have ne : k ≠ "one" := fun e => o (e ▸ hk)
    have nk2 : k ∉ keyF l := fun z => nk (List.mem_filter.mpr ⟨z, by unfold notOne; simpa using ne⟩)
    rw [getF_out nk2, q_zero, Rat.zero_mul]
theorem sumR_zero {G : Str → Rat} : ∀ {U : List Str}, sumR (fun k => (0 : Rat) * G k) U = 0
  | [] => rfl
  | k :: U => by
    have ih := sumR_zero (G := G) (U := U)
    show 0 * G k + sumR (fun k => (0 : Rat) * G k) U = 0
    rw [ih]
    grind
theorem VU_step {E : ET} (he : EdOk E) {F G : Str → Int × Int} {U : List Str} {a : Nat} {x : (Int × Int) × Str} (pF : PosF F a) (lp : LowF x.1) : VU (stepF E F x) G U = VU F G U + VU (getF (lk (edgeOf E x.2))) G U * qF x.1 := by
  have ed := (he.get x.2).pos
  have st : ∀ k, qF (stepF E F x k) = qF (F k) + qF (getF (lk (edgeOf E x.2)) k) * qF x.1 := fun k => by
    unfold stepF
    rw [q_plus (pF.low k).1 (times_low (ed.low k).1 lp.1).1, q_times (ed.low k).1 lp.1]
  unfold VU
  rw [st]
  have e : sumR (fun k => qF (stepF E F x k) * qF (G k)) U = sumR (fun k => qF (F k) * qF (G k)) U + sumR (fun k => qF (getF (lk (edgeOf E x.2)) k) * qF (G k)) U * qF x.1 := by
    rw [← sumR_mul, ← sumR_add]
    refine sumR_congr fun k _ => ?_
    rw [st]
    grind
  rw [e]
  grind
theorem VU_line {E : ET} (he : EdOk E) {g : FT} {G : Str → Int × Int} {U : List Str} {e : Nat} (pg : PosF (getF (lk g)) e) (h1 : 1 ≤ e) (xs : XT) : XOk xs → (∀ x ∈ xs, VU (getF (lk (edgeOf E x.2))) G U = qF (wgt g x.2)) → VU (lineFn E xs) G U = qF (valX g xs) := by
  refine snocInd (P := fun xs => XOk xs → (∀ x ∈ xs, VU (getF (lk (edgeOf E x.2))) G U = qF (wgt g x.2)) → VU (lineFn E xs) G U = qF (valX g xs)) (fun _ _ => ?_) (fun xs x ih h hv => ?_) xs
  · show qF (0, 1) + sumR (fun k => qF (0, 1) * qF (G k)) U = qF (0, 1)
    rw [q_zero, sumR_zero, Rat.add_zero]
  · have hx' : XOk xs := fun y hy => h y (List.mem_append.mpr (.inl hy))
    have z := ih hx' fun y hy => hv y (List.mem_append.mpr (.inl hy))
    have zx := hv x (List.mem_append.mpr (.inr (List.mem_singleton.mpr rfl)))
    obtain ⟨lp, sp⟩ := lowP_F (h x (List.mem_append.mpr (.inr (List.mem_singleton.mpr rfl))))
    obtain ⟨v1, _⟩ := valX_ok pg h1 xs hx'
    obtain ⟨w1, _⟩ := wgt_pos pg h1 x.2
    rw [lineFn_snoc, VU_step he (lineFn_pos he xs hx') lp, z, zx, valX_snoc]
    show _ = qF (plusI (valX g xs) (timesI x.1 (wgt g x.2)))
    rw [q_plus v1.1 (times_low lp.1 w1.1).1, q_times lp.1 w1.1, Rat.mul_comm]
/-- a list without doubles -/
def ndp : List Str → List Str
  | [] => []
  | x :: xs => if x ∈ ndp xs then ndp xs else x :: ndp xs
theorem ndp_mem {k : Str} : ∀ {xs : List Str}, k ∈ ndp xs ↔ k ∈ xs
  | [] => Iff.rfl
  | x :: xs => by
    have ih := ndp_mem (k := k) (xs := xs)
    unfold ndp
    by_cases c : x ∈ ndp xs
    · rw [if_pos c, ih]
      constructor
      · exact List.mem_cons_of_mem _
      · intro h
        rcases List.mem_cons.mp h with rfl | h
        · exact ndp_mem.mp c
        · exact h
    · rw [if_neg c, List.mem_cons, List.mem_cons, ih]
theorem ndp_nd : ∀ {xs : List Str}, (ndp xs).Nodup
  | [] => List.nodup_nil
  | x :: xs => by
    unfold ndp
    by_cases c : x ∈ ndp xs
    · rw [if_pos c]
      exact ndp_nd
    · rw [if_neg c]
      exact List.nodup_cons.mpr ⟨c, ndp_nd⟩
theorem valL_one {g : FT} {e : Nat} (pg : PosF (getF (lk g)) e) (z : Str) : valL [(z, (1, 1))] g = wgt g z := by
  unfold valL wgt
  by_cases c : z = "one"
  · subst c
    rw [if_pos rfl]
    have e1 : (keyF [(("one" : Str), ((1, 1) : Int × Int))]).filter notOne = [] := by decide +kernel
    rw [e1]
    show getF (lk [(("one" : Str), ((1, 1) : Int × Int))]) "one" = (1, 1)
    decide +kernel
  · rw [if_neg c]
    have t : notOne z = true := by unfold notOne; simpa using c
    have e1 : (keyF [(z, ((1, 1) : Int × Int))]).filter notOne = [z] := by
      show List.filter notOne [z] = [z]
      rw [List.filter_cons_of_pos t, List.filter_nil]
    rw [e1]
    have e2 : getF (lk [(z, ((1, 1) : Int × Int))]) "one" = (0, 1) := getF_out (by simpa [keyF] using fun h => c h.symm)
    have e3 : getF (lk [(z, ((1, 1) : Int × Int))]) z = (1, 1) := by
      unfold getF
      show (List.lookup z [(z, ((1, 1) : Int × Int))]).getD (0, 1) = (1, 1)
      rw [List.lookup_cons, beq_self_eq_true]
      rfl
    rw [e2]
    show plusI (0, 1) (timesI (getF (lk [(z, ((1, 1) : Int × Int))]) z) (getF (lk g) z)) = _
    have lg := pg.low z
    rw [e3]
    have e4 : timesI (1, 1) (getF (lk g) z) = getF (lk g) z := by
      unfold timesI
      rw [Int.one_mul, Int.one_mul]
      exact low_id lg
    rw [e4, plus_zero lg]
/-- what the law's values are -/
structure ValsOf (E : ET) (g vs : FT) : Prop where
  at_ : ∀ z e, E.lookup z = some e → getF (lk vs) z = valL e g
  out : ∀ z, E.lookup z = none → getF (lk vs) z = getF (lk g) z
  one : E.lookup ("one" : Str) = none
theorem expr_value {E : ET} (he : EdOk E) {g vs : FT} {a b : Nat} (pg : PosF (getF (lk g)) a) (pv : PosF (getF (lk vs)) b) (h1 : 1 ≤ b) (hv : ValsOf E g vs) {xs : XT} (hx : XOk xs) {l : FT} (T : Tab l (fun k => nzF (lineFn E xs k))) : valL l g = valX vs xs := by
  let U := ndp ((xs.flatMap fun x => keyF (edgeOf E x.2)).filter notOne)
  have nU : U.Nodup := ndp_nd
  have o : ("one" : Str) ∉ U := fun h => absurd (List.mem_filter.mp (ndp_mem.mp h)).2 (by decide +kernel)
  have inU : ∀ k, k ∈ (xs.flatMap fun x => keyF (edgeOf E x.2)) → k ∈ U ∨ k = "one" := fun k hk => by
    by_cases c : k = "one"
    · exact .inr c
    · exact .inl (ndp_mem.mpr (List.mem_filter.mpr ⟨hk, by unfold notOne; simpa using c⟩))
  have pos := lineFn_pos he xs hx
  have ob : PosF (getF (lk l)) (1 + 45 * xs.length) := ⟨fun k => by rw [nzF_getF T]; exact pos.low k, fun k => by rw [nzF_getF T]; exact pos.sz k⟩
  have low : LowF (valL l g) := sumV_low ob pg (ob.low _)
  refine q_inj low (valX_ok pv h1 xs hx).1 ?_
  rw [valL_qU T.nd ob pg nU o fun k hk => inU k (lineFn_key xs hx (nzF_key T hk))]
  have e : VU (getF (lk l)) (getF (lk g)) U = VU (lineFn E xs) (getF (lk g)) U := by
    unfold VU
    rw [nzF_getF T]
    congr 1
    exact sumR_congr fun k _ => by rw [nzF_getF T]
  rw [e]
  refine VU_line he pv h1 xs hx fun x hx2 => ?_
  have ed := he.get x.2
  rw [← valL_qU ed.nd ed.pos pg nU o fun k hk => inU k (List.mem_flatMap.mpr ⟨x, hx2, hk⟩)]
  congr 1
  cases c : E.lookup x.2 with
  | none =>
    have e1 : edgeOf E x.2 = [(x.2, (1, 1))] := by unfold edgeOf; rw [c]; rfl
    rw [e1, valL_one pg]
    unfold wgt
    by_cases d : x.2 = "one"
    · rw [if_pos d, if_pos d]
    · rw [if_neg d, if_neg d, hv.out _ c]
  | some e =>
    have e1 : edgeOf E x.2 = e := by unfold edgeOf; rw [c]; rfl
    have d : x.2 ≠ "one" := fun d => by rw [d, hv.one] at c; cases c
    rw [e1]
    unfold wgt
    rw [if_neg d, hv.at_ _ _ c]
/-! ### dicts that are set -/
def putE {α : Type} (l : List (Str × α)) (k : Str) (p : α) : List (Str × α) := if k ∈ l.map (·.1) then l.map fun x => if x.1 = k then (k, p) else x else l ++ [(k, p)]
theorem putE_D {α : Type} {h : α → D} {l : List (Str × α)} {k : Str} {p : α} : putD' (l.map fun e => ((.inr e.1 : Key), h e.2)) (.inr k) (h p) = (putE l k p).map fun e => ((.inr e.1 : Key), h e.2) := by
  have an : ((l.map fun e => ((.inr e.1 : Key), h e.2)).any fun kv => decide (kv.1 = (.inr k : Key))) = decide (k ∈ l.map (·.1)) := by
    by_cases c : k ∈ l.map (·.1)
    · rw [decide_eq_true c]
      obtain ⟨x, hx, rfl⟩ := List.mem_map.mp c
      exact List.any_eq_true.mpr ⟨_, List.mem_map_of_mem hx, decide_eq_true rfl⟩
    · rw [decide_eq_false c]
      refine Bool.eq_false_iff.mpr fun z => ?_
      obtain ⟨y, hy, e⟩ := List.any_eq_true.mp z
      obtain ⟨x, hx, rfl⟩ := List.mem_map.mp hy
      have e : (.inr x.1 : Key) = .inr k := of_decide_eq_true e
      exact c (Sum.inr.inj e ▸ List.mem_map_of_mem hx)
  unfold putD' putE
  rw [an]
  by_cases c : k ∈ l.map (·.1)
  · rw [decide_eq_true c, if_pos rfl, if_pos c, List.map_map, List.map_map]
    refine List.map_congr_left fun x _ => ?_
    show (if (.inr x.1 : Key) = .inr k then ((.inr x.1 : Key), h p) else (.inr x.1, h x.2)) = (.inr (if x.1 = k then (k, p) else x).1, h (if x.1 = k then (k, p) else x).2)
    by_cases d : x.1 = k
    · rw [if_pos d, if_pos (by rw [d])]
      rw [d]
    · rw [if_neg d, if_neg fun z => d (Sum.inr.inj z)]
  · rw [decide_eq_false c, if_neg (by decide), if_neg c, List.map_append]
    rfl
theorem putE_keys {α : Type} {l : List (Str × α)} {k : Str} {p : α} : (putE l k p).map (·.1) = if k ∈ l.map (·.1) then l.map (·.1) else l.map (·.1) ++ [k] := by
  unfold putE
  by_cases h : k ∈ l.map (·.1)
  · rw [if_pos h, if_pos h, List.map_map]
    refine List.map_congr_left fun x _ => ?_
    show (if x.1 = k then (k, p) else x).1 = x.1
    by_cases c : x.1 = k
    · rw [if_pos c]
      exact c.symm
    · rw [if_neg c]
  · rw [if_neg h, if_neg h, List.map_append]
    rfl
theorem putE_nd {α : Type} {l : List (Str × α)} {k : Str} {p : α} (nd : (l.map (·.1)).Nodup) : ((putE l k p).map (·.1)).Nodup := by
  rw [putE_keys]
  by_cases h : k ∈ l.map (·.1)
  · rw [if_pos h]
    exact nd
  · rw [if_neg h]
    exact List.nodup_append.mpr ⟨nd, by simp, fun a ha b hb e => by
      subst e
      exact h (List.mem_singleton.mp hb ▸ ha)⟩
theorem putE_mem {α : Type} {l : List (Str × α)} {k : Str} {p : α} : ∀ y ∈ putE l k p, y ∈ l ∨ y = (k, p) := by
  intro y hy
  unfold putE at hy
  by_cases h : k ∈ l.map (·.1)
  · rw [if_pos h] at hy
    obtain ⟨x, hx, rfl⟩ := List.mem_map.mp hy
    by_cases c : x.1 = k
    · rw [if_pos c]
      exact .inr rfl
    · rw [if_neg c]
      exact .inl hx
  · rw [if_neg h] at hy
    rcases List.mem_append.mp hy with h | h
    · exact .inl h
    · exact .inr (List.mem_singleton.mp h)
theorem look_app1 {α : Type} {k z : Str} {p : α} : ∀ {l : List (Str × α)}, k ∉ l.map (·.1) → (l ++ [(k, p)]).lookup z = if z = k then some p else l.lookup z
  | [], _ => by
    rw [List.nil_append, List.lookup_cons]
    by_cases c : z = k
    · subst c
      simp
    · have e : (z == k) = false := by simpa using c
      rw [e, if_neg c]
  | (g, v) :: l, h => by
    rw [List.cons_append, List.lookup_cons, List.lookup_cons]
    have h2 : k ∉ l.map (·.1) := fun w => h (List.mem_cons_of_mem _ w)
    have h3 : k ≠ g := fun w => h (w ▸ List.mem_cons_self ..)
    by_cases c : z = g
    · subst c
      rw [beq_self_eq_true, if_neg fun w => h3 w.symm]
    · have e : (z == g) = false := by simpa using c
      rw [e]
      exact look_app1 h2
theorem look_map1 {α : Type} {k z : Str} {p : α} : ∀ {l : List (Str × α)}, k ∈ l.map (·.1) → (l.map fun x => if x.1 = k then (k, p) else x).lookup z = if z = k then some p else l.lookup z
  | [], h => nomatch h
  | (g, v) :: l, h => by
    have R : ((g, v) :: l).lookup z = (match z == g with | true => some v | false => l.lookup z) := List.lookup_cons ..
    rw [R, List.map_cons]
    show List.lookup z ((if g = k then (k, p) else (g, v)) :: _) = _
    by_cases c : g = k
    · subst c
      rw [if_pos rfl, List.lookup_cons]
      by_cases d : z = g
      · subst d
        rw [beq_self_eq_true, if_pos rfl]
      · have e : (z == g) = false := by simpa using d
        rw [e, if_neg d]
        show List.lookup z (l.map fun x => if x.1 = g then (g, p) else x) = List.lookup z l
        by_cases m : g ∈ l.map (·.1)
        · rw [look_map1 m, if_neg d]
        · have i : (l.map fun x => if x.1 = g then (g, p) else x) = l := by
            refine (List.map_congr_left (g := id) fun x hx => ?_).trans (List.map_id l)
            exact if_neg fun (w : x.1 = g) => m (w ▸ List.mem_map_of_mem hx)
          rw [i]
    · rw [if_neg c, List.lookup_cons]
      have m : k ∈ l.map (·.1) := by
        rcases List.mem_cons.mp h with w | w
        · exact absurd w.symm c
        · exact w
      by_cases d : z = g
      · subst d
        rw [beq_self_eq_true, if_neg c]
      · have e : (z == g) = false := by simpa using d
        rw [e]
        exact look_map1 m
theorem putE_look {α : Type} {l : List (Str × α)} {k z : Str} {p : α} : (putE l k p).lookup z = if z = k then some p else l.lookup z := by
  unfold putE
  by_cases h : k ∈ l.map (·.1)
  · rw [if_pos h]
    exact look_map1 h
  · rw [if_neg h]
    exact look_app1 h
theorem posF_of {l : FT} {e : Nat} (h1 : 1 ≤ e) (h : ∀ y ∈ l, LowF y.2 ∧ szF e y.2) : PosF (getF (lk l)) e := by
  have z : ∀ k, LowF (getF (lk l) k) ∧ szF e (getF (lk l) k) := fun k => by
    unfold getF
    cases c : lk l k with
    | none => exact ⟨low_01, (show szF 1 ((0, 1) : Int × Int) from ⟨by decide, by decide⟩).mono h1⟩
    | some p => exact h _ (look_inK c)
  exact ⟨fun k => (z k).1, fun k => (z k).2⟩
end Fs
set_option Elab.async false
set_option linter.all false
set_option maxRecDepth 100000
set_option maxHeartbeats 8000000
namespace Fs
open PySem PySem.Spec PyProof.Rows L2
abbrev s_law : Stmt := top 39
abbrev N_law : List Str := ["_law_script", "_law_bag_here", "_law_turn", "_law_things", "_law_some", "_law_tables", "_law_lines", "_law_factor_here", "_law_name", "_law_found", "_law_given", "_law_values"]
abbrev P_law : List Str := ["_law_script"]
theorem sc_law : FnScope N_law P_law (defScope s_law) := ⟨rfl, rfl, rfl, by decide +kernel, rfl, by decide +kernel, by decide +kernel⟩
/-- the law ends and gives True -/
def lawN : Dn := ⟨fun _ _ => False, fun x _ => x = .v (.bl true), fun _ _ => False, fun _ _ => False, noX⟩
/-- the law's slots behind its first statement -/
abbrev bagE (n : Nat) : En := none :: some (.loc 0) :: List.replicate n none
theorem bagE_at {n i : Nat} {x : W} {p : Addr} {σ : L2.St} (e : (bagE n)[i]? = some (some x)) (h : σ[1]? = some (some (.ref p))) : x = .loc 0 ∧ σ[i]? = some (some (.ref p)) := by
  match i, e with
  | 0, e => cases e
  | 1, e =>
    have e : some (some (W.loc 0)) = some (some x) := e
    cases e
    exact ⟨rfl, h⟩
  | i + 2, e =>
    have e : (List.replicate n none)[i]? = some (some x) := e
    rw [List.getElem?_replicate] at e
    split at e <;> cases e
section
variable {P : Program} {w : World} {K : Frag} {mg : Str → Option Value} {base : Heap}
theorem law_start {X : Cx} {t2 : TS} {T : DTS} {p l : Addr} {H1 : Hp} {Q : VK} {σ : L2.St} {en : En} (hs : SS X E0 t2 T) (B1 : BagAt H1 p l) (hl : σ.length = en.length) (he : ∀ (i : Nat) (x : W), en[i]? = some (some x) → x = .loc 0 ∧ σ[i]? = some (some (.ref p))) (hT : T en [.bag] lawN) (q : ∀ H', Q (.bl true) H') (D : Ends) (hD : D.rt = Q) : t2 D σ H1 := by
  obtain ⟨i, rs, sd, ns, e1, e2, e3⟩ := B1.ex
  have lp : l ≠ p := fun z => by
    subst z
    rw [e2] at e1
    cases ns <;> cases e1
  let B : Hp := fun b => if b = l then some (.lst (ns.map V.int)) else none
  have bl : B l = some (.lst (ns.map V.int)) := if_pos rfl
  have M : MemOk X.K B [p] [.bag] H1 := by
    refine ⟨fun a o e => ?_, rfl, fun a l' => ?_, fun n a m ea em _ => ?_, fun n k a m m' ea ek _ _ _ _ => ?_, fun a ps e => ?_⟩
    · have e : (if a = l then some (HO.lst (ns.map V.int)) else none) = some o := e
      by_cases c : a = l
      · rw [if_pos c] at e
        cases e
        rw [c]
        exact e2
      · rw [if_neg c] at e
        cases e
    · obtain ⟨n, m, ea, _⟩ := l'
      have ez : a = p := by
        cases n with
        | zero => simpa using ea.symm
        | succ n => simp at ea
      subst ez
      exact if_neg (fun z => lp z.symm)
    · have ez : a = p ∧ m = .bag := by
        cases n with
        | zero => exact ⟨by simpa using ea.symm, by simpa using em.symm⟩
        | succ n => simp at ea
      obtain ⟨rfl, rfl⟩ := ez
      exact ⟨l, i, rs, sd, ns, e1, bl, e3⟩
    · have e1 : n = 0 := by
        cases n with
        | zero => rfl
        | succ n => simp at ea
      have e2 : k = 0 := by
        cases k with
        | zero => rfl
        | succ n => simp at ek
      rw [e1, e2]
    · have e : (if a = l then some (HO.lst (ns.map V.int)) else none) = some (.tbl ps) := e
      by_cases c : a = l
      · rw [if_pos c] at e
        cases e
      · rw [if_neg c] at e
        cases e
  refine hs B [p] en [.bag] σ H1 lawN D ⟨M, hl, fun i x e => ?_⟩ ExOf.no hT ⟨fun _ _ _ _ _ _ _ _ z => z.elim, fun B' μ' m' H' x v s M' r z => ?_, fun _ _ _ _ _ _ _ _ z => z.elim, fun _ _ _ _ _ _ _ _ z => z.elim⟩
  · obtain ⟨rfl, h⟩ := he i x e
    exact ⟨_, h, p, rfl, rfl⟩
  · have z : x = .v (.bl true) := z
    subst z
    cases (show Rv X.K B' v (.bl true) from r)
    rw [hD]
    exact q H'
theorem tabB_nil {B H : Hp} {a : Addr} {q : Str} (h : H a = some (.tbl #[])) : TabB B H a q := ⟨#[], h, trivial, fun pos cv hc => by cases hc⟩
/-- .. where the law makes lambdas -/
theorem law_startT {X : Cx} {t2 : TS} {T : DTS} {p l PT : Addr} {qT : Str} {H1 : Hp} {Q : VK} {σ : L2.St} {en : En} (hs : SS X E0 t2 T) (B1 : BagAt H1 p l) (hP : H1 PT = some (.tbl #[])) (hl : σ.length = en.length) (he : ∀ (i : Nat) (x : W), en[i]? = some (some x) → x = .loc 0 ∧ σ[i]? = some (some (.ref p))) (hT : T en [.bag, .tab PT qT] lawN) (q : ∀ H', Q (.bl true) H') (D : Ends) (hD : D.rt = Q) : t2 D σ H1 := by
  obtain ⟨i, rs, sd, ns, e1, e2, e3⟩ := B1.ex
  have lp : l ≠ p := fun z => by
    subst z
    rw [e2] at e1
    cases ns <;> cases e1
  have pP : p ≠ PT := fun z => by
    subst z
    rw [e1] at hP
    cases hP
  have lP : l ≠ PT := fun z => by
    subst z
    rw [e2] at hP
    cases hP
  let B : Hp := fun b => if b = l then some (.lst (ns.map V.int)) else none
  have bl : B l = some (.lst (ns.map V.int)) := if_pos rfl
  have two : ∀ {n : Nat} {a : Addr} {m : MO}, [p, PT][n]? = some a → [MO.bag, .tab PT qT][n]? = some m → (n = 0 ∧ a = p ∧ m = .bag) ∨ (n = 1 ∧ a = PT ∧ m = .tab PT qT) := fun {n a m} ea em => by
    match n with
    | 0 =>
      left
      exact ⟨rfl, by simpa using ea.symm, by simpa using em.symm⟩
    | 1 =>
      right
      exact ⟨rfl, by simpa using ea.symm, by simpa using em.symm⟩
    | n + 2 => simp at ea
  have M : MemOk X.K B [p, PT] [.bag, .tab PT qT] H1 := by
    refine ⟨fun a o e => ?_, rfl, fun a l' => ?_, fun n a m ea em _ => ?_, fun n k a m m' ea ek em ek' _ _ => ?_, fun a ps e => ?_⟩
    · have e : (if a = l then some (HO.lst (ns.map V.int)) else none) = some o := e
      by_cases c : a = l
      · rw [if_pos c] at e
        cases e
        rw [c]
        exact e2
      · rw [if_neg c] at e
        cases e
    · obtain ⟨n, m, ea, em, _⟩ := l'
      rcases two ea em with ⟨_, rfl, _⟩ | ⟨_, rfl, _⟩
      · exact if_neg (fun z => lp z.symm)
      · exact if_neg (fun z => lP z.symm)
    · rcases two ea em with ⟨_, rfl, rfl⟩ | ⟨_, rfl, rfl⟩
      · exact ⟨l, i, rs, sd, ns, e1, bl, e3⟩
      · exact ⟨rfl, tabB_nil hP⟩
    · rcases two ea em with ⟨h0, h1, _⟩ | ⟨h0, h1, _⟩
      · rcases two ek ek' with ⟨k0, k1, _⟩ | ⟨k0, k1, _⟩
        · rw [h0, k0]
        · exact absurd (h1.symm.trans k1) pP
      · rcases two ek ek' with ⟨k0, k1, _⟩ | ⟨k0, k1, _⟩
        · exact absurd (k1.symm.trans h1) pP
        · rw [h0, k0]
    · have e : (if a = l then some (HO.lst (ns.map V.int)) else none) = some (.tbl ps) := e
      by_cases c : a = l
      · rw [if_pos c] at e
        cases e
      · rw [if_neg c] at e
        cases e
  refine hs B [p, PT] en [.bag, .tab PT qT] σ H1 lawN D ⟨M, hl, fun i x e => ?_⟩ ExOf.no hT ⟨fun _ _ _ _ _ _ _ _ z => z.elim, fun B' μ' m' H' x v s M' r z => ?_, fun _ _ _ _ _ _ _ _ z => z.elim, fun _ _ _ _ _ _ _ _ z => z.elim⟩
  · obtain ⟨rfl, h⟩ := he i x e
    exact ⟨_, h, p, rfl, rfl⟩
  · have z : x = .v (.bl true) := z
    subst z
    cases (show Rv X.K B' v (.bl true) from r)
    rw [hD]
    exact q H'
end
end Fs
set_option Elab.async false
set_option linter.all false
set_option maxRecDepth 100000
set_option maxHeartbeats 8000000
namespace Fs
open PySem PySem.Spec PyProof.Rows L2
theorem nameN_lenS {stem : Str} {first at_ k : Nat} (h : stem.length ≤ 3) : (nameN stem first at_ k).length ≤ 10 := by
  unfold nameN
  split
  · rw [Str.length_append, Str.length_append]
    have : (abcAt k).length = 1 := rfl
    have : ("z" : Str).length = 1 := rfl
    have : ("q" : Str).length = 1 := rfl
    omega
  · unfold rawN
    rw [Str.length_append, Str.length_append]
    have : (abcAt ((first + 5 * k) % 26)).length = 1 := rfl
    have := slice_len stem none (some (at_ : Int))
    have := slice_len stem (some (at_ : Int)) none
    omega
end Fs
set_option Elab.async false
set_option linter.all false
set_option maxRecDepth 100000
set_option maxHeartbeats 8000000
namespace Fs
open PySem PySem.Spec PyProof.Rows L2
theorem dicAt_of {m : Me} {n : Nat} {X : List (Key × D)} {Q : List (Key × D) → Prop} (h : m[n]? = some (.dic X)) (q : Q X) : dicAt m n Q := by
  unfold dicAt
  rw [h]
  exact q
theorem look_of {m : Me} {n : Nat} {X : List (Key × D)} {P : D → Prop} (h : m[n]? = some (.dic X)) (p : P (.dic X)) : look (.loc n) m P := by
  show lookO m[n]? P
  rw [h]
  exact p
theorem at_app {m r : Me} {n : Nat} {o : MO} (h : m[n]? = some o) : (m ++ r)[n]? = some o := by
  rw [List.getElem?_append_left (List.getElem?_eq_some_iff.mp h).1]
  exact h
theorem at_set {m : Me} {n : Nat} {o o' : MO} (h : m[n]? = some o) : (m.set n o')[n]? = some o' := by
  rw [List.getElem?_set_self (List.getElem?_eq_some_iff.mp h).1]
theorem at_setN {m : Me} {n k : Nat} {o o' : MO} (ne : k ≠ n) (h : m[n]? = some o) : (m.set k o')[n]? = some o := by
  rw [List.getElem?_set_ne ne]
  exact h
theorem EdT.of {ns : List Str} {r t : FT} (d : DrT ns r) (h : ns.length ≤ 4) (T : Tab t (nzT r)) : EdT t := by
  have z : (10 : Nat) ^ 12 < 2 ^ 40 := by decide
  refine ⟨T.nd, ⟨fun k => ?_, fun k => ?_⟩, Nat.le_trans (nz_len T) (Nat.le_trans d.len h)⟩
  · rw [nz_get T]
    exact (d.ok.get k).1
  · rw [nz_get T]
    exact ⟨Nat.lt_of_le_of_lt (d.tiny k).1 z, Nat.lt_of_le_of_lt (d.tiny k).2 z⟩
theorem lookE_none {α : Type} {l : List (Str × α)} {k : Str} (h : k ∉ l.map (·.1)) : l.lookup k = none := by
  induction l with
  | nil => rfl
  | cons p r ih =>
    obtain ⟨g, v⟩ := p
    rw [List.lookup_cons]
    have h1 : k ≠ g := fun w => h (w ▸ List.mem_cons_self ..)
    have e : (k == g) = false := by simpa using h1
    rw [e]
    exact ih fun w => h (List.mem_cons_of_mem _ w)
theorem keysL_E {α : Type} {h : α → D} : ∀ {E : List (Str × α)} {Q : List Str → Prop}, Q (E.map (·.1)) → keysL (E.map fun e => ((.inr e.1 : Key), h e.2)) Q
  | [], _, q => q
  | p :: l, Q, q => keysL_E (E := l) (Q := fun xs => Q (p.1 :: xs)) q
theorem putE_len {α : Type} {l : List (Str × α)} {k : Str} {p : α} : (putE l k p).length ≤ l.length + 1 := by
  have e := congrArg List.length (putE_keys (l := l) (k := k) (p := p))
  rw [List.length_map] at e
  rw [e]
  by_cases c : k ∈ l.map (·.1)
  · rw [if_pos c, List.length_map]
    omega
  · rw [if_neg c, List.length_append, List.length_map]
    exact Nat.le_refl _
theorem putT_look {l : FT} {k z : Str} {p : Int × Int} : (putT l k p).lookup z = if z = k then some p else l.lookup z := putE_look (l := l)
theorem putT_len {l : FT} {k : Str} {p : Int × Int} : (putT l k p).length ≤ l.length + 1 := putE_len (l := l)
theorem given_ok (n0 : Str) : ∃ g : FT, mergeD [] [(.inr "a.w", frD (3, 1)), (.inr "room.w", frD (-1, 2)), (.inr (n0 ++ ".w"), frD (5, 1)), (.inr "zq.h", frD (7, 3))] = kvF g ∧ PosF (getF (lk g)) 4 ∧ g.length ≤ 4 := by
  refine ⟨putT (putT (putT (putT [] "a.w" (3, 1)) "room.w" (-1, 2)) (n0 ++ ".w") (5, 1)) "zq.h" (7, 3), ?_, posF_of (by decide) fun y hy => ?_, ?_⟩
  · show putD' (putD' (putD' (putD' (kvF []) (.inr "a.w") (frD (3, 1))) (.inr "room.w") (frD (-1, 2))) (.inr (n0 ++ ".w")) (frD (5, 1))) (.inr "zq.h") (frD (7, 3)) = _
    rw [putT_kvF, putT_kvF, putT_kvF, putT_kvF]
  · have one : ∀ {l : FT} {k : Str} {p : Int × Int}, (∀ y ∈ l, LowF y.2 ∧ szF 4 y.2) → LowF p ∧ szF 4 p → ∀ y ∈ putT l k p, LowF y.2 ∧ szF 4 y.2 := fun {l k p} h hp y hy => by
      rcases putE_mem (l := l) y hy with h' | h'
      · exact h y h'
      · rw [h']
        exact hp
    refine one (one (one (one (l := []) (fun _ h => (List.not_mem_nil h).elim) ?_) ?_) ?_) ?_ y hy <;> exact ⟨⟨by decide, by decide⟩, by decide, by decide⟩
  · refine Nat.le_trans putT_len (Nat.succ_le_succ (Nat.le_trans putT_len (Nat.succ_le_succ (Nat.le_trans putT_len (Nat.succ_le_succ (Nat.le_trans putT_len ?_))))))
    exact Nat.le_refl _
theorem keysE_str {α : Type} {h : α → D} (E : List (Str × α)) : (E.map fun e => ((.inr e.1 : Key), h e.2)).map (fun kv => kD kv.1) = (E.map (·.1)).map D.str := by
  rw [List.map_map, List.map_map]
  rfl
theorem lookE_mem {α : Type} {l : List (Str × α)} {k : Str} (h : k ∈ l.map (·.1)) : ∃ v, l.lookup k = some v := by
  induction l with
  | nil => cases h
  | cons p r ih =>
    obtain ⟨g, v⟩ := p
    rw [List.lookup_cons]
    by_cases c : k = g
    · subst c
      exact ⟨v, by rw [beq_self_eq_true]⟩
    · have e : (k == g) = false := by simpa using c
      rw [e]
      rcases List.mem_cons.mp h with w | w
      · exact absurd w c
      · exact ih w
end Fs
set_option Elab.async false
set_option linter.all false
set_option maxRecDepth 100000
set_option maxHeartbeats 8000000
namespace Fs
open PySem PySem.Spec PyProof.Rows L2
/-- the def within the classmethod m of the class x -/
def cmA (K : Frag) (p : Str × Str) : Addr := match PySem.W.recIn K (He.ma K (He.ga K p.1) p.2) "classmethod" with
  | some (.ref g :: _) => g
  | _ => 0
def fnWD : Data → He.FnW
  | .func fd => some (fd.name, (fd.qualname, (fd.params, (fd.body, (fd.scope, (fd.globals, (fd.closure, fd.builtins)))))))
  | _ => none
def fnWA (K : Frag) (a : Addr) : He.FnW := (K.lookup a).bind fun o => fnWD o.data
def okWD (K : Frag) (q : Str) : Data → Bool
  | .func fd => PySem.W.codeIn K fd.code q && (He.dflB K fd.defaults [] && He.kwdB K fd.kwdefaults [])
  | _ => false
def okWA (K : Frag) (q : Str) (a : Addr) : Bool := PySem.W.keepIn K (.ref a) && (K.lookup a).any fun o => okWD K q o.data
abbrev dC (x m q : Str) (st : Stmt) : He.DefD := ⟨(x, some m), m, q, defArgs st, defBody st, defScope st, [], []⟩
theorem funD_at {K : Frag} {a : Addr} {d : He.DefD} (e : fnWA K a = d.val) (c : okWA K d.qual a = true) : ∃ fd, FunD K d.name d.qual d.params d.body d.scope [] [] a fd := by
  obtain ⟨kp, c2⟩ := Bool.and_eq_true_iff.mp c
  unfold fnWA at e
  cases q : K.lookup a with
  | none =>
    rw [q] at e
    cases e
  | some o =>
    rw [q] at e c2
    obtain ⟨oc, od, dt, osl⟩ := o
    have e : fnWD dt = d.val := e
    have c2 : okWD K d.qual dt = true := c2
    cases dt with
    | func fd =>
      obtain ⟨n1, n2, n3, n4, n5, n6, n7, n8, n9, n10, n11, n12, n13, n14, n15⟩ := fd
      unfold fnWD He.DefD.val at e
      simp only [Option.some.injEq, Prod.mk.injEq] at e
      obtain ⟨h1, h2, h3, h4, h5, h6, h7, h8⟩ := e
      subst h1 h2 h3 h4 h5 h6 h7 h8
      obtain ⟨k1, k2⟩ := Bool.and_eq_true_iff.mp c2
      obtain ⟨k3, k4⟩ := Bool.and_eq_true_iff.mp k2
      exact ⟨_, ⟨oc, od, n8, n9, n10, n11, n12, n13, n14, osl, rfl, q, k1, He.dflB_ok k3, He.kwdB_ok k4⟩, kp⟩
    | _ => cases e
/-- what is asked of a classmethod -/
def getB (C p : Addr) : Option PySem.W.CFound → Bool
  | some (.get (.builtin g) (.ref x) .none (.ref y)) => decide (g = "classmethod.__get__") && (decide (x = p) && decide (y = C))
  | _ => false
theorem getB_ok {C p : Addr} {r : Option PySem.W.CFound} (h : getB C p r = true) : r = some (.get (.builtin "classmethod.__get__") (.ref p) .none (.ref C)) := by
  unfold getB at h
  split at h
  · simp only [Bool.and_eq_true, decide_eq_true_eq] at h
    obtain ⟨rfl, rfl, rfl⟩ := h
    rfl
  · cases h
def recB (K : Frag) (p : Addr) : Bool := match PySem.W.recIn K p "classmethod" with
  | some (.ref _ :: _) => true
  | _ => false
def cmB (K : Frag) (x m q : Str) : Bool := PySem.W.readsIn K (He.ga K x) (.type "type") && (decide (PySem.W.specialIn K (.ref (He.ga K x)) "__getattribute__" = some (some (.builtin "type.__getattribute__"))) &&
  (getB (He.ga K x) (He.ma K (He.ga K x) m) (PySem.W.findCls K (.ref (He.ga K x)) (.type "type") m) && (recB K (He.ma K (He.ga K x) m) && (PySem.W.fnIn K (cmA K (x, m)) && okWA K q (cmA K (x, m))))))
structure CmD (K : Frag) (x m q : Str) : Prop where
  rd : ClX.CRead K (He.ga K x) (.type "type")
  cm : ClX.CMet K (He.ga K x) (.type "type") m (He.ma K (He.ga K x) m) (cmA K (x, m))
  ok : okWA K q (cmA K (x, m)) = true
theorem cmB_ok {K : Frag} {x m q : Str} (h : cmB K x m q = true) : CmD K x m q := by
  unfold cmB at h
  simp only [Bool.and_eq_true] at h
  obtain ⟨h1, h2, h3, h4, h5, h6⟩ := h
  refine ⟨⟨h1, of_decide_eq_true h2⟩, ⟨getB_ok h3, ?_, h5⟩, h6⟩
  unfold recB at h4
  unfold cmA
  split at h4
  · rename_i g rest e
    rw [e]
    exact ⟨_, rfl⟩
  · cases h4
/-! ### the Hook -/
def cmW (cms : List (Str × Str)) (K : Frag) : List He.FnW := cms.map fun p => fnWA K (cmA K p)
/-- what is looked at: what the module reaches, and the statics that reads of a class's attributes ask -/
abbrev asY (g : Addr → Option Obj) (n : Nat) : List Addr := cStatics :: He.asD g n
abbrev frY (g : Addr → Option Obj) (n : Nat) : Frag := He.frT g (asY g n)
abbrev AlY : Type := He.AlX × List He.FnW
def obsY (n : Nat) (fa : List He.Fa) (fn : List He.DefD) (ts : List He.Tab) (tf : List He.Defn) (ex : Frag → Bool) (cms : List (Str × Str)) (g : Addr → Option Obj) : AlY :=
  ((He.obsT fa fn ts (frY g n), ex (frY g n) && He.tabsB g tf (frY g n)), cmW cms (frY g n))
theorem saysY_of {n : Nat} {fa : List He.Fa} {fn : List He.DefD} {ts : List He.Tab} {tf : List He.Defn} {ex : Frag → Bool} {cms : List (Str × Str)} {cv : List He.FnW} {w : World} {h : Heap} (e : obsY n fa fn ts tf ex cms h.get? = (He.valX fn ts w, cv)) :
    He.SaysX fa fn ts tf ex w h (frY h.get? n) ∧ cmW cms (frY h.get? n) = cv := by
  have e0 := congrArg (fun z : AlY => z.1) e
  have e1 : He.obsT fa fn ts (frY h.get? n) = He.valT fn ts w := congrArg (fun z : He.AlX => z.1) e0
  have e2 : (ex (frY h.get? n) && He.tabsB h.get? tf (frY h.get? n)) = true := congrArg (fun z : He.AlX => z.2) e0
  have e3 : cmW cms (frY h.get? n) = cv := congrArg (fun z : AlY => z.2) e
  obtain ⟨h1, h2⟩ := Bool.and_eq_true_iff.mp e2
  have one : ∀ p ∈ tf, PySem.W.codeHdIn (frY h.get? n) (He.cT (frY h.get? n) p).1 (He.cT (frY h.get? n) p).2 = true ∧ ∃ o, h.get? (He.cT (frY h.get? n) p).2 = some o ∧ He.emptyTab o = true := fun p hp => by
    have z := List.all_eq_true.mp h2 p hp
    obtain ⟨z1, z2⟩ := Bool.and_eq_true_iff.mp z
    refine ⟨z1, ?_⟩
    split at z2
    · rename_i o ho
      exact ⟨o, ho, z2⟩
    · cases z2
  refine ⟨{ t := e1, more := h1, hd := fun p hp => (one p hp).1, out := fun p hp => ?_, empty := fun p hp => ?_ }, e3⟩
  · obtain ⟨o, ho, hz⟩ := (one p hp).2
    exact He.frT_none ho hz
  · obtain ⟨o, ho, hz⟩ := (one p hp).2
    rw [ho, He.emptyTab_eq hz]
def hookY (n : Nat) (fa : List He.Fa) (fn : List He.DefD) (ts : List He.Tab) (tf : List He.Defn) (ex : Frag → Bool) (cms : List (Str × Str)) (cv : List He.FnW) : PySem.W.Hook where
  α := AlY
  obs := fun s => obsY n fa fn ts tf ex cms s.heap.get?
  val := fun w => (He.valX fn ts w, cv)
  says := fun w h => ∃ K : Frag, K.In h ∧ He.SaysX fa fn ts tf ex w h K ∧ cmW cms K = cv
  of := fun _ _ e => ⟨_, He.frT_in, saysY_of e⟩
  keeps := fun _ _ _ ⟨K, hK, c, y⟩ k => ⟨K, PySem.W.Frag.In.keeps hK k, { t := c.t, more := c.more, hd := c.hd, out := c.out, empty := fun p hp => k _ _ (c.empty p hp) }, y⟩
theorem obsY_eq {n : Nat} {fa : List He.Fa} {fn : List He.DefD} {ts : List He.Tab} {tf : List He.Defn} {ex : Frag → Bool} {cms : List (Str × Str)} {cv : List He.FnW} {g : Addr → Option Obj} {s : Shared} (h : ∀ a, g a = s.heap.get? a) : obsY n fa fn ts tf ex cms g = (hookY n fa fn ts tf ex cms cv).obs s :=
  congrArg (obsY n fa fn ts tf ex cms) (funext h)
theorem cm_at {cms : List (Str × Str)} {cv : List He.FnW} {K : Frag} (y : cmW cms K = cv) (i : Nat) {p : Str × Str} {v : He.FnW} (hp : cms[i]? = some p) (hv : cv[i]? = some v) : fnWA K (cmA K p) = v := by
  have e : (cmW cms K)[i]? = cv[i]? := by rw [y]
  unfold cmW at e
  rw [List.getElem?_map, hp, hv] at e
  exact Option.some.inj e
end Fs
set_option Elab.async false
set_option linter.all false
set_option maxRecDepth 100000
set_option maxHeartbeats 8000000
namespace Fs
open PySem PySem.Spec PyProof.Rows L2
def specB (K : Frag) (C : Addr) (m : Str) : Bool := decide (PySem.W.findIn K (.ref C) m = some (some (.ref (He.ma K C m)))) && (PySem.W.isFn K (.ref (He.ma K C m)) && PySem.W.keepIn K (.ref (He.ma K C m)))
structure SpecC (K : Frag) (C : Addr) (m : Str) : Prop where
  at_ : PySem.W.findIn K (.ref C) m = some (some (.ref (He.ma K C m)))
  fn : PySem.W.isFn K (.ref (He.ma K C m)) = true
  kp : PySem.W.keepIn K (.ref (He.ma K C m)) = true
theorem specB_ok {K : Frag} {C : Addr} {m : Str} (h : specB K C m = true) : SpecC K C m := by
  unfold specB at h
  simp only [Bool.and_eq_true, decide_eq_true_eq] at h
  exact ⟨h.1, h.2.1, h.2.2⟩
def clsB (K : Frag) (C : Addr) : Bool := PySem.W.plainGet K C Str.empty && (PySem.W.hasDictIn K C && (PySem.W.plainOver K C && decide (PySem.W.findIn K (.ref C) "__setattr__" = some (some (.builtin "object.__setattr__")))))
theorem clsB_ok {K : Frag} {C : Addr} (h : clsB K C = true) : Cls K C := by
  unfold clsB at h
  simp only [Bool.and_eq_true, decide_eq_true_eq] at h
  exact ⟨h.1, h.2.1, h.2.2.1, h.2.2.2⟩
def mkB (K : Frag) (C : Addr) : Bool := PySem.W.makesIn K C && (specB K C "__init__" && PySem.W.keepIn K (.ref C))
theorem mkB_ok {K : Frag} {C : Addr} (h : mkB K C = true) : Mk K C (He.ma K C "__init__") := by
  unfold mkB at h
  simp only [Bool.and_eq_true] at h
  have s := specB_ok h.2.1
  exact ⟨h.1, s.at_, s.fn, h.2.2⟩
def insB (K : Frag) (C : Addr) : Bool := decide (PySem.W.findIn K (.ref C) "__class__" = some (some (.builtin "object.__class__"))) && (decide (PySem.W.specialIn K (.builtin "object.__class__") "__get__" = some (some (.builtin "getset_descriptor.__get__"))) &&
  (decide (PySem.W.takesIn K (.builtin "object.__class__") = some true) && decide (PySem.W.mroIn K C (.type "object") = some true)))
theorem insB_ok {K : Frag} {C : Addr} (c : Cls K C) (h : insB K C = true) : InsC K C := by
  unfold insB at h
  simp only [Bool.and_eq_true, decide_eq_true_eq] at h
  exact ⟨c, h.1, h.2.1, h.2.2.1, h.2.2.2⟩
def binB (K : Frag) (C : Addr) (op : Operator) : Bool := PySem.W.selfFirst K C && (decide (PySem.W.findIn K (.ref C) (PySem.dunderR op.info.2) = some none) && ((PySem.W.findIn K (.type "tuple") (PySem.dunder op.info.2)).isSome &&
  ((PySem.W.findIn K (.type "tuple") (PySem.dunderR op.info.2)).isSome && decide (PySem.W.subIn K (.type "tuple") (.ref C) = some false))))
theorem binB_ok {K : Frag} {C : Addr} {op : Operator} (h : binB K C op = true) : BinT K C op := by
  unfold binB at h
  simp only [Bool.and_eq_true, decide_eq_true_eq] at h
  exact ⟨h.1, h.2.1, Option.isSome_iff_exists.mp h.2.2.1, Option.isSome_iff_exists.mp h.2.2.2.1, h.2.2.2.2⟩
def lineB (K : Frag) (C : Addr) : Bool := clsB K C && (decide (PySem.W.findIn K (.ref C) partsS = some none) && (mkB K C && (insB K C && (decide (PySem.W.kitOne K (.ref C) (.ref C) = some true) && decide (PySem.W.kitOne K (.type "dict") (.ref C) = some false)))))
def neB (K : Frag) (C : Addr) : Bool := decide (PySem.W.findIn K (.ref C) "__ne__" = some (some (.builtin "object.__ne__"))) && (decide (PySem.W.mroIn K C (.type "object") = some true) && PySem.W.notFirst K C (.type "dict"))
structure LineC (K : Frag) (C : Addr) : Prop where
  cl : Cls K C
  na : NoAttr K C partsS
  made : Mk K C (He.ma K C "__init__")
  ic : InsC K C
  k1 : PySem.W.kitOne K (.ref C) (.ref C) = some true
  k2 : PySem.W.kitOne K (.type "dict") (.ref C) = some false
theorem lineB_ok {K : Frag} {C : Addr} (h : lineB K C = true) : LineC K C := by
  unfold lineB at h
  simp only [Bool.and_eq_true, decide_eq_true_eq] at h
  have c := clsB_ok h.1
  exact ⟨c, h.2.1, mkB_ok h.2.2.1, insB_ok c h.2.2.2.1, h.2.2.2.2.1, h.2.2.2.2.2⟩
theorem SpecC.meth {K : Frag} {C : Addr} {m : Str} (s : SpecC K C m) : Meth K C m (He.ma K C m) := ⟨s.at_, s.fn, s.kp⟩
theorem kbn_one {K : Frag} {x q : Str} {st : Stmt} {f : Addr} {fd : FuncData} {a b : Str} (F : FunD K x q (defArgs st) (defBody st) (defScope st) [] [] f fd)
    (h : ∀ (kV doc pm : Value) (an : Option Addr) (cdv ct : Value) (us ws : List Value), us.length = 1 → ws.length = 1 → bindArgs (PySem.W.fnOf x q (defArgs st) (defBody st) (defScope st) .none kV doc pm an cdv ct) ⟨us, [b].zip ws⟩ = pure ([a, b].zip (us ++ ws))) :
    KBn K fd [a, b] 1 [b] (fun us ws => us ++ ws) (fun vs zs => vs ++ zs) := by
  obtain ⟨oc, od, dV, kV, doc, pm, an, cdv, ct, osl, rfl, lk, hcd, hD, hK⟩ := F.ex
  rcases hD with ⟨_, rfl⟩ | ⟨e, _⟩
  · exact ⟨fun s us ws _ l1 l2 => BindsTo.of_eq (h kV doc pm an cdv ct us ws l1 l2), fun r1 r2 => r1.append r2⟩
  · exact absurd rfl e
end Fs
set_option Elab.async false
set_option linter.all false
set_option maxRecDepth 100000
set_option maxHeartbeats 8000000
namespace Fs
open PySem PySem.Spec PyProof.Rows L2
def gSwL {α : Type} (_ us : List α) : List α := match us with
  | [x, y] => [y, x]
  | _ => []
theorem gSwL_rel {vs zs : List V} {us ws : List Value} (_ : Vals vs us) (r : Vals zs ws) : Vals (gSwL vs zs) (gSwL us ws) := by
  cases r with
  | nil => exact .nil
  | cons a r => cases r with
    | nil => exact .nil
    | cons b r => cases r with
      | nil => exact .cons b (.cons a .nil)
      | cons _ _ => exact .nil
theorem Reo.swL {K : Frag} : Reo K gSwL gSwL := fun _ _ _ _ _ _ _ r => by
  cases r with
  | nil => exact .nil
  | cons a r => cases r with
    | nil => exact .nil
    | cons b r => cases r with
      | nil => exact .cons b (.cons a .nil)
      | cons _ _ => exact .nil
theorem expr_xs {zs : List Str} {k : Nat} : ∀ {its : List D}, exprOver zs k its → ∃ xs : XT, its = xs.map itD ∧ XOk xs ∧ xs.length ≤ k := by
  intro its h
  obtain ⟨_, h2, h3⟩ := h
  have key : ∀ its : List D, (∀ it ∈ its, ∃ p z, it = .tup [frD p, .str z] ∧ lowP p ∧ z ∈ zs) → ∃ xs : XT, its = xs.map itD ∧ XOk xs := by
    intro its
    induction its with
    | nil => exact fun _ => ⟨[], rfl, fun _ h => nomatch h⟩
    | cons d its ih =>
      intro h
      obtain ⟨p, z, rfl, lp, _⟩ := h d (List.mem_cons_self ..)
      obtain ⟨xs, rfl, hx⟩ := ih fun it hit => h it (List.mem_cons_of_mem _ hit)
      refine ⟨(p, z) :: xs, rfl, fun y hy => ?_⟩
      rcases List.mem_cons.mp hy with rfl | hy
      · exact lp
      · exact hx y hy
  obtain ⟨xs, rfl, hx⟩ := key its h3
  exact ⟨xs, rfl, hx, by rw [List.length_map] at h2; exact h2⟩
section
variable {P : Program} {w : World} {K : Frag} {mg : Str → Option Value} {base : Heap} {C : Addr}
theorem fo_law (g__law_bag : Gd P w K mg base CX0 1 "_law_bag" P__law_bag (spBag K)) (m_range : mg "range" = none) (m_dict : mg "dict" = none) (m_sorted : mg "sorted" = none) (m_list : mg "list" = none)
    (g__law_names : Gd P w K mg base (L2.CX P w) 2 "_law_names" P__law_names (lift K spNamesD)) (g__law_pull : Gd P w K mg base (L2.CX P w) 1 "_law_pull" P__law_pull (lift K spPullD)) (g__law_drawn_line : Gd P w K mg base (L2.CX P w) 5 "_law_drawn_line" P__law_drawn_line (lift K spDrawn))
    (g__law_any_expression : Gd P w K mg base (L2.CX P w) 5 "_law_any_expression" P__law_any_expression (lift K spAnyD)) (g__law_plain : Gd P w K mg base (L2.CX P w) 6 "_law_plain" P__law_plain (lift K spPlain)) (g__law_line : Gd P w K mg base (L2.CX P w) 6 "_law_line" P__law_line (lift K spLLine)) (g__law_value : Gd P w K mg base (L2.CX P w) 4 "_law_value" P__law_value (lift K spLVal))
    (g__law_same : Gd P w K mg base (L2.CX P w) 6 "_law_same" P__law_same (lift K (spSameD 5))) (g_line_of : Gd P w K mg base (L2.CX P w) 8 "line_of" P_line_of (lift K (spLineOf C)))
    (gkL : Gk P w K mg base (L2.CX P w) 8 "line_of" 0 ["edges", "expression"] gSwL P_line_of (lift K (spLineOf C)) ∧ Reo K gSwL gSwL)
    (gL : GmC P w K mg base 3 "Line" C (spInit C)) (gTable : GmM P w K mg base 2 C "table" (spTable C)) (gValue : GmM P w K mg base 6 C "value" (spValueB C)) :
    Fo P w K mg base CX0 20 "law" s_law [] [] ["_law_script"] (spLaw K) := by
  refine fo_ok sc_law (fun vs H Q E h => ?_) (fun f cdv A outer s H vs Q E hr h => ?_)
  · obtain ⟨a, ns, rfl, _⟩ := h
    rfl
  obtain ⟨a, ns, rfl, hS, hl, q⟩ := h
  have body : DSs (cxOf CX0 P w K mg base N_law "law" (defScope s_law) f cdv A outer s H E).nox E0 ((defBody s_law).drop 1) _ := (dss_cons (ds_for PassesOwn.never rfl (di_range1 m_range (da_cons d_int da_nil)) (dg_name (i := 2) sc_law.nd rfl (.inl rfl))
      (dss_cons (ds_set (i := 3) sc_law.nd rfl (.inl rfl) (d_call g__law_names (hr.mono (by omega)) passF (da_cons (dv 1) (da_cons d_int da_nil))))
      (dss_cons (ds_set (i := 4) sc_law.nd rfl (.inl rfl) (d_call g__law_any_expression (hr.mono (by omega)) passF (da_cons (dv 1) (da_cons (dv 3) da_nil))))
      (dss_cons (ds_par (i := 5) (j := 6) rfl sc_law.nd rfl rfl (by decide) rfl rfl (da_cons d_dnw (da_cons d_dnw da_nil)) (by rfl))
      (dss_cons (ds_for PassesOwn.never rfl (di_seq (dv 4)) (dg_tup (n := 2) rfl (dgs_cons (dg_name (i := 7) sc_law.nd rfl (.inl rfl)) (dgs_cons (dg_name (i := 8) sc_law.nd rfl (.inl rfl)) dgs_nil)))
        (dss_one (ds_if (DW.dt (dw_and (dt_cmp (o_ne (u64 hr)) (dv 8) d_str (nomark _)) (dw_and1 (dt_cmp (o_eq (u64 hr)) (d_call g__law_pull (hr.mono (by omega)) passF (da_cons (dv 1) (da_cons d_int da_nil))) d_int (nomark _)))))
          (dss_cons (ds_dpt (u65 hr) (dv 5) (dv 8) (d_call g__law_plain (hr.mono (by omega)) passF (da_cons (d_dfz (d_call g__law_drawn_line (hr.mono (by omega)) passF (da_cons (dv 1) (da_cons (d_lst (da_cons d_str (da_cons d_str (da_cons d_str (da_cons d_str da_nil))))) da_nil)))) da_nil)))
          (dss_one (ds_dpt (u65 hr) (dv 6) (dv 8) (d_mk gL (hr.mono (by omega)) passF (da_cons (d_dk (u65 hr) (dv 5) (dv 8)) da_nil)))))
          dss_nil)))
      (dss_cons (ds_set (i := 9) sc_law.nd rfl (.inl rfl) (d_callk0 gkL (hr.mono (by omega)) passF (dk_cons (dv 6) (dk_cons (dv 4) dk_nil))))
      (dss_cons (ds_if (DW.dt (dw_or (dt_not (dt_val (d_call g__law_same (hr.mono (by omega)) passF (da_cons (d_dfz (d_mth0 gTable (hr.mono (by omega)) passF (dv 9))) (da_cons (d_call g__law_line (hr.mono (by omega)) passF (da_cons (dv 4) (da_cons (dv 5) da_nil))) da_nil))))) (dw_or1 (dt_cmp (o_ne (u64 hr)) (d_srt rfl m_sorted (da_cons (dv 6) da_nil)) (d_srt rfl m_sorted (da_cons (dv 5) da_nil)) (nomark _)))))
        (dss_one (ds_ret d_bl))
        dss_nil)
      (dss_cons (ds_set (i := 10) sc_law.nd rfl (.inl rfl) (d_dsN (dps_cs d_str (d_tup (da_cons d_int (da_cons d_int da_nil))) (dps_cs d_str (d_tup (da_cons (d_un o_neg d_int) (da_cons d_int da_nil))) (dps_cs (d_op o_add (d_ix (dv 3) d_int) d_str) (d_tup (da_cons d_int (da_cons d_int da_nil))) (dps_cs d_str (d_tup (da_cons d_int (da_cons d_int da_nil))) dps_nil))))))
      (dss_cons (ds_set (i := 11) sc_law.nd rfl (.inl rfl) (d_dictO m_dict (dv 10)))
      (dss_cons (ds_for PassesOwn.never rfl (di_seq (d_lsk rfl m_list (da_cons (dv 5) da_nil))) (dg_name (i := 8) sc_law.nd rfl (.inl rfl))
        (dss_one (ds_dpt (u65 hr) (dv 11) (dv 8) (d_mth gValue (hr.mono (by omega)) passF (d_dk (u65 hr) (dv 6) (dv 8)) (da_cons (dv 10) da_nil)))))
      (dss_one (ds_if (dt_not (dt_val (d_call g__law_same (hr.mono (by omega)) passF (da_cons (d_mth gValue (hr.mono (by omega)) passF (dv 9) (da_cons (dv 10) da_nil)) (da_cons (d_call g__law_value (hr.mono (by omega)) passF (da_cons (dv 4) (da_cons (dv 11) da_nil))) da_nil)))))
        (dss_one (ds_ret d_bl))
        dss_nil))))))))))))
    (dss_one (ds_ret (d_cmp (o_eqK (u65 hr)) (d_dfz (d_mth0 gTable (hr.mono (by omega)) passF (d_call g_line_of (hr.mono (by omega)) passF (da_cons (d_tup (da_cons (d_tup (da_cons (d_tup (da_cons d_int (da_cons d_int da_nil))) (da_cons d_str da_nil))) da_nil)) (da_cons (d_dfz d_dnw) da_nil))))) (d_ds1 d_str (d_tup (da_cons d_int (da_cons d_int da_nil)))) (nomark _)))))
  obtain ⟨t2, p2, k2⟩ := body.ex
  refine ⟨_, pss_cons (ps_set (i := 1) sc_law.nd rfl (.inl rfl) (pe_g g__law_bag (hr.mono (by omega)) pass0 (pa_cons (pv 0) pa_nil))) p2, ?_⟩
  refine ⟨_, rfl, a, ns, rfl, hS, fun p l H1 np s1 B1 => ?_⟩
  refine law_start (en := bagE 10) k2 B1 rfl (fun i x e => bagE_at e rfl) ?_ q _ rfl
  have ln := sizeLine_eq
  rw [tDfz_eq]
  refine ⟨by decide, by decide, ?_⟩
  refine sFor0 (fun i en m => ∃ v2 v3 v4 v5 v6 v7 v8 v9 v10 v11, en = [none, some (.loc 0), v2, v3, v4, v5, v6, v7, v8, v9, v10, v11] ∧ m[0]? = some MO.bag) ⟨none, none, none, none, none, none, none, none, none, none, rfl, rfl⟩ ?_ ?_
  · rintro j d en m N' hd ⟨v2, v3, v4, v5, v6, v7, v8, v9, v10, v11, rfl, hb⟩ r1 r2 r3 hn
    obtain ⟨rfl, hj⟩ := rngD_at hd
    refine ⟨0, 2, rfl, hb, by decide, fun stem first at_ h1 h2 h3 h4 => ?_⟩
    have lx := nameN_lenS (first := first) (at_ := at_) (k := 0) h1
    have ly := nameN_lenS (first := first) (at_ := at_) (k := 1) h1
    have ex : namesN stem first at_ 2 = [nameN stem first at_ 0, nameN stem first at_ 1] := rfl
    rw [ex]
    clear ex
    generalize nameN stem first at_ 0 = n0 at *
    generalize nameN stem first at_ 1 = n1 at *
    refine ⟨0, [n0, n1], rfl, hb, by show 2 ≤ 100; decide, fun z hz => ?_, fun its hits => ?_⟩
    · simp only [List.mem_cons, List.not_mem_nil, or_false] at hz
      rcases hz with rfl | rfl <;> omega
    obtain ⟨xs, rfl, hx, hl6⟩ := expr_xs hits
    clear hits
    simp only [sSeq, sPar, sAsg, sSet, sExpr, sRet, sDpt, tTu, tLs, tCn, tN, tMk, tMkK, tMth, tCm, tCal, tV, tK, tDfzK, tDnw, tDs1, gTp, gCn, gN, gNl, List.set, En.get, List.getElem?_cons_zero, List.getElem?_cons_succ, Option.getD_some, oDs, oD, keyD, List.map_cons, List.map_nil]
    have m0 : 0 < m.length := (List.getElem?_eq_some_iff.mp hb).1
    have hM1 : (m ++ [MO.dic []] ++ [MO.dic []])[m.length]? = some (MO.dic (tabsK [])) := by simp
    have hM2 : (m ++ [MO.dic []] ++ [MO.dic []])[(m ++ [MO.dic []]).length]? = some (MO.dic (linesK C [])) := by simp
    have hM0 : (m ++ [MO.dic []] ++ [MO.dic []])[0]? = some MO.bag := at_app (at_app hb)
    have ne0 : m.length ≠ 0 := by omega
    have ne1 : (m ++ [MO.dic []]).length ≠ 0 := by rw [List.length_append]; show _ + 1 ≠ 0; omega
    have ne2 : m.length ≠ (m ++ [MO.dic []]).length := by rw [List.length_append]; show _ ≠ _ + 1; omega
    generalize m.length = i1 at *
    generalize (m ++ [MO.dic []]).length = i2 at *
    generalize m ++ [MO.dic []] ++ [MO.dic []] = M at *
    let n4 : List Str := ["a.w", "zq.h", "one", "room.w"]
    refine sFor0 (its := xs.map itD) (fun i en m => ∃ v7 v8 E, en = [none, some (.loc 0), some (.v (.int (0 + ↑j))), some (.v (.lst [.str n0, .str n1])), some (.v (.tup (xs.map itD))), some (.loc i1), some (.loc i2), v7, v8, v9, v10, v11] ∧ m[0]? = some .bag ∧ m[i1]? = some (.dic (tabsK E)) ∧ m[i2]? = some (.dic (linesK C E)) ∧ EdOk E ∧ (E.map (·.1)).Nodup ∧ ("one" : Str) ∉ E.map (·.1) ∧ E.length ≤ i ∧ ∀ p ∈ E, ∀ k ∈ keyF p.2, k ∈ n4) ⟨v7, v8, [], rfl, hM0, hM1, hM2, fun _ h => (nomatch h), List.nodup_nil, (fun h => nomatch h), Nat.le_refl _, fun _ h => (nomatch h)⟩ ?_ ?_
    · rintro i d en m' N2 hd2 ⟨v7, v8, E, rfl, hb', ht, hl, he, nE, o1, lE, hk⟩ q1 q2 q3 hn2
      rw [List.getElem?_map] at hd2
      obtain ⟨x, hxi, rfl⟩ := Option.map_eq_some_iff.mp hd2
      have xi : i < 6 := by
        have := (List.getElem?_eq_some_iff.mp hxi).1
        omega
      refine ⟨rfl, rfl, rfl, Nat.zero_le _, Nat.zero_le _, ?_⟩
      show if (!(x.2 == ("one" : Str))) = true then _ else _
      refine iteB (fun t1 => ?_) (fun t1 => ?_)
      · refine ⟨0, 2, rfl, hb', by decide, by decide, fun r r0 r1 => ⟨rfl, rfl, Nat.zero_le _, Nat.zero_le _, ?_⟩⟩
        show if id (r == (0 : Int)) = true then _ else _
        refine iteB (fun t2 => ?_) (fun t2 => ?_)
        · refine ⟨by show 4 ≤ sizeLine; omega, 0, n4, rfl, hb', by show 4 < 60; decide, fun r dr => fzK_last ⟨r, rfl, dr.ok, Nat.lt_of_le_of_lt dr.len (by show 4 < 60; decide), fun t T => ?_⟩⟩
          have et := EdT.of dr (by show 4 ≤ 4; decide) T
          have hb1 := at_app (r := [MO.gone]) hb'
          have ht1 := at_app (r := [MO.gone]) ht
          have hl1 := at_app (r := [MO.gone]) hl
          have n1x : x.2 ≠ "one" := by simpa using t1
          refine dicAt_of ht1 ⟨by rw [List.length_map]; omega, ?_⟩
          rw [putE_D (h := fun e => .dic (kvF e))]
          refine look_of (at_set ht1) ⟨.dic (kvF t), ?_, ?_⟩
          · rw [valD_mapE (h := fun e => .dic (kvF e)), putE_look, if_pos rfl]
            rfl
          dsimp only [tN]
          refine mk_init (y := .v (.dic (kvF t))) (l := t) rfl T.nd (by have := et.len; omega) fun l0 L0 => ?_
          have e0 : l0 = t := L0.uniq (T.congr fun k => (nz_idem T k).symm)
          subst e0
          refine dicAt_of (at_setN ne2 hl1) ⟨by rw [List.length_map]; omega, ?_⟩
          rw [putE_D (h := lineD C)]
          refine (hn2 _ _ ⟨_, _, putE E x.2 l0, rfl, at_setN ne1 (at_setN ne0 hb1), at_setN (Ne.symm ne2) (at_set ht1), at_set (at_setN ne2 hl1), fun p hp => ?_, putE_nd nE, ?_, Nat.le_trans putE_len (by omega), fun p hp k hk2 => ?_⟩).1
          · rcases putE_mem p hp with h | h
            · exact he p h
            · rw [h]
              exact et
          · rw [putE_keys]
            by_cases c : x.2 ∈ E.map (·.1)
            · rw [if_pos c]
              exact o1
            · rw [if_neg c]
              intro w
              rcases List.mem_append.mp w with w | w
              · exact o1 w
              · exact n1x (List.mem_singleton.mp w).symm
          · rcases putE_mem p hp with h | h
            · exact hk p h k hk2
            · rw [h] at hk2
              obtain ⟨v, hv⟩ := Option.isSome_iff_exists.mp (look_mem.mpr hk2)
              exact dr.sub k (look_mem.mp (by rw [nz_some ((T.eq k).symm.trans hv)]; rfl))
        · refine (hn2 _ _ ⟨_, _, E, rfl, hb', ht, hl, he, nE, o1, by omega, hk⟩).1
      · refine (hn2 _ _ ⟨_, _, E, rfl, hb', ht, hl, he, nE, o1, by omega, hk⟩).1
    · rintro en m' ⟨v7, v8, E, rfl, hb', ht, hl, he, nE, o1, lE, hk⟩
      rw [List.length_map] at lE
      have lE6 : E.length ≤ 6 := by omega
      refine ⟨rfl, rfl, xs, _, E, rfl, look_of hl rfl, he, hx, hl6, fun l T => ?_⟩
      refine ⟨_, rfl, rfl, l, rfl, fzK_last ?_⟩
      have hb1 := at_app (r := [MO.gone]) hb'
      have ht1 := at_app (r := [MO.gone]) ht
      have hl1 := at_app (r := [MO.gone]) hl
      refine ⟨xs, _, E, rfl, look_of ht1 rfl, he, hx, hl6, fun l' T' => ?_⟩
      have e1 : l' = l := T'.uniq T
      subst e1
      have ll := lineFn_len he hx T
      refine ⟨_, rfl, fit_kvF 2 T.nd (by omega), ?_⟩
      have kE : (E.map (·.1)).length < 64 := by rw [List.length_map]; omega
      refine look_of hl1 (keysL_E (h := lineD C) ⟨kE, fun ys pm sr => look_of ht1 (keysL_E (h := fun e => .dic (kvF e)) ⟨kE, fun zs pz sz => ?_⟩)⟩)
      have e : zs = ys := sorted_unique sz sr (pz.nodup_iff.mpr nE) (pm.nodup_iff.mpr nE) fun x => by rw [pz.mem_iff, pm.mem_iff]
      subst e
      refine ⟨plain_strsK zs, plain_strsK zs, dep_strsK zs, dep_strsK zs, iteN (by show (!(deqL (zs.map D.str) (zs.map D.str))) = false; rw [deq_strsK]; rfl) ?_⟩
      simp only [sSeq, sPar, sAsg, sSet, sExpr, sRet, sDpt, tTu, tLs, tCn, tN, tMk, tMkK, tMth, tCm, tCal, tV, tK, tDfzK, tDnw, tDs1, gTp, gCn, gN, gNl, List.set, En.get, List.getElem?_cons_zero, List.getElem?_cons_succ, Option.getD_some, oDs, oD, keyD, List.map_cons, List.map_nil, sNx, tDsN, tPc, tP0]
      have l2w : (".w" : Str).length = 2 := rfl
      refine ⟨by show 2 ≤ sizeLine; omega, by show 2 ≤ sizeLine; omega, _, rfl, by omega, by show 2 ≤ sizeLine; omega, by show 2 ≤ sizeLine; omega, ?_⟩
      obtain ⟨g, eg, pg, lg⟩ := given_ok n0
      simp only [keysW, oD, keyD]
      rw [eg]
      simp only [look, dicD]
      generalize hMm : m' ++ [MO.gone] = mm at *
      have hb2 : ∀ X, (mm ++ [X])[0]? = some MO.bag := fun X => at_app hb1
      have ht2 : ∀ X, (mm ++ [X])[i1]? = some (.dic (tabsK E)) := fun X => at_app ht1
      have hl2 : ∀ X, (mm ++ [X])[i2]? = some (.dic (linesK C E)) := fun X => at_app hl1
      refine look_of (ht2 _) ?_
      have hits : ((tabsK E).map fun p => kD p.1) = (E.map (·.1)).map D.str := keysE_str (h := fun e => .dic (kvF e)) E
      simp only [lskD, dicD, oD, iterD]
      rw [hits]
      refine sFor0 (fun i en m => ∃ v8 vs, en = [none, some (.loc 0), some (.v (.int (0 + ↑j))), some (.v (.lst [.str n0, .str n1])), some (.v (.tup (xs.map itD))), some (.loc i1), some (.loc i2), v7, v8, some (.v (lineD C l')), some (.v (.dic (kvF g))), some (.loc mm.length)] ∧ m = mm ++ [.dic (kvF vs)] ∧ (∀ z ∈ (E.map (·.1)).take i, getF (lk vs) z = valL (edgeOf E z) g) ∧ (∀ z, z ∉ (E.map (·.1)).take i → getF (lk vs) z = getF (lk g) z) ∧ PosF (getF (lk vs)) 400 ∧ vs.length ≤ 4 + i) ⟨v8, g, rfl, rfl, fun _ h => (nomatch h), fun _ _ => rfl, ⟨pg.low, fun k => (pg.sz k).mono (by decide)⟩, by omega⟩ ?_ ?_
      · rintro i d en m2 N3 hd3 ⟨v8, vs, rfl, rfl, a1, a2, pv, lv⟩ y1 y2 y3 hn3
        rw [List.getElem?_map] at hd3
        obtain ⟨x, hxi, rfl⟩ := Option.map_eq_some_iff.mp hd3
        have xm := List.mem_of_getElem? hxi
        have xi : i < 6 := by
          have := (List.getElem?_eq_some_iff.mp hxi).1
          rw [List.length_map] at this
          omega
        obtain ⟨e, he2⟩ := lookE_mem xm
        have ee : edgeOf E x = e := by unfold edgeOf; rw [he2]; rfl
        have ed := he.get x
        rw [ee] at ed
        have tk : (E.map (·.1)).take (i + 1) = (E.map (·.1)).take i ++ [x] := by
          rw [List.take_add_one, hxi]
          rfl
        have el := ed.len
        refine look_of (hl2 _) ⟨lineD C e, ?_, ?_⟩
        · rw [valD_mapE (h := lineD C), he2]
          rfl
        refine ⟨_, rfl, rfl, e, _, g, 40, 4, rfl, rfl, ed.nd, ed.pos, pg, by decide, by omega, ?_⟩
        refine dicAt_last ⟨by rw [List.length_map]; omega, ?_⟩
        rw [set_last1, putT_kvF]
        have vlow : LowF (valL e g) := sumV_low ed.pos pg (ed.pos.low _)
        have vsz : szF 400 (valL e g) := by
          refine (sumV_sz ed.pos pg (ed.pos.low _) (ed.pos.sz _)).mono ?_
          have z1 := List.length_filter_le notOne (keyF e)
          have z2 : (keyF e).length ≤ 4 := by rw [keyF, List.length_map]; exact el
          have z3 : ((keyF e).filter notOne).length ≤ 4 := by omega
          omega
        have gl : ∀ z, getF (lk (putT vs x (valL e g))) z = if z = x then valL e g else getF (lk vs) z := fun z => by
          unfold getF
          show (List.lookup z (putT vs x (valL e g))).getD (0, 1) = _
          rw [putT_look]
          by_cases c : z = x
          · rw [if_pos c, if_pos c]
            rfl
          · rw [if_neg c, if_neg c]
        refine (hn3 _ _ ⟨some (.v (.str x)), putT vs x (valL e g), rfl, rfl, fun z hz => ?_, fun z hz => ?_, ⟨fun k => ?_, fun k => ?_⟩, Nat.le_trans putT_len (by omega)⟩).1
        · rw [gl]
          by_cases c : z = x
          · rw [if_pos c, c, ee]
          · rw [if_neg c]
            rw [tk] at hz
            rcases List.mem_append.mp hz with w | w
            · exact a1 z w
            · exact absurd (List.mem_singleton.mp w) c
        · rw [tk] at hz
          have c : z ≠ x := fun w => hz (List.mem_append.mpr (.inr (List.mem_singleton.mpr w)))
          rw [gl, if_neg c]
          exact a2 z fun w => hz (List.mem_append.mpr (.inl w))
        · rw [gl]
          by_cases c : k = x
          · rw [if_pos c]
            exact vlow
          · rw [if_neg c]
            exact pv.low k
        · rw [gl]
          by_cases c : k = x
          · rw [if_pos c]
            exact vsz
          · rw [if_neg c]
            exact pv.sz k
      · rintro en m2 ⟨v8, vs, rfl, rfl, a1, a2, pv, lv⟩
        rw [List.length_map, List.take_length] at a1 a2
        have VO : ValsOf E g vs := by
          refine ⟨fun z e hz => ?_, fun z hz => a2 z fun w => ?_, lookE_none o1⟩
          · have zm : z ∈ E.map (·.1) := List.mem_map.mpr ⟨_, look_memE hz, rfl⟩
            rw [a1 z zm]
            unfold edgeOf
            rw [hz]
            rfl
          · obtain ⟨e, q⟩ := lookE_mem w
            rw [hz] at q
            cases q
        have EV := expr_value he pg pv (by decide) VO hx T
        have pos := lineFn_pos he xs hx
        have pl : PosF (getF (lk l')) 271 := ⟨fun k => by rw [nzF_getF T]; exact pos.low k, fun k => by rw [nzF_getF T]; exact (pos.sz k).mono (by omega)⟩
        have l10 : l'.length ≤ 10 := by
          have z := len_sub (ys := keyF l') (zs := n4 ++ xs.map (·.2)) T.nd fun k hk2 => by
            obtain ⟨x, hx2, hk3⟩ := List.mem_flatMap.mp (lineFn_key xs hx (nzF_key T hk2))
            unfold edgeOf at hk3
            cases c : E.lookup x.2 with
            | none =>
              rw [c] at hk3
              have hk3 : k ∈ [x.2] := hk3
              rw [List.mem_singleton.mp hk3]
              exact List.mem_append.mpr (.inr (List.mem_map_of_mem hx2))
            | some e =>
              rw [c] at hk3
              exact List.mem_append.mpr (.inl (hk _ (look_memE c) k hk3))
          rw [List.length_append, keyF, List.length_map, List.length_map] at z
          have z4 : n4.length = 4 := rfl
          omega
        refine ⟨_, rfl, rfl, l', _, g, 271, 4, rfl, rfl, T.nd, pl, pg, by decide, l10, ?_⟩
        refine ⟨xs, _, vs, 400, rfl, look_of (by simp) rfl, pv, by decide, by decide, hx, hl6, ?_⟩
        rw [EV]
        refine ⟨_, rfl, fit_frD 3 _, ?_⟩
        exact (hn _ _ ⟨_, _, _, _, _, _, _, _, _, _, rfl, hb2 _⟩).1
  · rintro en m ⟨v2, v3, v4, v5, v6, v7, v8, v9, v10, v11, rfl, hb⟩
    refine ⟨by show 2 ≤ sizeLine; omega, by show 2 ≤ sizeLine; omega, by show 1 ≤ sizeLine; omega, ?_⟩
    simp only [sSeq, sPar, sAsg, sSet, sExpr, sRet, sDpt, tTu, tLs, tCn, tN, tMk, tMkK, tMth, tCm, tCal, tV, tK, tDfzK, tDnw, tDs1, gTp, gCn, gN, gNl, List.set, En.get, List.getElem?_cons_zero, List.getElem?_cons_succ, Option.getD_some, oDs, oD, keyD, List.map_cons, List.map_nil]
    refine fzK_last ?_
    refine ⟨[((2, 1), "one")], _, [], rfl, rfl, fun _ h => (nomatch h), fun x hx => ?_, by decide, fun l T => ?_⟩
    · rw [List.mem_singleton.mp hx]
      exact ⟨by decide, by decide, by decide, by decide, by decide⟩
    have el : l = [(("one" : Str), ((2, 1) : Int × Int))] := by
      refine T.uniq ((tab_one (by decide)).congr fun k => ?_)
      by_cases c : k = "one"
      · subst c
        decide +kernel
      · have e1 : lineFn [] [((2, 1), "one")] k = plusI (0, 1) (timesI (getF (lk [(("one" : Str), ((1, 1) : Int × Int))]) k) (2, 1)) := rfl
        have e2 : getF (lk [(("one" : Str), ((1, 1) : Int × Int))]) k = (0, 1) := getF_out (by simpa [keyF] using c)
        have e3 : plusI (0, 1) (timesI (0, 1) (2, 1)) = (0, 1) := by decide +kernel
        rw [e1, e2, e3, nzF_0]
        unfold nzT
        rw [List.lookup_cons]
        have e : (k == ("one" : Str)) = false := by simpa using c
        rw [e]
        rfl
    subst el
    refine ⟨_, rfl, rfl, _, rfl, fzK_last ⟨by show 2 ≤ sizeLine; omega, okVs_kvF [(("one" : Str), ((2, 1) : Int × Int))], okVs_kvF [(("one" : Str), ((2, 1) : Int × Int))], ?_⟩⟩
    have e := eqT_refl (l := [(("one" : Str), ((2, 1) : Int × Int))]) (by simp [keyF])
    unfold eqT at e
    show W.v (D.bl (_ == _ && eqHits (kvF [(("one" : Str), ((2, 1) : Int × Int))]) (kvF [(("one" : Str), ((2, 1) : Int × Int))]))) = W.v (.bl true)
    exact congrArg (fun b => W.v (D.bl b)) e
end
end Fs
set_option Elab.async false
set_option linter.all false
set_option maxRecDepth 100000
set_option maxHeartbeats 0
namespace Fs
open PySem PySem.Spec PyProof.Rows L2
def fn : List He.DefD := [dD "common_factor" s_common_factor, dD "plus" s_plus, dD "times" s_times, dD "line_of" s_line_of, dD "_law_bag" s__law_bag, dD "_law_pull" s__law_pull, dD "_law_of" s__law_of, dD "_law_mixed" s__law_mixed, dD "_law_same" s__law_same, dD "_law_low" s__law_low, dD "_law_plus" s__law_plus, dD "_law_times" s__law_times, dD "_law_ratio" s__law_ratio, dD "_law_names" s__law_names, dD "_law_flat" s__law_flat, dD "_law_add" s__law_add, dD "_law_plain" s__law_plain, dD "_law_factor" s__law_factor, dD "_law_expression" s__law_expression, dD "_law_size_names" s__law_size_names, dD "_law_edge_names" s__law_edge_names, dD "_law_value" s__law_value, dD "_law_line" s__law_line, dD "_law_drawn_line" s__law_drawn_line, dD "_law_any_expression" s__law_any_expression, dD "law" s_law, ⟨("ratio", none), "ratio", "ratio", defArgs s_ratio, defBody s_ratio, defScope s_ratio, [.int 1], []⟩, dC "Line" "__init__" "Line.__init__" s_Line___init__, dC "Line" "part" "Line.part" s_Line_part, dC "Line" "table" "Line.table" s_Line_table, dC "Line" "__add__" "Line.__add__" s_Line___add__, dC "Line" "__mul__" "Line.__mul__" s_Line___mul__, dC "Line" "value" "Line.value" s_Line_value]
def fa : List He.Fa := [.glo "common_factor", .glo "plus", .glo "times", .glo "line_of", .glo "_law_bag", .glo "_law_pull", .glo "_law_of", .glo "_law_mixed", .glo "_law_same", .glo "_law_low", .glo "_law_plus", .glo "_law_times", .glo "_law_ratio", .glo "_law_names", .glo "_law_flat", .glo "_law_add", .glo "_law_plain", .glo "_law_factor", .glo "_law_expression", .glo "_law_size_names", .glo "_law_edge_names", .glo "_law_value", .glo "_law_line", .glo "_law_drawn_line", .glo "_law_any_expression", .glo "law", .glo "Line", .glo "ratio", .glo "ZERO", .glo "ONE", .free "int", .free "list", .free "len", .free "isinstance", .free "tuple", .free "all", .free "range", .free "dict", .free "bool", .free "str", .free "abs", .free "sorted", .free "set", .str "CONSTANT" "one"]
def exB (K : Frag) : Bool := (lineB K (He.ga K "Line")) && (binB K (He.ga K "Line") .Mult) && ((["__init__", "part", "table", "__add__", "__mul__", "value"] : List Str).all fun m => specB K (He.ga K "Line") m) && (cmB K "Line" "unknown" "Line.unknown") && (conU K 3 (.ref (He.ga K "ZERO")) (frD (0, 1))) && (conU K 3 (.ref (He.ga K "ONE")) (frD (1, 1)))
abbrev R : PySem.W.OpenRow := PySem.W.OpenLaw.row PySem.Challenge.rw_framesure_k18_lines_of_expressions
def tf : List He.Defn := []
def tsL : List He.Tab := []
def cms : List (Str × Str) := [("Line", "unknown")]
def cv : List He.FnW := [(dC "Line" "unknown" "Line.unknown" s_Line_unknown).val]
abbrev hk : PySem.W.Hook := hookY 7 fa fn tsL tf exB cms cv
def ob (s : PySem.W.SharedT) : He.AlX × List He.FnW := obsY 7 fa fn tsL tf exB cms (HandSHeadRun.getT s)
theorem ob_eq (s : PySem.W.SharedT) : ob s = hk.obs s.abs := obsY_eq (HandSHeadRun.getT_eq s)
def loose : List Str := (["_wall", "FrameError", "InvalidRatio", "ZERO", "ONE", "common_factor", "ratio", "plus", "minus", "times", "CONSTANT", "Line", "line_of", "_law_bag", "_law_pull", "_law_of", "_law_mixed", "_law_same", "_law_low", "_law_plus", "_law_times", "_law_ratio", "_law_names", "_law_flat", "_law_add", "_law_plain", "_law_factor", "_law_expression", "_law_size_names", "_law_edge_names"] : List Str) ++ (["_law_value", "_law_line", "_law_drawn_line", "_law_any_expression"] : List Str)
theorem run (w : World) : HandSHeadRun.RunEq R (PySem.W.view R.prog [39]) hk ob 12000 loose w := by
  intro os
  kernel_rfl
theorem facts {P : Program} {w : World} {K : Frag} {h : Heap} {mg : Str → Option Value} {f : Addr} (X : K.In h) (G : h.Ns mainGlobals mg) (hfa : mg ("law" : Str) = some (.ref f)) (c : He.SaysX fa fn tsL tf exB w h K) (cy : cmW cms K = cv) :
    ∃ fd : FuncData, (∀ (s : Shared) (v : Value), BindsTo s fd ⟨[v], []⟩ [("_law_script", v)]) ∧ ∀ base : Heap, K.In base → base.Ns mainGlobals mg → FnOk P w K mg base CX0 20 f fd ["_law_script"] (spLaw K) := by
  have d := c.t.d
  obtain ⟨fd, FL⟩ := d.def_ 25 (d := dD "law" s_law) rfl
  have e := hfa.symm.trans (He.glo_ok X G (d.fact 25 (f := .glo "law") rfl))
  cases e
  have b := FunD.bindsA (ps := ["_law_script"]) FL fun _ _ _ _ _ _ us hl => match us, hl with | [_], _ => rfl
  refine ⟨fd, fun s v => b s [v] rfl, fun base _ _ => ?_⟩
  have G_common_factor := gs_of X G d 0 0 "common_factor" s_common_factor rfl rfl
  have G_plus := gs_of X G d 1 1 "plus" s_plus rfl rfl
  have G_times := gs_of X G d 2 2 "times" s_times rfl rfl
  have G_line_of := gs_of X G d 3 3 "line_of" s_line_of rfl rfl
  have G__law_bag := gs_of X G d 4 4 "_law_bag" s__law_bag rfl rfl
  have G__law_pull := gs_of X G d 5 5 "_law_pull" s__law_pull rfl rfl
  have G__law_of := gs_of X G d 6 6 "_law_of" s__law_of rfl rfl
  have G__law_mixed := gs_of X G d 7 7 "_law_mixed" s__law_mixed rfl rfl
  have G__law_same := gs_of X G d 8 8 "_law_same" s__law_same rfl rfl
  have G__law_low := gs_of X G d 9 9 "_law_low" s__law_low rfl rfl
  have G__law_plus := gs_of X G d 10 10 "_law_plus" s__law_plus rfl rfl
  have G__law_times := gs_of X G d 11 11 "_law_times" s__law_times rfl rfl
  have G__law_ratio := gs_of X G d 12 12 "_law_ratio" s__law_ratio rfl rfl
  have G__law_names := gs_of X G d 13 13 "_law_names" s__law_names rfl rfl
  have G__law_flat := gs_of X G d 14 14 "_law_flat" s__law_flat rfl rfl
  have G__law_add := gs_of X G d 15 15 "_law_add" s__law_add rfl rfl
  have G__law_plain := gs_of X G d 16 16 "_law_plain" s__law_plain rfl rfl
  have G__law_factor := gs_of X G d 17 17 "_law_factor" s__law_factor rfl rfl
  have G__law_expression := gs_of X G d 18 18 "_law_expression" s__law_expression rfl rfl
  have G__law_size_names := gs_of X G d 19 19 "_law_size_names" s__law_size_names rfl rfl
  have G__law_edge_names := gs_of X G d 20 20 "_law_edge_names" s__law_edge_names rfl rfl
  have G__law_value := gs_of X G d 21 21 "_law_value" s__law_value rfl rfl
  have G__law_line := gs_of X G d 22 22 "_law_line" s__law_line rfl rfl
  have G__law_drawn_line := gs_of X G d 23 23 "_law_drawn_line" s__law_drawn_line rfl rfl
  have G__law_any_expression := gs_of X G d 24 24 "_law_any_expression" s__law_any_expression rfl rfl
  have c_Line := He.glo_ok X G (d.fact 26 (f := .glo "Line") rfl)
  have c_ratio := He.glo_ok X G (d.fact 27 (f := .glo "ratio") rfl)
  have c_ZERO := He.glo_ok X G (d.fact 28 (f := .glo "ZERO") rfl)
  have c_ONE := He.glo_ok X G (d.fact 29 (f := .glo "ONE") rfl)
  have m_int := free_of X G d 30 "int" rfl
  have m_list := free_of X G d 31 "list" rfl
  have m_len := free_of X G d 32 "len" rfl
  have m_isinstance := free_of X G d 33 "isinstance" rfl
  have m_tuple := free_of X G d 34 "tuple" rfl
  have m_all := free_of X G d 35 "all" rfl
  have m_range := free_of X G d 36 "range" rfl
  have m_dict := free_of X G d 37 "dict" rfl
  have m_bool := free_of X G d 38 "bool" rfl
  have m_str := free_of X G d 39 "str" rfl
  have m_abs := free_of X G d 40 "abs" rfl
  have m_sorted := free_of X G d 41 "sorted" rfl
  have m_set := free_of X G d 42 "set" rfl
  have more := c.more
  unfold exB at more
  simp only [Bool.and_eq_true] at more
  obtain ⟨⟨⟨⟨⟨x1, x3⟩, x4⟩, x6⟩, x7⟩, x8⟩ := more
  have L := lineB_ok x1
  have bM := binB_ok x3
  have SPC : ∀ m ∈ (["__init__", "part", "table", "__add__", "__mul__", "value"] : List Str), SpecC K (He.ga K "Line") m := fun m hm => specB_ok (List.all_eq_true.mp x4 m hm)
  have cu := cmB_ok x6
  obtain ⟨tC, c_CONST⟩ := He.str_ok X G (d.fact 43 rfl)
  obtain ⟨fdR, FR⟩ := d.def_ 26 rfl
  obtain ⟨fd0, FM0⟩ := d.def_ 27 rfl
  obtain ⟨fd1, FM1⟩ := d.def_ 28 rfl
  obtain ⟨fd2, FM2⟩ := d.def_ 29 rfl
  obtain ⟨fd3, FM3⟩ := d.def_ 30 rfl
  obtain ⟨fd4, FM4⟩ := d.def_ 31 rfl
  obtain ⟨fd5, FM5⟩ := d.def_ 32 rfl
  obtain ⟨fdu, FU⟩ := funD_at (d := dC "Line" "unknown" "Line.unknown" s_Line_unknown) (cm_at cy 0 rfl rfl) cu.ok
  have gBag := ok__law_bag (P := P) (w := w) (base := base) G__law_bag m_int m_list
  have gPull := pullD (ok__law_pull (P := P) (w := w) (base := base) G__law_pull m_int m_len)
  have gOf := dd__law_of G__law_of gPull m_len
  have gSame := dd__law_same (P := P) (w := w) (base := base) G__law_same m_isinstance m_tuple m_list m_all m_range m_len m_dict m_int m_bool m_str m_sorted 5
  have gNames := dd__law_names G__law_names gPull m_range m_int
  have gMixed := dd__law_mixed G__law_mixed m_len gPull
  have gG := dd_common_factor (P := P) (w := w) (base := base) G_common_factor m_abs
  have gLow := dd__law_low (P := P) (w := w) (base := base) G__law_low m_abs
  have fR := fo_ratioD (P := P) (w := w) (base := base) gG
  have GR : Gsd K mg "ratio" s_ratio [.int 1] [] := ⟨_, fdR, c_ratio, FR⟩
  have gR := (fR.gdd (dv := []) GR 2 1 (by simp) rfl rfl (fun T kV doc pm an cdv ct us its l1 l2 => match us, its, l1, l2 with | [_, _], [_], _, _ => ⟨_, rfl, rfl⟩)).gd
  have gPlus := dd_plusB G_plus gR
  have gTimes := dd_timesB G_times gR
  have gLPlus := dd__law_plusB G__law_plus gLow
  have gLTimes := dd__law_timesB G__law_times gLow
  have gRat := dd__law_ratio G__law_ratio gOf gPull gLow
  have gDrawn := dd__law_drawn_line G__law_drawn_line gOf gPull gRat
  have gAddB := dd__law_addB G__law_add m_sorted m_set m_list gLPlus gLTimes
  have gPlain := dd__law_plain G__law_plain (dd__law_add G__law_add m_sorted m_set m_list gLPlus gLTimes)
  have gFlat := dd__law_flat (P := P) (w := w) (base := base) G__law_flat m_list
  have gAny := dd__law_any_expression G__law_any_expression (dd__law_edge_names G__law_edge_names gFlat) (dd__law_size_names G__law_size_names gFlat) (dd__law_expression G__law_expression gMixed gPull m_tuple (dd__law_factor G__law_factor gOf gPull gLow))
  have gLine := dd__law_line G__law_line gAddB
  have gVal := dd__law_value G__law_value gLPlus gLTimes
  have i0 := fm_init (P := P) (w := w) (base := base) FM0 L.cl L.na m_sorted c_ZERO x7
  have gL : GmC P w K mg base 3 "Line" (He.ga K "Line") (spInit (He.ga K "Line")) := ⟨_, _, _, c_Line, L.made, FM0.bindsN fun _ _ _ _ _ _ us hl => match us, hl with | [_, _], _ => rfl, i0⟩
  have gPart : GmM P w K mg base 2 (He.ga K "Line") "part" (spPart (He.ga K "Line")) := ⟨L.cl, _, _, _, (SPC "part" (by simp)).meth, FM1.bindsN fun _ _ _ _ _ _ us hl => match us, hl with | [_, _], _ => rfl, fm_part FM1 L.cl L.na c_ZERO x7⟩
  have gTable : GmM P w K mg base 2 (He.ga K "Line") "table" (spTable (He.ga K "Line")) := ⟨L.cl, _, _, _, (SPC "table" (by simp)).meth, FM2.bindsN fun _ _ _ _ _ _ us hl => match us, hl with | [_], _ => rfl, fm_table FM2 L.cl L.na m_dict⟩
  have gAddL : GmS P w K mg base 6 (He.ga K "Line") (PySem.dunder (Operator.Add).info.2) (spAddB (He.ga K "Line")) := ⟨_, _, _, (SPC "__add__" (by simp)).at_, (SPC "__add__" (by simp)).fn, FM3.bindsN fun _ _ _ _ _ _ us hl => match us, hl with | [_, _], _ => rfl, fm_addB FM3 L.cl L.na c_ZERO x7 m_sorted gL gPlus⟩
  have gMulL : GmS P w K mg base 6 (He.ga K "Line") (PySem.dunder (Operator.Mult).info.2) (spMulB (He.ga K "Line")) := ⟨_, _, _, (SPC "__mul__" (by simp)).at_, (SPC "__mul__" (by simp)).fn, FM4.bindsN fun _ _ _ _ _ _ us hl => match us, hl with | [_, _], _ => rfl, fm_mulB FM4 L.cl L.na gL gTimes⟩
  have iV := fm_valueB (P := P) (w := w) (base := base) FM5 L.cl L.na c_ZERO x7 c_CONST ⟨_, rfl⟩ (by decide +kernel) gPart gPlus gTimes
  have gValue : GmM P w K mg base 6 (He.ga K "Line") "value" (spValueB (He.ga K "Line")) := ⟨L.cl, _, _, _, (SPC "value" (by simp)).meth, FM5.bindsN fun _ _ _ _ _ _ us hl => match us, hl with | [_, _], _ => rfl, iV⟩
  have gUnk : GmF P w K mg base 6 (He.ga K "Line") "unknown" (spUnknown (He.ga K "Line")) := ⟨_, _, _, _, _, cu.rd, cu.cm, FU.bindsN fun _ _ _ _ _ _ us hl => match us, hl with | [_, _], _ => rfl, fm_unknown FU c_ONE x8 gL⟩
  have fL := fo_line_of (P := P) (w := w) (base := base) gL c_Line gUnk bM.sf gAddL bM gMulL
  have kL := fL.gk G_line_of 0 ["edges", "expression"] gSwL gSwL_rel (fun _ _ _ _ _ _ us ws l1 l2 => match us, ws, l1, l2 with | [], [_, _], _, _ => rfl)
  have gLo := fL.gd G_line_of (fun _ _ _ _ _ _ us hl => match us, hl with | [_, _], _ => rfl)
  exact fo_law gBag m_range m_dict m_sorted m_list gNames gPull gDrawn gAny gPlain gLine gVal gSame gLo ⟨kL, Reo.swL⟩ gL gTable gValue _ _ FL
end Fs
open PySem PySem.W PySem.Calls PyProof.Rows
theorem PySem.Challenge.cw_framesure_k18_lines_of_expressions_holds : PySem.Challenge.rw_framesure_k18_lines_of_expressions.Holds := by
  w_on; o_law
  refine HandSHeadRun.head_any (r := OpenLaw.row PySem.Challenge.rw_framesure_k18_lines_of_expressions) (q := view (OpenLaw.row PySem.Challenge.rw_framesure_k18_lines_of_expressions).prog [39]) (H := Fs.hk) (ob := Fs.ob) (M := 12000) (loose := Fs.loose) (d := HandSHeadRun.topDef (OpenLaw.row PySem.Challenge.rw_framesure_k18_lines_of_expressions).prog 39) (kwd := []) Fs.ob_eq
    (by kernel_rfl) (fun s => by kernel_rfl) Fs.run (by kernel_rfl) (by kernel_rfl) (by kernel_rfl) (by rfl) (by first | assumption | decide +kernel) (by decide +kernel) ⟨rfl, rfl, rfl, rfl, rfl, by decide +kernel⟩ ?hw ?hc
  case hw => w_witness2
  case hc =>
    refine L2.walk_ofE (l := PySem.Challenge.rw_framesure_k18_lines_of_expressions) (n := 63) (k := 20) (x := "_law_script") (CX := L2.CX0) rfl (by decide) (by kernel_rfl) ⟨rfl, by decide, by decide⟩ ?F (fun _ _ _ _ z => z)
    intro w mg fa h Y G hmg0
    obtain ⟨K, KX, c, cy⟩ := Y
    have hmg : mg ("law" : PySem.Str) = some (.ref fa) := by
      have e : (HandSHeadRun.topDef (OpenLaw.row PySem.Challenge.rw_framesure_k18_lines_of_expressions).prog 39).name = ("law" : PySem.Str) := by kernel_rfl
      rw [← e]
      exact hmg0
    obtain ⟨fd, hb, hF⟩ := Fs.facts (P := (PySem.Challenge.rw_framesure_k18_lines_of_expressions).prog) (w := w) KX G hmg c cy
    exact ⟨K, fd, Fs.spLaw K, KX, hb, fun H a ns hl _ hS => ⟨a, ns, rfl, hS, hl, fun _ => rfl⟩, hF⟩
