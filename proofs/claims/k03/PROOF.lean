import PyProof.Rows.All
import Wide.All
import OpenK.AllK
import Wide.FinOn
import KE.KStateDown
import HandS.ForMost
import HandS.Exc
import HandS.WordsExc
import HandS.Defaults
import HandS.IsInst
import HandS.Wide
import HandS.Flow
import HandS.Walk
import HandS.Head0
import HandS.Head1
import HandS.Head2
import HandS.HeadEnd
import HandS.HeadHook1
import HandS.HeadHook2
import HandS.HeadHook3
import HandS.HeadHook4
import PySem.Challenge.RW_framesure_k03_things_recognized
set_option Elab.async false
set_option linter.all false
set_option maxRecDepth 100000
set_option maxHeartbeats 8000000
namespace Fs
open PySem PySem.Spec PyProof.Rows L2
abbrev Frag := PySem.W.Frag
/-! ### heaps -/
theorem same_new {H : Hp} {p : Addr} (h : H p = none) (o : HO) : Same H (upd H p o) := fun b u q => by
  rw [upd_ne (ne_of_none q h)]
  exact q
theorem Same.tup {K : Frag} {H H' : Hp} {a : Addr} {xs : List V} (e : Same H H') (h : SqT K H a xs) : SqT K H' a xs := by
  rcases h with (h | ⟨o, h⟩) | h
  · exact .inl (.inl (e _ _ h))
  · exact .inl (.inr ⟨o, e _ _ h⟩)
  · exact .inr h
/-- readings that ask more -/
theorem pe_of {X : Cx} {e : Expr} {t t' : TE} (h : PE X e t) (k : ∀ σ H Q, t' σ H Q → t σ H Q) : PE X e t' := ⟨fun pins s σ H Q I q => h.run pins s σ H Q I (k σ H Q q)⟩
/-- a list of readings, made to grow with what is wanted -/
def upA (t : TA) : TA := fun σ H K => ∃ K0 : List V → Hp → Prop, t σ H K0 ∧ ∀ vs H1, K0 vs H1 → K vs H1
theorem pa_up {X : Cx} {es : List Expr} {t : TA} (h : PA X es t) : PA X es (upA t) := ⟨fun pos pins s σ H Q I ⟨K0, q, k⟩ => thn (h.run pos pins s σ H K0 I q) fun us s1 ⟨vs, H1, I1, r, z⟩ => ⟨vs, H1, I1, r, k _ _ z⟩⟩
/-- a new list, the heap behind it a letter -/
def tLstN (t : TA) : TE := fun σ H Q => t σ H fun xs H1 => xs.length ≤ sizeLine ∧ ∀ p H', H1 p = none → Same H1 H' → H' p = some (.lst xs) → Q (.ref p) H'
theorem pe_lstN {X : Cx} {es : List Expr} {t : TA} {pos : Pos} (h : PA X es t) : PE X (.List es pos) (tLstN t) :=
  pe_of (pe_lst (pa_up h)) fun σ H Q q => ⟨_, q, fun xs H1 z => ⟨z.1, fun p np => z.2 p _ np (same_new np _) upd_same⟩⟩
/-- a new tuple -/
def tTupN (t : TA) : TE := fun σ H Q => t σ H fun xs H1 => xs.length ≤ sizeLine ∧ ∀ p H', H1 p = none → Same H1 H' → H' p = some (.tup xs) → Q (.ref p) H'
theorem pe_tupN {X : Cx} {es : List Expr} {t : TA} {x1 : Nat} {pos : Pos} (h : PA X es t) : PE X (.Tuple es x1 pos) (tTupN t) :=
  pe_of (pe_tup (pa_up h)) fun σ H Q q => ⟨_, q, fun xs H1 z => ⟨z.1, fun p np => z.2 p _ np (same_new np _) upd_same⟩⟩
/-- what holds between a statement and the rest -/
theorem seq_cut {t u : TS} {D : Ends} {σ : L2.St} {H : Hp} (M : L2.St → Hp → Prop) (ht : ∀ N : L2.St → Hp → Prop, (∀ σ' H', M σ' H' → N σ' H') → t { D with nx := N } σ H) (hu : ∀ σ' H', M σ' H' → u D σ' H') : tSeq t u D σ H := ht (u D) hu
theorem atI_i {α : Type} {xs : List α} {i : Int} (h0 : 0 ≤ i) (h : i.toNat < xs.length) : atI xs i = some xs[i.toNat] := by
  have q := atI_nat (xs := xs) (j := i.toNat) (List.getElem?_eq_getElem h)
  rw [Int.toNat_of_nonneg h0] at q
  exact q
/-! ### a global def -/
/-- the def x of the module's top, as it stands, with no defaults -/
structure Gd (P : Program) (w : World) (K : Frag) (mg : Str → Option Value) (base : Heap) (CX : CXT) (k : Nat) (x : Str) (ps : List Str) (sp : Sp) : Prop where
  ex : ∃ f fd, mg x = some (.ref f) ∧ PySem.W.keepIn K (.ref f) = true ∧ Binds K fd ps [] ∧ FnOk P w K mg base CX k f fd ps sp
theorem Gd.mono {P : Program} {w : World} {K : Frag} {mg : Str → Option Value} {base : Heap} {CX : CXT} {j k : Nat} {x : Str} {ps : List Str} {sp : Sp} (G : Gd P w K mg base CX j x ps sp) (h : j ≤ k) : Gd P w K mg base CX k x ps sp := by
  obtain ⟨f, fd, a, b, c, F⟩ := G.ex
  exact ⟨f, fd, a, b, c, F.mono h⟩
theorem Gd.imp {P : Program} {w : World} {K : Frag} {mg : Str → Option Value} {base : Heap} {CX : CXT} {k : Nat} {x : Str} {ps : List Str} {sp sp' : Sp} (G : Gd P w K mg base CX k x ps sp) (h : ∀ vs H Q E, sp' vs H Q E → sp vs H Q E) : Gd P w K mg base CX k x ps sp' := by
  obtain ⟨f, fd, a, b, c, F⟩ := G.ex
  exact ⟨f, fd, a, b, c, F.imp h⟩
/-- the call of such a def -/
theorem pe_g {X : Cx} {CX : CXT} {E : XK} {k : Nat} {x : Str} {ps : List Str} {sp : Sp} {e : Expr} {es : List Expr} {p pos : Pos} {t : TA} (G : Gd X.prog X.w X.K X.mg X.base CX k x ps sp) (hr : Room k X.A) (hx : Passes CX X E) (ha : PA X (e :: es) t)
    (hg : Gl X x := by rfl) (hdb : (x == ("__debug__" : Str)) = false := by decide) (he : starEach (e :: es) X.env = (false, eval e X.env) :: starEach es X.env := by rfl) (hpl : (backTo pos (starEach es X.env)).any (·.1) = false := by rfl) :
    PE X (.Call (.Name x p) (e :: es) [] pos) (tCall sp [] E t) := by
  obtain ⟨f, fd, a, b, c, F⟩ := G.ex
  exact pe_call F hr hg a b c .nil hx ha hdb he hpl
/-- a def of the top keeps its promise wherever it stands: no defaults (dfl, kwd: those it has) -/
def Fo (P : Program) (w : World) (K : Frag) (mg : Str → Option Value) (base : Heap) (CX : CXT) (k : Nat) (x : Str) (st : Stmt) (dfl : List V) (kwd : List (Str × V)) (ps : List Str) (sp : Sp) : Prop :=
  ∀ f fd, FunD K x x (defArgs st) (defBody st) (defScope st) dfl kwd f fd → FnOk P w K mg base CX k f fd ps sp
/-- what stands of a def at the top -/
def Gsd (K : Frag) (mg : Str → Option Value) (x : Str) (st : Stmt) (dfl : List V) (kwd : List (Str × V)) : Prop := ∃ f fd, mg x = some (.ref f) ∧ FunD K x x (defArgs st) (defBody st) (defScope st) dfl kwd f fd
abbrev Gs (K : Frag) (mg : Str → Option Value) (x : Str) (st : Stmt) : Prop := Gsd K mg x st [] []
section
variable {P : Program} {w : World} {K : Frag} {mg : Str → Option Value} {base : Heap} {CX : CXT} {x : Str} {st : Stmt} {dfl : List V} {kwd : List (Str × V)} {N ps : List Str} {k : Nat} {sp : Sp}
theorem fo_ok (S : FnScope N ps (defScope st)) (len : ∀ vs H Q E, sp vs H Q E → vs.length = ps.length)
    (hbody : ∀ (f : Addr) (cdv : Value) (A : Around) (outer : List Env) (s : Shared) (H : Hp) (vs : List V) (Q : VK) (E : XK), Room k (A.deeper (envOfC x (defScope st) s.heap.objs.size f cdv)) → sp vs H Q E →
      ∃ t, PSs (cxOf CX0 P w K mg base N x (defScope st) f cdv A outer s H E).nox (defBody st) t ∧ t { nx := fun _ H' => Q .non H', rt := Q } (start N vs) H) : Fo P w K mg base CX0 (k + 1) x st dfl kwd ps sp := fun f fd F => by
  refine F.ok S len fun cdv A outer s H vs Q E hr h => ?_
  obtain ⟨t, h1, h2⟩ := hbody f cdv A outer s H vs Q E hr h
  exact ⟨t, h1.nox, h2⟩
/-- the same of a def that may raise -/
theorem fo_okX (S : FnScope N ps (defScope st)) (len : ∀ vs H Q E, sp vs H Q E → vs.length = ps.length)
    (hbody : ∀ (f : Addr) (cdv : Value) (A : Around) (outer : List Env) (s : Shared) (H : Hp) (vs : List V) (Q : VK) (E : XK), Room k (A.deeper (envOfC x (defScope st) s.heap.objs.size f cdv)) → sp vs H Q E →
      ∃ t, PSs (cxOf (L2.CX P w) P w K mg base N x (defScope st) f cdv A outer s H E) (defBody st) t ∧ t { nx := fun _ H' => Q .non H', rt := Q } (start N vs) H) : Fo P w K mg base (L2.CX P w) (k + 1) x st dfl kwd ps sp := fun f fd F =>
  F.ok S len (hbody f)
/-- called by position, all parameters given -/
theorem Fo.gd (F : Fo P w K mg base CX k x st [] [] ps sp) (G : Gs K mg x st)
    (hb : ∀ (kV doc pm : Value) (an : Option Addr) (cdv ct : Value) (us : List Value), us.length = ps.length → bindArgs (PySem.W.fnOf x x (defArgs st) (defBody st) (defScope st) .none kV doc pm an cdv ct) ⟨us, []⟩ = pure (ps.zip us)) : Gd P w K mg base CX k x ps sp := by
  obtain ⟨f, fd, a, D⟩ := G
  exact ⟨f, fd, a, D.kp, D.bindsN hb, F f fd D⟩
theorem Gsd.ok (G : Gs K mg x st) (S : FnScope N ps (defScope st)) (len : ∀ vs H Q E, sp vs H Q E → vs.length = ps.length)
    (hb : ∀ (kV doc pm : Value) (an : Option Addr) (cdv ct : Value) (us : List Value), us.length = ps.length → bindArgs (PySem.W.fnOf x x (defArgs st) (defBody st) (defScope st) .none kV doc pm an cdv ct) ⟨us, []⟩ = pure (ps.zip us))
    (hbody : ∀ (f : Addr) (cdv : Value) (A : Around) (outer : List Env) (s : Shared) (H : Hp) (vs : List V) (Q : VK) (E : XK), Room k (A.deeper (envOfC x (defScope st) s.heap.objs.size f cdv)) → sp vs H Q E →
      ∃ t, PSs (cxOf CX0 P w K mg base N x (defScope st) f cdv A outer s H E).nox (defBody st) t ∧ t { nx := fun _ H' => Q .non H', rt := Q } (start N vs) H) : Gd P w K mg base CX0 (k + 1) x ps sp := (fo_ok S len hbody).gd G hb
theorem Gsd.okX (G : Gs K mg x st) (S : FnScope N ps (defScope st)) (len : ∀ vs H Q E, sp vs H Q E → vs.length = ps.length)
    (hb : ∀ (kV doc pm : Value) (an : Option Addr) (cdv ct : Value) (us : List Value), us.length = ps.length → bindArgs (PySem.W.fnOf x x (defArgs st) (defBody st) (defScope st) .none kV doc pm an cdv ct) ⟨us, []⟩ = pure (ps.zip us))
    (hbody : ∀ (f : Addr) (cdv : Value) (A : Around) (outer : List Env) (s : Shared) (H : Hp) (vs : List V) (Q : VK) (E : XK), Room k (A.deeper (envOfC x (defScope st) s.heap.objs.size f cdv)) → sp vs H Q E →
      ∃ t, PSs (cxOf (L2.CX P w) P w K mg base N x (defScope st) f cdv A outer s H E) (defBody st) t ∧ t { nx := fun _ H' => Q .non H', rt := Q } (start N vs) H) : Gd P w K mg base (L2.CX P w) (k + 1) x ps sp := (fo_okX S len hbody).gd G hb
end
/-- a def called with n values by position and the keywords ks -/
structure Gk (P : Program) (w : World) (K : Frag) (mg : Str → Option Value) (base : Heap) (CX : CXT) (k : Nat) (x : Str) (n : Nat) (ks : List Str) (gV : List V → List V → List V) (ps : List Str) (sp : Sp) : Prop where
  ex : ∃ f fd g, mg x = some (.ref f) ∧ PySem.W.keepIn K (.ref f) = true ∧ KBn K fd ps n ks g gV ∧ FnOk P w K mg base CX k f fd ps sp
section
variable {P : Program} {w : World} {K : Frag} {mg : Str → Option Value} {base : Heap} {CX : CXT} {x : Str} {st : Stmt} {dfl : List V} {kwd : List (Str × V)} {N ps : List Str} {k : Nat} {sp : Sp}
theorem Gk.mono {n : Nat} {ks : List Str} {gV : List V → List V → List V} {j : Nat} (G : Gk P w K mg base CX j x n ks gV ps sp) (h : j ≤ k) : Gk P w K mg base CX k x n ks gV ps sp := by
  obtain ⟨f, fd, g, a, b, c, F⟩ := G.ex
  exact ⟨f, fd, g, a, b, c, F.mono h⟩
/-- no defaults: every parameter is written, by position or by name -/
theorem Fo.gk (F : Fo P w K mg base CX k x st [] [] ps sp) (G : Gs K mg x st) (n : Nat) (ks : List Str) (g : {α : Type} → List α → List α → List α)
    (hrel : ∀ {vs zs : List V} {us ws : List Value}, Vals vs us → Vals zs ws → Vals (g vs zs) (g us ws))
    (hb : ∀ (kV doc pm : Value) (an : Option Addr) (cdv ct : Value) (us ws : List Value), us.length = n → ws.length = ks.length → bindArgs (PySem.W.fnOf x x (defArgs st) (defBody st) (defScope st) .none kV doc pm an cdv ct) ⟨us, ks.zip ws⟩ = pure (ps.zip (g us ws))) :
    Gk P w K mg base CX k x n ks (fun vs zs => g vs zs) ps sp := by
  obtain ⟨f, fd, a, D⟩ := G
  refine ⟨f, fd, fun us ws => g us ws, a, D.kp, ?_, F f fd D⟩
  obtain ⟨oc, od, dV, kV, doc, pm, an, cdv, ct, osl, rfl, lk, hcd, hD, hK⟩ := D.ex
  rcases hD with ⟨_, rfl⟩ | ⟨e, _⟩
  · exact ⟨fun s us ws _ l1 l2 => BindsTo.of_eq (hb kV doc pm an cdv ct us ws l1 l2), fun r1 r2 => hrel r1 r2⟩
  · exact absurd rfl e
end
section
variable {X : Cx} {CX : CXT} {E : XK} {k n : Nat} {x : Str} {ps ks : List Str} {sp : Sp} {e : Expr} {es : List Expr} {kws : List Keyword} {p pos : Pos} {t tk : TA} {gV : List V → List V → List V}
theorem pe_gk (G : Gk X.prog X.w X.K X.mg X.base CX k x n ks gV ps sp) (hr : Room k X.A) (hx : Passes CX X E) (ha : PA X (e :: es) t) (hkw : PK X kws tk) (hg : Gl X x := by rfl)
    (hall : (backToKw pos (keywordEach kws X.env)).all (·.1.isSome) = true := by rfl) (hks : (backToKw pos (keywordEach kws X.env)).filterMap (·.1) = ks := by rfl)
    (hdb : (x == ("__debug__" : Str)) = false := by decide) (he : starEach (e :: es) X.env = (false, eval e X.env) :: starEach es X.env := by rfl)
    (hpl : ((backTo pos (starEach (e :: es) X.env)).any (·.1) || (backToKw pos (keywordEach kws X.env)).any (·.1.isNone)) = false := by rfl) :
    PE X (.Call (.Name x p) (e :: es) kws pos) (tCallN n ks.length sp gV E t tk) := by
  obtain ⟨f, fd, g, a, b, c, F⟩ := G.ex
  exact pe_callN F hr hg a b c hx ha hkw hall hks hdb he hpl
theorem pe_gk0 (G : Gk X.prog X.w X.K X.mg X.base CX k x 0 ks gV ps sp) (hr : Room k X.A) (hx : Passes CX X E) (hkw : PK X kws tk) (hg : Gl X x := by rfl)
    (hall : (backToKw pos (keywordEach kws X.env)).all (·.1.isSome) = true := by rfl) (hks : (backToKw pos (keywordEach kws X.env)).filterMap (·.1) = ks := by rfl)
    (hdb : (x == ("__debug__" : Str)) = false := by decide)
    (hpl : ((backTo pos (starEach [] X.env)).any (·.1) || (backToKw pos (keywordEach kws X.env)).any (·.1.isNone)) = false := by rfl) :
    PE X (.Call (.Name x p) [] kws pos) (tCallN 0 ks.length sp gV E tNil tk) := by
  obtain ⟨f, fd, g, a, b, c, F⟩ := G.ex
  refine ⟨fun pins s σ H Q I h => ?_⟩
  refine wpAny_Call_Name_kw (ld_glob I hg a ?_ hdb)
  refine PySem.W.callWith_KW0 (h₀ := X.base) I.ok.mod.kin b hall ?_ hpl
  refine thn (hkw.run pos pins s σ H _ I h) fun ws s2 ⟨zs, H2, I2, rz, l1, l2, q2⟩ => ⟨I2.kIn, ?_⟩
  rw [hks]
  exact run_fnN (us := []) (vs := []) F hr c hx I2 .nil rz rfl l2 q2
end
/-! ### data -/
mutual
theorem Dp.to {K : Frag} {H H' : Hp} (e : Same H H') : ∀ {v : V} {d : PyData}, Dp K H v d → Dp K H' v d
  | _, _, .non => .non
  | _, _, .bl b => .bl b
  | _, _, .int i => .int i
  | _, _, .str x => .str x
  | _, _, .lst h a => .lst (e.seq h) (DpAll.to e a)
  | _, _, .tup h a => .tup (Same.tup e h) (DpAll.to e a)
theorem DpAll.to {K : Frag} {H H' : Hp} (e : Same H H') : ∀ {vs : List V} {ds : List PyData}, DpAll K H vs ds → DpAll K H' vs ds
  | _, _, .nil => .nil
  | _, _, .cons h t => .cons (Dp.to e h) (DpAll.to e t)
end
theorem DpAll.len {K : Frag} {H : Hp} : ∀ {vs : List V} {ds : List PyData}, DpAll K H vs ds → vs.length = ds.length
  | _, _, .nil => rfl
  | _, _, .cons _ t => congrArg Nat.succ (DpAll.len t)
theorem DpAll.at {K : Frag} {H : Hp} : ∀ {vs : List V} {ds : List PyData} {i : Nat} {d : PyData}, DpAll K H vs ds → ds[i]? = some d → ∃ v, vs[i]? = some v ∧ Dp K H v d
  | _, _, _, _, .nil, e => by simp at e
  | _, _, 0, d, .cons (v := v) h _, e => ⟨v, rfl, by simp at e; subst e; exact h⟩
  | _, _, i + 1, d, .cons _ t, e => by
    obtain ⟨v, h1, h2⟩ := DpAll.at (i := i) (d := d) t (by simpa using e)
    exact ⟨v, by simpa using h1, h2⟩
/-! ### a heap without its bag -/
def Hx (p : Addr) (H : Hp) : Hp := fun b => if b = p then none else H b
theorem Hx.sub {p : Addr} {H : Hp} : Same (Hx p H) H := fun b o e => by
  unfold Hx at e
  split at e
  · cases e
  · exact e
theorem Hx.ne {p b : Addr} {H : Hp} (h : b ≠ p) : Hx p H b = H b := by
  unfold Hx
  rw [if_neg h]
theorem Hx.self {p : Addr} {H : Hp} : Hx p H p = none := by
  unfold Hx
  rw [if_pos rfl]
/-- all but p is as it was -/
abbrev SameX (p : Addr) (H H' : Hp) : Prop := Same (Hx p H) (Hx p H')
theorem SameX.of {p : Addr} {H H' : Hp} (h : ∀ b o, b ≠ p → H b = some o → H' b = some o) : SameX p H H' := fun b o e => by
  by_cases hb : b = p
  · subst hb
    rw [Hx.self] at e
    cases e
  · rw [Hx.ne hb] at e ⊢
    exact h b o hb e
theorem SameX.at {p b : Addr} {H H' : Hp} {o : HO} (h : SameX p H H') (hb : b ≠ p) (e : H b = some o) : H' b = some o := by
  have q := h b o (by rw [Hx.ne hb]; exact e)
  rw [Hx.ne hb] at q
  exact q
theorem SameX.same {p : Addr} {H H' : Hp} (h : Same H H') : SameX p H H' := .of fun b o _ e => h b o e
/-- the bag of the draws -/
structure BagAt (H : Hp) (p l : Addr) : Prop where
  ex : ∃ (i rest seed : Int) (ns : List Int), H p = some (.lst [.ref l, .int i, .int rest, .int seed]) ∧ H l = some (.lst (ns.map V.int)) ∧ 0 ≤ i ∧ 0 ≤ rest ∧ 0 ≤ seed ∧ seed < 2147483647
theorem BagAt.to {H H' : Hp} {p l : Addr} (B : BagAt H p l) (h : Same H H') : BagAt H' p l := by
  obtain ⟨i, r, s, ns, a, b, c⟩ := B.ex
  exact ⟨i, r, s, ns, h _ _ a, h _ _ b, c⟩
def spBag (K : Frag) : Sp := fun vs H Q _ => ∃ (a : Addr) (ns : List Int), vs = [.ref a] ∧ SqL K H a (ns.map V.int) ∧ ∀ p l H', H p = none → Same H H' → BagAt H' p l → Q (.ref p) H'
def spPull : Sp := fun vs H Q _ => ∃ (p l : Addr) (n : Int), vs = [.ref p, .int n] ∧ BagAt H p l ∧ 0 < n ∧ n < 2 ^ 100 ∧ ∀ (r : Int) H', 0 ≤ r → r < n → SameX p H H' → BagAt H' p l → Q (.int r) H'
/-- a list or a tuple -/
def SqA (K : Frag) (H : Hp) (a : Addr) (xs : List V) : Prop := SqL K H a xs ∨ SqT K H a xs
theorem SqA.to {K : Frag} {H H' : Hp} {a : Addr} {xs : List V} (e : Same H H') (h : SqA K H a xs) : SqA K H' a xs := h.elim (fun h => .inl (e.seq h)) fun h => .inr (Same.tup e h)
def spOf (K : Frag) : Sp := fun vs H Q _ => ∃ (p l a : Addr) (xs : List V), vs = [.ref p, .ref a] ∧ BagAt H p l ∧ SqA K (Hx p H) a xs ∧ xs ≠ [] ∧ (xs.length : Int) < 2 ^ 100 ∧ ∀ x ∈ xs, ∀ H', SameX p H H' → BagAt H' p l → Q x H'
end Fs
set_option Elab.async false
set_option linter.all false
set_option maxRecDepth 100000
set_option maxHeartbeats 8000000
namespace Fs
open PySem PySem.Spec PyProof.Rows L2
/-! ### types of data -/
inductive Tg | list | tuple | dict | bool | int | str
def Tg.nm : Tg → String
  | .list => "list" | .tuple => "tuple" | .dict => "dict" | .bool => "bool" | .int => "int" | .str => "str"
def tyD : PyData → String
  | .none => "NoneType" | .bool _ => "bool" | .int _ => "int" | .str _ => "str" | .list _ => "list" | .tuple _ => "tuple" | .dict _ => "dict"
def isT : Tg → PyData → Bool
  | .list, .list _ => true
  | .tuple, .tuple _ => true
  | .dict, .dict _ => true
  | .bool, .bool _ => true
  | .int, .bool _ => true
  | .int, .int _ => true
  | .str, .str _ => true
  | _, _ => false
theorem isT_kit (t : Tg) (d : PyData) : kitB (tyD d) t.nm = some (isT t d) := by
  cases t <;> cases d <;> simp only [tyD, Tg.nm, isT] <;> decide +kernel
theorem SqL.ty {K : Frag} {H : Hp} {a : Addr} {xs : List V} (h : SqL K H a xs) : TyX K H (.ref a) (.type "list") := by
  rcases h with (h | ⟨o, h⟩) | ⟨o, its, n, h1, h2, _⟩
  · exact .base (.lst h)
  · exact .base (.frz h)
  · exact .kList h1 h2
theorem SqT.ty {K : Frag} {H : Hp} {a : Addr} {xs : List V} (h : SqT K H a xs) : TyX K H (.ref a) (.type "tuple") := by
  rcases h with (h | ⟨o, h⟩) | ⟨o, its, n, h1, h2, _⟩
  · exact .base (.tup h)
  · exact .fTuple h
  · exact .kTuple h1 h2
theorem Dp.ty {K : Frag} {H : Hp} {v : V} {d : PyData} (h : Dp K H v d) : TyX K H v (.type (tyD d)) := by
  cases h with
  | non => exact .base .non
  | bl b => exact .base (.bl b)
  | int i => exact .base (.int i)
  | str x => exact .base (.str x)
  | lst h _ => exact SqL.ty h
  | tup h _ => exact SqT.ty h
section
variable {X : Cx}
/-- isinstance(x, T) of data -/
def rIsD (K : Frag) : List V → Hp → VK → Prop := fun xs H Q => ∃ (x : V) (t : Tg) (d : PyData), xs = [x, .ty t.nm] ∧ Dp K H x d ∧ Q (.bl (isT t d)) H
theorem call_isD : CallR X (.builtin "isinstance") (rIsD X.K) := by
  intro pins s σ H xs us Q I r h
  obtain ⟨x, t, d, rfl, hd, q⟩ := h
  exact call_isi pins s σ H _ us Q I r ⟨x, _, _, _, _, rfl, .ty _, Dp.ty hd, kit_ty (isT_kit t d), q⟩
/-- isinstance(x, (S, T)) -/
def rIsD2 (K : Frag) : List V → Hp → VK → Prop := fun xs H Q => ∃ (x : V) (p : Addr) (t u : Tg) (d : PyData), xs = [x, .ref p] ∧ H p = some (.tup [.ty t.nm, .ty u.nm]) ∧ Dp K H x d ∧ Q (.bl (isT t d || isT u d)) H
theorem call_isD2 : CallR X (.builtin "isinstance") (rIsD2 X.K) := by
  intro pins s σ H xs us Q I r h
  obtain ⟨x, p, t, u, d, rfl, hp, hd, q⟩ := h
  refine call_isiT pins s σ H _ us Q I r ⟨x, p, _, _, [.type t.nm, .type u.nm], isT t d || isT u d, rfl, hp, .cons (.ty _) (.cons (.ty _) .nil), Dp.ty hd, ?_, q⟩
  refine kitAny_cons (kit_ty (isT_kit t d)) (fun e => ?_) (fun e => by rw [e]; rfl)
  rw [e, Bool.false_or]
  refine kitAny_cons (kit_ty (isT_kit u d)) (fun e => ?_) (fun e => e)
  rw [e]
  rfl
/-- an item of a list or a tuple -/
def rIxA (K : Frag) : R2 := fun x y H Q => ∃ (a : Addr) (xs : List V) (i : Int) (v : V), x = .ref a ∧ y = .int i ∧ SqA K H a xs ∧ atI xs i = some v ∧ Q v H
theorem ix_any : IxR X (rIxA X.K) := by
  intro value slice pins s σ H x y v u Q I rx ry h
  obtain ⟨a, xs, i, z, rfl, rfl, hs, e, q⟩ := h
  rcases hs with hs | hs
  · exact ix_list value slice pins s σ H _ _ v u Q I rx ry ⟨a, xs, i, z, rfl, rfl, hs, e, q⟩
  · exact ix_tup value slice pins s σ H _ _ v u Q I rx ry ⟨a, xs, i, z, rfl, rfl, hs, e, q⟩
end
theorem ix_anyK {X : Cx} (K : Frag) (hK : X.K = K := by rfl) : IxR X (rIxA K) := by
  subst hK
  exact ix_any
theorem call_isDK {X : Cx} (K : Frag) (hK : X.K = K := by rfl) : CallR X (.builtin "isinstance") (rIsD K) := by
  subst hK
  exact call_isD
/-! ### what a datum is made of -/
/-- the items of a list or a tuple -/
def itemsD : PyData → List PyData
  | .list ds => ds
  | .tuple ds => ds
  | _ => []
theorem depth_at : ∀ {ds : List PyData} {i : Nat} {d : PyData}, ds[i]? = some d → d.depth ≤ PyData.depthAll ds
  | [], _, _, h => by simp at h
  | x :: xs, 0, d, h => by
    simp at h
    subst h
    show x.depth ≤ max x.depth (PyData.depthAll xs)
    omega
  | x :: xs, i + 1, d, h => by
    have ih := depth_at (ds := xs) (i := i) (d := d) (by simpa using h)
    show d.depth ≤ max x.depth (PyData.depthAll xs)
    omega
theorem replicate_more {α : Type} (i : Nat) (x : α) : List.replicate i x ++ [x] = List.replicate (i + 1) x := by
  rw [List.replicate_succ', ]
/-- a list that grows at D, new beside H -/
theorem same_grow {H H' : Hp} {D : Addr} {o : HO} (s : Same H H') (nD : H D = none) : Same H (upd H' D o) := fun c u e => by
  rw [upd_ne (ne_of_none e nD)]
  exact s c u e
theorem all_true (n : Nat) : (List.replicate n true).all id = true := by
  induction n with
  | zero => rfl
  | succ n ih => rw [List.replicate_succ, List.all_cons, ih]; rfl
/-- not deeper than n levels, nowhere wider than a million -/
def Fit : Nat → PyData → Prop
  | 0, _ => False
  | n + 1, d => (itemsD d).length ≤ 1000000 ∧ ∀ e ∈ itemsD d, Fit n e
theorem Fit.mono : ∀ {n m : Nat} {d : PyData}, Fit n d → n ≤ m → Fit m d
  | 0, _, _, h, _ => h.elim
  | n + 1, 0, _, _, h => by omega
  | n + 1, m + 1, d, h, l => ⟨h.1, fun e he => Fit.mono (h.2 e he) (by omega)⟩
/-- both stand for the same datum -/
def spSame (K : Frag) (n : Nat) : Sp := fun vs H Q _ => ∃ (x y : V) (d : PyData), vs = [x, y] ∧ Dp K H x d ∧ Dp K H y d ∧ Fit n d ∧ ∀ H', Same H H' → Q (.bl true) H'
/-- a sequence's items -/
theorem Dp.seq {K : Frag} {H : Hp} {v : V} {d : PyData} (h : Dp K H v d) (e : (isT .list d || isT .tuple d) = true) : ∃ a xs, v = .ref a ∧ SqA K H a xs ∧ DpAll K H xs (itemsD d) := by
  cases h with
  | lst hs ha => exact ⟨_, _, rfl, .inl hs, ha⟩
  | tup hs ha => exact ⟨_, _, rfl, .inr hs, ha⟩
  | non => cases e
  | bl b => cases e
  | int i => cases e
  | str x => cases e
theorem tYes_of {A B : Hp → Prop} {σ : L2.St} {H : Hp} (h : A H) : tYes σ H fun b H3 => if b = true then A H3 else B H3 := h
theorem ite_of {c : Bool} {A B : Prop} (e : c = true) (h : A) : if c = true then A else B := by
  rw [if_pos e]
  exact h
theorem ite_no {c : Bool} {A B : Prop} (e : c = false) (h : B) : if c = true then A else B := by
  rw [e]
  exact iteF h
/-- a comprehension without tests whose element computes f i and leaves what stood -/
theorem lc_pure {J : It} {n : Nat} {G : Hp → Prop} {Y : Nat → Hp → V → Hp → Prop} (w : Walk J n G Y) {g : TG} {te : TE} {vs : List Nat} {σ : L2.St} {H1 : Hp} {D : Addr} {Qd : Hp → Prop} (f : Nat → V) (nD : H1 D = none) (hn : n ≤ 1000000) (hG : ∀ H, Same H1 H → G H)
    (hY : ∀ i H x H', i < n → Y i H x H' → Same H H')
    (hs : ∀ i x H H' (Kt : V → Hp → Prop), i < n → Same H1 H → Y i H x H' → (∀ H4, Same H' H4 → Kt (f i) H4) → g x (wipe σ vs) H' fun σ2 H2 => wipe σ2 vs = wipe σ vs ∧ te σ2 H2 Kt)
    (hg : ∀ x σ H (A B : L2.St → Hp → Prop), (∀ σ H, A σ H → B σ H) → g x σ H A → g x σ H B)
    (hd : ∀ H, Same H1 H → H D = some (.lst ((List.range n).map f)) → Qd H) :
    ∃ W : Nat → Nat → Hp → Prop, (∃ m, W 0 m (upd H1 D (.lst []))) ∧ ∀ i m H, W i m H →
      (J.stop i H ∧ Qd H) ∨ (J.go i H ∧ ∃ Nx : Hp → Prop, (∀ H', Nx H' → ∃ m', m' < m ∧ W (i + 1) m' H') ∧ ∀ x H', J.yld i H x H' → g x (wipe σ vs) H' fun σ2 H2 => wipe σ2 vs = wipe σ vs ∧ tYes σ2 H2 fun b H3 =>
        if b = true then te σ2 H3 fun y H4 => ∃ acc, H4 D = some (.lst acc) ∧ acc.length < sizeLine ∧ Nx (upd H4 D (.lst (acc ++ [y]))) else Nx H3) := by
  refine lc_it w (fun i H => Same H1 H ∧ H D = some (.lst ((List.range i).map f))) ⟨same_new nD _, upd_same⟩ (fun i H _ ⟨s, _⟩ => hG H s) (fun i x H H' hi ⟨s, hD⟩ y => ?_) (fun H ⟨s, hD⟩ => hd H s hD)
  have z := hs i x H H' (fun y H4 => ∃ acc, H4 D = some (.lst acc) ∧ acc.length < sizeLine ∧ Same H1 (upd H4 D (.lst (acc ++ [y]))) ∧ (upd H4 D (.lst (acc ++ [y]))) D = some (.lst ((List.range (i + 1)).map f))) hi s y (fun H4 s4 => ?_)
  · refine hg _ _ _ _ _ (fun σ2 H2 h => ?_) z
    exact ⟨h.1, tYes_of h.2⟩
  · refine ⟨_, s4 _ _ (hY i H x H' hi y _ _ hD), ?_, same_grow (s.trans ((hY i H x H' hi y).trans s4)) nD, ?_⟩
    · rw [List.length_map, List.length_range, sizeLine_eq]
      omega
    · rw [upd_same, List.range_succ, List.map_append]
      rfl
/-- targets that let more through -/
theorem gName_mono (i : Nat) : ∀ x σ H (A B : L2.St → Hp → Prop), (∀ σ H, A σ H → B σ H) → gName i x σ H A → gName i x σ H B := fun _ _ _ _ _ k h => k _ _ h
theorem YAt_same {xs : List V} {n : Nat} : ∀ i H x H', i < n → YAt xs i H x H' → Same H H' := fun _ _ _ _ _ h => by
  rw [h.1]
  exact Same.refl _
theorem YFn_same {f : Nat → V} {n : Nat} : ∀ i H x H', i < n → YFn f i H x H' → Same H H' := fun _ _ _ _ _ h => by
  rw [h.1]
  exact Same.refl _
theorem bls {n : Nat} {f : Nat → Bool} : ((List.range n).map f).map V.bl = (List.range n).map fun i => V.bl (f i) := by
  rw [List.map_map]
  rfl
/-! ### what never changes: tuples -/
def Imm (H H' : Hp) : Prop := ∀ b xs, Rd H b (.tup xs) → Rd H' b (.tup xs)
theorem Imm.refl (H : Hp) : Imm H H := fun _ _ h => h
theorem Imm.trans {H H1 H2 : Hp} (a : Imm H H1) (b : Imm H1 H2) : Imm H H2 := fun c o h => b c o (a c o h)
theorem Imm.same {H H' : Hp} (s : Same H H') : Imm H H' := fun b xs h => by
  rcases h with h | ⟨o, h⟩
  · exact .inl (s _ _ h)
  · exact .inr ⟨o, s _ _ h⟩
theorem Imm.upd {H : Hp} {D : Addr} {acc : List V} {o : HO} (h : H D = some (.lst acc)) : Imm H (L2.upd H D o) := fun b xs e => by
  have ne : b ≠ D := fun z => by
    subst z
    rcases e with e | ⟨o, e⟩ <;> rw [h] at e <;> cases e
  unfold L2.Rd at e ⊢
  rw [upd_ne ne]
  exact e
theorem Imm.bag {p l : Addr} {H H' : Hp} (s : SameX p H H') (B : BagAt H p l) : Imm H H' := fun b xs e => by
  obtain ⟨i, r, sd, ns, hp, _⟩ := B.ex
  have ne : b ≠ p := fun z => by
    subst z
    rcases e with e | ⟨o, e⟩ <;> rw [hp] at e <;> cases e
  rcases e with e | ⟨o, e⟩
  · exact .inl (s.at ne e)
  · exact .inr ⟨o, s.at ne e⟩
mutual
/-- no list within -/
def noL : PyData → Bool
  | .list _ => false
  | .tuple ds => noLs ds
  | .dict _ => false
  | _ => true
def noLs : List PyData → Bool
  | [] => true
  | d :: ds => noL d && noLs ds
end
theorem Imm.tup {K : Frag} {H H' : Hp} {a : Addr} {xs : List V} (e : Imm H H') (h : SqT K H a xs) : SqT K H' a xs := by
  rcases h with h | h
  · exact .inl (e _ _ h)
  · exact .inr h
mutual
theorem Dp.imm {K : Frag} {H H' : Hp} (e : Imm H H') : ∀ {v : V} {d : PyData}, noL d = true → Dp K H v d → Dp K H' v d
  | _, _, _, .non => .non
  | _, _, _, .bl b => .bl b
  | _, _, _, .int i => .int i
  | _, _, _, .str x => .str x
  | _, _, n, .lst h a => by cases n
  | _, _, n, .tup h a => .tup (Imm.tup e h) (DpAll.imm e n a)
theorem DpAll.imm {K : Frag} {H H' : Hp} (e : Imm H H') : ∀ {vs : List V} {ds : List PyData}, noLs ds = true → DpAll K H vs ds → DpAll K H' vs ds
  | _, _, _, .nil => .nil
  | _, _, n, .cons h t => by
    have n' := Bool.and_eq_true_iff.mp n
    exact .cons (Dp.imm e n'.1 h) (DpAll.imm e n'.2 t)
end
theorem BagAt.ne {H : Hp} {p l D : Addr} (B : BagAt H p l) (h : H D = none) : D ≠ p := fun z => by
  obtain ⟨i, r, sd, ns, hp, _⟩ := B.ex
  rw [z, hp] at h
  cases h
theorem BagAt.neL {H : Hp} {p l D : Addr} (B : BagAt H p l) (h : H D = none) : BagAt (upd H D (.lst [])) p l := B.to (same_new h _)
/-- a comprehension without tests that draws: its element i is some v with R i v -/
theorem lc_draw {J : It} {n : Nat} {G : Hp → Prop} {Y : Nat → Hp → V → Hp → Prop} (w : Walk J n G Y) {g : TG} {te : TE} {vs : List Nat} {σ : L2.St} {H1 : Hp} {D p l : Addr} {Qd : Hp → Prop} (R : Nat → V → Hp → Prop) (B : BagAt H1 p l) (nD : H1 D = none) (hn : n ≤ 1000000)
    (hR : ∀ i v H H', Imm H H' → R i v H → R i v H') (hG : ∀ H, SameX p H1 H → G H) (hY : ∀ i H x H', i < n → Y i H x H' → Same H H')
    (hs : ∀ i x H H' (Kt : V → Hp → Prop), i < n → SameX p H1 H' → BagAt H' p l → Y i H x H' → (∀ v H4, SameX p H' H4 → BagAt H4 p l → R i v H4 → Kt v H4) → g x (wipe σ vs) H' fun σ2 H2 => wipe σ2 vs = wipe σ vs ∧ te σ2 H2 Kt)
    (hg : ∀ x σ H (A B : L2.St → Hp → Prop), (∀ σ H, A σ H → B σ H) → g x σ H A → g x σ H B)
    (hd : ∀ H ys, SameX p H1 H → BagAt H p l → H D = some (.lst ys) → ys.length = n → (∀ i v, ys[i]? = some v → R i v H) → Qd H) :
    ∃ W : Nat → Nat → Hp → Prop, (∃ m, W 0 m (upd H1 D (.lst []))) ∧ ∀ i m H, W i m H →
      (J.stop i H ∧ Qd H) ∨ (J.go i H ∧ ∃ Nx : Hp → Prop, (∀ H', Nx H' → ∃ m', m' < m ∧ W (i + 1) m' H') ∧ ∀ x H', J.yld i H x H' → g x (wipe σ vs) H' fun σ2 H2 => wipe σ2 vs = wipe σ vs ∧ tYes σ2 H2 fun b H3 =>
        if b = true then te σ2 H3 fun y H4 => ∃ acc, H4 D = some (.lst acc) ∧ acc.length < sizeLine ∧ Nx (upd H4 D (.lst (acc ++ [y]))) else Nx H3) := by
  have nDp := B.ne nD
  refine lc_it w (fun i H => SameX p H1 H ∧ BagAt H p l ∧ ∃ ys, H D = some (.lst ys) ∧ ys.length = i ∧ ∀ j v, ys[j]? = some v → R j v H) ⟨SameX.same (same_new nD _), B.neL nD, [], upd_same, rfl, fun j v e => by simp at e⟩ (fun i H _ ⟨s, _⟩ => hG H s) (fun i x H H' hi ⟨s, BH, ys, hD, hl, hr⟩ y => ?_) (fun H ⟨s, BH, ys, hD, hl, hr⟩ => hd H ys s BH hD hl hr)
  have sy := hY i H x H' hi y
  have z := hs i x H H' (fun y H4 => ∃ acc, H4 D = some (.lst acc) ∧ acc.length < sizeLine ∧ SameX p H1 (upd H4 D (.lst (acc ++ [y]))) ∧ BagAt (upd H4 D (.lst (acc ++ [y]))) p l ∧ ∃ ys, (upd H4 D (.lst (acc ++ [y]))) D = some (.lst ys) ∧ ys.length = i + 1 ∧ ∀ j v, ys[j]? = some v → R j v (upd H4 D (.lst (acc ++ [y])))) hi (s.trans (SameX.same sy)) (BH.to sy) y (fun v H4 s4 B4 r4 => ?_)
  · refine hg _ _ _ _ _ (fun σ2 H2 h => ?_) z
    exact ⟨h.1, tYes_of h.2⟩
  · have h4 : H4 D = some (.lst ys) := s4.at nDp (sy _ _ hD)
    refine ⟨ys, h4, by rw [hl, sizeLine_eq]; omega, SameX.of fun b o hb e => ?_, ?_, ys ++ [v], upd_same, by rw [List.length_append, hl]; rfl, fun j u e => ?_⟩
    · rw [upd_ne (ne_of_none e nD)]
      exact s4.at hb ((SameX.same sy).at hb (s.at hb e))
    · obtain ⟨a, b, c, ns, hp, hls, k⟩ := B4.ex
      obtain ⟨a', b', c', ns', hp', hl', _⟩ := B.ex
      refine ⟨a, b, c, ns, ?_, ?_, k⟩
      · rw [upd_ne (fun z => nDp z.symm)]
        exact hp
      · rw [upd_ne (ne_of_none hl' nD)]
        exact hls
    · have I1 : Imm H (upd H4 D (.lst (ys ++ [v]))) := (Imm.same sy).trans ((Imm.bag s4 (BH.to sy)).trans (Imm.upd h4))
      by_cases hj : j < ys.length
      · rw [List.getElem?_append_left hj] at e
        exact hR _ _ _ _ I1 (hr _ _ e)
      · have ej : j = ys.length := by
          have := (List.getElem?_eq_some_iff.mp e).1
          rw [List.length_append, List.length_singleton] at this
          omega
        subst ej
        rw [List.getElem?_append_right (Nat.le_refl _), Nat.sub_self] at e
        have e2 : v = u := Option.some.inj e
        subst e2
        rw [hl]
        exact hR _ _ _ _ (Imm.upd h4) r4
theorem at_z {K : Frag} {H : Hp} {a : Addr} {xs : List V} (h : H a = some (.lst xs)) : SqL K H a xs := .inl (.inl h)
theorem cutN (xs : List V) (n : Nat) : cutV xs none (some (n : Int)) = xs.take n := by
  unfold cutV
  rw [HT.sIx_none, HT.sIx_nat]
  show List.take (min n xs.length - 0) xs = _
  rw [Nat.sub_zero]
  by_cases h : n ≤ xs.length
  · rw [Nat.min_eq_left h]
  · rw [Nat.min_eq_right (by omega), List.take_of_length_le (Nat.le_refl _), List.take_of_length_le (by omega)]
/-- law's promise: True -/
def spLaw (K : Frag) : Sp := fun vs H Q _ => ∃ (a : Addr) (ns : List Int), vs = [.ref a] ∧ SqL K H a (ns.map V.int) ∧ ns.length ≤ 63 ∧ ∀ H', Q (.bl true) H'
abbrev dD (x : Str) (st : Stmt) : He.DefD := ⟨(x, none), x, x, defArgs st, defBody st, defScope st, [], []⟩
theorem gs_of {fa : List He.Fa} {fn : List He.DefD} {K : Frag} {h : Heap} {mg : Str → Option Value} (X : K.In h) (G : h.Ns mainGlobals mg) (c : He.SaysD fa fn K) (i j : Nat) (x : Str) (st : Stmt) (hi : fn[i]? = some (dD x st)) (hj : fa[j]? = some (.glo x)) : Gs K mg x st := by
  obtain ⟨fd, F⟩ := c.def_ i hi
  exact ⟨_, fd, He.glo_ok X G (c.fact j hj), F⟩
theorem free_of {fa : List He.Fa} {fn : List He.DefD} {K : Frag} {h : Heap} {mg : Str → Option Value} (X : K.In h) (G : h.Ns mainGlobals mg) (c : He.SaysD fa fn K) (j : Nat) (x : Str) (hj : fa[j]? = some (.free x)) : mg x = none := He.free_ok X G (c.fact j hj)
end Fs
set_option Elab.async false
set_option linter.all false
set_option maxRecDepth 100000
set_option maxHeartbeats 8000000
namespace Fs
open PySem PySem.Spec PyProof.Rows L2
def top (i : Nat) : Stmt := PySem.Challenge.pw_framesure_k03_things_recognized.main.body.getD i (.Pass ⟨0, 0, 0, 0⟩)
end Fs
set_option Elab.async false
set_option linter.all false
set_option maxRecDepth 100000
set_option maxHeartbeats 8000000
namespace Fs
open PySem PySem.Spec PyProof.Rows L2
abbrev s__law_bag : Stmt := top 4
abbrev s__law_pull : Stmt := top 5
theorem sc__law_bag : FnScope ["_law_script", "_law_salt", "_law_cell"] ["_law_script"] (defScope s__law_bag) := ⟨rfl, rfl, rfl, by decide +kernel, rfl, by decide +kernel, by decide +kernel⟩
section
variable {P : Program} {w : World} {K : Frag} {mg : Str → Option Value} {base : Heap}
theorem ok__law_bag (G : Gs K mg "_law_bag" s__law_bag) (mint : mg "int" = none) (mlist : mg "list" = none) : Gd P w K mg base CX0 1 "_law_bag" ["_law_script"] (spBag K) := by
  refine G.ok sc__law_bag (fun vs H Q E h => ?_) (fun _ _ _ _ _ _ us hl => match us, hl with | [_], _ => rfl) (fun f cdv A outer s H vs Q E hr h => ?_)
  · obtain ⟨a, ns, rfl, _⟩ := h
    rfl
  obtain ⟨a, ns, rfl, hS, q⟩ := h
  refine ⟨_, pss_cons (ps_set (i := 1) sc__law_bag.nd rfl (.inl rfl) pe_int)
    (pss_cons (ps_for PassesOwn.never rfl (pi_list (pe_slice sl_list (pv 0) po_none (po_some pe_int))) (pg_name (i := 2) sc__law_bag.nd rfl (.inl rfl))
      (pss_one (ps_set (i := 1) sc__law_bag.nd rfl (.inl rfl) (pe_op op_mod (pe_op op_add (pe_op op_add (pe_op op_mul (pv 1) pe_int) (pe_op op_mod (pe_callTy call_int1 (by rfl) mint (by decide +kernel) (pa_cons (pv 2) pa_nil)) pe_int)) pe_int) pe_int))))
    (pss_one (ps_ret (pe_lst (pa_cons (pe_callTy call_list_of (by rfl) mlist (by decide +kernel) (pa_cons (pe_slice sl_list (pv 0) po_none (po_some pe_int)) pa_nil)) (pa_cons pe_int (pa_cons pe_int (pa_cons (pv 1) pa_nil)))))))), ?_⟩
  refine ⟨_, rfl, _, rfl, a, _, rfl, hS, fun c nc => ?_⟩
  have e63 : cutV (ns.map V.int) none (some 63) = (ns.take 63).map V.int := by
    rw [show (63 : Int) = ((63 : Nat) : Int) from rfl, cutN, List.map_take]
  rw [e63]
  refine ⟨c, rfl, ⟨_, at_z upd_same⟩, for_list (K := K) (a := c) (xs := (ns.take 63).map V.int)
    (fun i σ H' => ∃ (salt : Int) (v : Option V), σ = [some (.ref a), some (.int salt), v] ∧ 0 ≤ salt ∧ salt < 2147483647 ∧ Same (upd H c (.lst ((ns.take 63).map V.int))) H')
    ⟨3841, none, rfl, by decide, by decide, Same.refl _⟩ (fun i σ H' _ ⟨_, _, _, _, _, s1⟩ => at_z (s1 _ _ upd_same)) ?_ ?_⟩
  · rintro i x σ H' hi ⟨salt, v, rfl, h0, h1, s1⟩
    obtain ⟨z, hz, rfl⟩ : ∃ z, (ns.take 63)[i]? = some z ∧ x = V.int z := by
      rw [List.getElem?_map] at hi
      cases e : (ns.take 63)[i]? with
      | none =>
        rw [e] at hi
        cases hi
      | some z =>
        rw [e] at hi
        exact ⟨z, rfl, (Option.some.inj hi).symm⟩
    refine ⟨_, rfl, _, _, rfl, rfl, .inl ⟨by omega, by omega⟩, _, rfl, .inl ⟨_, rfl, _, _, rfl, rfl, (by show (0 : Int) < _; decide), _, _, rfl, rfl, _, _, rfl, rfl, _, _, rfl, rfl, (by show (0 : Int) < _; decide), _, _, rfl, ?_, ?_, s1⟩⟩
    · omega
    · omega
  · rintro σ H' ⟨salt, v, rfl, h0, h1, s1⟩
    refine ⟨_, rfl, _, rfl, a, _, rfl, (same_new nc _ |>.trans s1).seq hS, fun d nd => ?_⟩
    refine ⟨d, _, rfl, .inl (at_z upd_same), fun l nl => ?_⟩
    refine ⟨_, rfl, (by show 4 ≤ sizeLine; decide), fun p np => ?_⟩
    have s2 : Same H' (upd (upd (upd H' d (.lst (cutV (ns.map V.int) none (some 63)))) l (.lst (cutV (ns.map V.int) none (some 63)))) p (.lst [.ref l, .int 0, .int 0, .int salt])) := (same_new nd _).trans ((same_new nl _).trans (same_new np _))
    have s3 := (same_new nc (.lst ((ns.take 63).map V.int))).trans (s1.trans s2)
    refine q p l _ ?_ s3 ⟨0, 0, salt, ns.take 63, upd_same, ?_, by decide, by decide, h0, h1⟩
    · have z := ((same_new nc _).trans (s1.trans ((same_new nd _).trans (same_new nl _)))).free np
      exact z
    · rw [← e63, upd_ne (ne_of_none upd_same np), upd_same]
theorem sc__law_pull : FnScope ["_law_bag_here", "_law_amount", "_law_cell", "_law_got", "_law_seed"] ["_law_bag_here", "_law_amount"] (defScope s__law_pull) := ⟨rfl, rfl, rfl, by decide +kernel, rfl, by decide +kernel, by decide +kernel⟩
theorem ok__law_pull (G : Gs K mg "_law_pull" s__law_pull) (mint : mg "int" = none) (mlen : mg "len" = none) : Gd P w K mg base CX0 1 "_law_pull" ["_law_bag_here", "_law_amount"] spPull := by
  refine G.ok sc__law_pull (fun vs H Q E h => ?_) (fun _ _ _ _ _ _ us hl => match us, hl with | [_, _], _ => rfl) (fun f cdv A outer s H vs Q E hr h => ?_)
  · obtain ⟨p, l, n, rfl, _⟩ := h
    rfl
  obtain ⟨p, l, n, rfl, B, n0, n1, q⟩ := h
  refine ⟨_, pss_cons (ps_if (PW.pt (pw_and (pt_cmpR op_eq (pe_ix ix_list (pv 0) pe_int (fun _ _ => rfl)) pe_int (nomark _)) (pw_and1 (pt_cmpR op_lt (pe_ix ix_list (pv 0) pe_int (fun _ _ => rfl)) (pe_callB call_len_seq (by rfl) mlen PySem.boot_len (pa_cons (pe_ix ix_list (pv 0) pe_int (fun _ _ => rfl)) pa_nil)) (nomark _)))))
      (pss_cons (ps_set (i := 2) sc__law_pull.nd rfl (.inl rfl) (pe_ix ix_list (pe_ix ix_list (pv 0) pe_int (fun _ _ => rfl)) (pe_ix ix_list (pv 0) pe_int (fun _ _ => rfl)) (fun _ _ => rfl)))
      (pss_cons (ps_asg (pe_op op_add (pe_ix ix_list (pv 0) pe_int (fun _ _ => rfl)) pe_int) (pg_sub (pv 0) pe_int set_list))
      (pss_one (ps_if (pt_cmpR op_ge (pv 2) (pe_op op_pow pe_int pe_int) (nomark _))
        (pss_one (ps_asg (pv 2) (pg_sub (pv 0) pe_int set_list)))
        (pss_one (ps_asg (pe_op op_mod (pe_op op_add (pe_op op_add (pe_op op_mul (pe_ix ix_list (pv 0) pe_int (fun _ _ => rfl)) pe_int) (pe_op op_mul (pe_op op_mod (pe_callTy call_int1 (by rfl) mint (by decide +kernel) (pa_cons (pv 2) pa_nil)) pe_int) pe_int)) pe_int) pe_int) (pg_sub (pv 0) pe_int set_list)))))))
      pss_nil)
    (pss_cons (ps_if (pt_cmpR op_gt (pe_ix ix_list (pv 0) pe_int (fun _ _ => rfl)) pe_int (nomark _))
      (pss_cons (ps_set (i := 3) sc__law_pull.nd rfl (.inl rfl) (pe_op op_mod (pe_callTy call_int1 (by rfl) mint (by decide +kernel) (pa_cons (pe_ix ix_list (pv 0) pe_int (fun _ _ => rfl)) pa_nil)) (pv 1)))
      (pss_cons (ps_asg (pe_op op_fdivW (pe_ix ix_list (pv 0) pe_int (fun _ _ => rfl)) (pv 1)) (pg_sub (pv 0) pe_int set_list))
      (pss_one (ps_ret (pv 3))))) pss_nil)
    (pss_cons (ps_set (i := 4) sc__law_pull.nd rfl (.inl rfl) (pe_ix ix_list (pv 0) pe_int (fun _ _ => rfl)))
    (pss_cons (ps_asg (pe_op op_mod (pe_op op_add (pe_op op_add (pe_op op_mul (pv 4) (pv 4)) (pe_op op_mul (pv 4) pe_int)) pe_int) pe_int) (pg_sub (pv 0) pe_int set_list))
    (pss_one (ps_ret (pe_op op_mod (pe_op op_add (pe_op op_fdiv (pe_ix ix_list (pv 0) pe_int (fun _ _ => rfl)) pe_int) (pe_op op_mul (pe_op op_mod (pe_callTy call_int1 (by rfl) mint (by decide +kernel) (pa_cons (pe_ix ix_list (pv 0) pe_int (fun _ _ => rfl)) pa_nil)) pe_int) pe_int)) (pv 1))))))), ?_⟩
  obtain ⟨i, rest, seed, ns, hp, hl, hi, hrest, hs0, hs1⟩ := B.ex
  have npl : l ≠ p := ne_of hl hp (fun z => by
    injection z with z
    have z2 := congrArg List.length z
    cases ns with
    | nil => simp at z
    | cons x r =>
      rw [List.map_cons] at z
      injection z with z _
      cases z)
  have a0 : ∀ {x y z u : V}, atI [x, y, z, u] 0 = some x := rfl
  have a1 : ∀ {x y z u : V}, atI [x, y, z, u] 1 = some y := rfl
  have a2 : ∀ {x y z u : V}, atI [x, y, z, u] 2 = some z := rfl
  have a3 : ∀ {x y z u : V}, atI [x, y, z, u] 3 = some u := rfl
  refine seq_cut (fun σ' H' => ∃ (i rest seed : Int) (v : Option V), σ' = [some (.ref p), some (.int n), v, none, none] ∧ SameX p H H' ∧ H' p = some (.lst [.ref l, .int i, .int rest, .int seed]) ∧ 0 ≤ i ∧ 0 ≤ rest ∧ 0 ≤ seed ∧ seed < 2147483647) (fun N hN => ?_) ?_
  · have done : N (start ["_law_bag_here", "_law_amount", "_law_cell", "_law_got", "_law_seed"] [V.ref p, V.int n]) H := hN _ _ ⟨i, rest, seed, none, rfl, Same.refl _, hp, hi, hrest, hs0, hs1⟩
    refine ⟨_, rfl, p, _, _, _, rfl, rfl, at_z hp, a2, rfl, _, rfl, ?_⟩
    by_cases c : V.int rest = V.int 0
    · rw [decide_eq_true c]
      refine iteT ?_
      refine ⟨_, rfl, p, _, _, _, rfl, rfl, at_z hp, a1, _, rfl, p, _, _, _, rfl, rfl, at_z hp, a0, l, _, rfl, .inl (at_z hl), _, _, rfl, rfl, _, rfl, ?_⟩
      by_cases c2 : i < ((ns.map V.int).length : Int)
      · rw [decide_eq_true c2]
        refine iteT ?_
        rw [List.length_map] at c2
        have hk : i.toNat < ns.length := by omega
        have ek : i = ((i.toNat : Nat) : Int) := by omega
        have ai : atI (ns.map V.int) i = some (.int ns[i.toNat]) := by
          have z := atI_i (xs := ns.map V.int) hi (by rw [List.length_map]; exact hk)
          rw [List.getElem_map] at z
          exact z
        -- the cell, the place
        refine ⟨_, rfl, p, _, _, _, rfl, rfl, at_z hp, a0, _, rfl, p, _, _, _, rfl, rfl, at_z hp, a1, l, _, _, _, rfl, rfl, at_z hl, ai, ?_⟩
        refine ⟨_, rfl, p, _, _, _, rfl, rfl, at_z hp, a1, _, _, rfl, rfl, _, rfl, p, _, _, _, rfl, rfl, hp, rfl, ?_⟩
        -- if cell >= 10 ** 18
        refine ⟨_, rfl, _, _, rfl, rfl, ⟨by decide, by decide, by decide⟩, _, _, rfl, rfl, _, rfl, ?_⟩
        refine ite2 (fun c3 => ?_) (fun c3 => ?_)
        · have c3' := of_decide_eq_true c3
          refine ⟨_, rfl, _, rfl, p, _, _, _, rfl, rfl, upd_same, rfl, ?_⟩
          refine hN _ _ ⟨i + 1, ns[i.toNat], seed, some (.int ns[i.toNat]), rfl, .of fun b o hb e => ?_, upd_same, by omega, ?_, hs0, hs1⟩
          · rw [upd_ne hb, upd_ne hb]
            exact e
          · exact Int.le_trans (by decide) c3'
        · refine ⟨_, rfl, p, _, _, _, rfl, rfl, at_z upd_same, a3, _, _, rfl, rfl, .inl ⟨by omega, by omega⟩, _, rfl, .inl ⟨_, rfl, _, _, rfl, rfl, (by show (0 : Int) < _; decide), _, _, rfl, rfl, .inr ⟨by decide, by decide⟩, _, _, rfl, rfl, _, _, rfl, rfl, _, _, rfl, rfl, (by show (0 : Int) < _; decide), _, rfl, p, _, _, _, rfl, rfl, upd_same, rfl, ?_⟩⟩
          refine hN _ _ ⟨i + 1, rest, _, some (.int ns[i.toNat]), rfl, .of fun b o hb e => ?_, upd_same, by omega, hrest, Int.emod_nonneg _ (by decide), Int.emod_lt_of_pos _ (by decide)⟩
          rw [upd_ne hb, upd_ne hb]
          exact e
      · rw [decide_eq_false c2]
        exact iteF done
    · rw [decide_eq_false c]
      exact iteF done
  · rintro σ' H' ⟨i, rest, seed, v, rfl, sx, hp, hi, hrest, hs0, hs1⟩
    have hl' := sx.at npl hl
    have fin : ∀ (i rest seed : Int) (H2 : Hp), (∀ b o, b ≠ p → H' b = some o → H2 b = some o) → H2 p = some (.lst [.ref l, .int i, .int rest, .int seed]) → 0 ≤ i → 0 ≤ rest → 0 ≤ seed → seed < 2147483647 → SameX p H H2 ∧ BagAt H2 p l := fun i rest seed H2 k e h0 h1 h2 h3 =>
      ⟨sx.trans (SameX.of k), ⟨i, rest, seed, ns, e, k _ _ npl hl', h0, h1, h2, h3⟩⟩
    refine ⟨_, rfl, p, _, _, _, rfl, rfl, at_z hp, a2, _, _, rfl, rfl, _, rfl, ?_⟩
    refine ite2 (fun c => ?_) (fun c => ?_)
    · refine ⟨_, rfl, p, _, _, _, rfl, rfl, at_z hp, a2, .inl ⟨_, rfl, _, rfl, _, _, rfl, rfl, n0, ?_⟩⟩
      refine ⟨_, rfl, p, _, _, _, rfl, rfl, at_z hp, a2, _, rfl, _, _, rfl, rfl, wide_div n0 (b := 100) (by omega) (by decide) (by decide), _, rfl, p, _, _, _, rfl, rfl, hp, rfl, _, rfl, ?_⟩
      obtain ⟨x1, x2⟩ := fin i (rest / n) seed (upd H' p (.lst [.ref l, .int i, .int (rest / n), .int seed])) (fun b o hb e => by rw [upd_ne hb]; exact e) upd_same hi (Int.ediv_nonneg hrest (by omega)) hs0 hs1
      exact q _ _ (Int.emod_nonneg _ (by omega)) (Int.emod_lt_of_pos _ n0) x1 x2
    · refine ⟨_, rfl, p, _, _, _, rfl, rfl, at_z hp, a3, ?_⟩
      refine ⟨_, rfl, _, rfl, _, _, rfl, rfl, .inl ⟨by omega, by omega⟩, _, rfl, _, _, rfl, rfl, .inr ⟨by decide, by decide⟩, _, _, rfl, rfl, _, _, rfl, rfl, _, _, rfl, rfl, (by show (0 : Int) < _; decide), _, rfl, p, _, _, _, rfl, rfl, hp, rfl, ?_⟩
      refine ⟨_, rfl, p, _, _, _, rfl, rfl, at_z upd_same, a3, _, _, rfl, rfl, ⟨by decide, by decide⟩, _, rfl, p, _, _, _, rfl, rfl, at_z upd_same, a3, .inl ⟨_, rfl, _, _, rfl, rfl, (by show (0 : Int) < _; decide), _, _, rfl, rfl, .inr ⟨by decide, by decide⟩, _, _, rfl, rfl, _, rfl, _, _, rfl, rfl, n0, ?_⟩⟩
      obtain ⟨x1, x2⟩ := fin i rest ((seed * seed + seed * 48271 + 1013904223) % 2147483647) (upd H' p (.lst [.ref l, .int i, .int rest, .int ((seed * seed + seed * 48271 + 1013904223) % 2147483647)])) (fun b o hb e => by rw [upd_ne hb]; exact e) upd_same hi hrest (Int.emod_nonneg _ (by decide)) (Int.emod_lt_of_pos _ (by decide))
      exact q _ _ (Int.emod_nonneg _ (by omega)) (Int.emod_lt_of_pos _ n0) x1 x2
end
end Fs
set_option Elab.async false
set_option linter.all false
set_option maxRecDepth 100000
set_option maxHeartbeats 8000000
namespace Fs
open PySem PySem.Spec PyProof.Rows L2
abbrev s__law_of : Stmt := top 6
section
variable {P : Program} {w : World} {K : Frag} {mg : Str → Option Value} {base : Heap}
theorem sc__law_of : FnScope ["_law_bag_here", "_law_things"] ["_law_bag_here", "_law_things"] (defScope s__law_of) := ⟨rfl, rfl, rfl, by decide +kernel, rfl, by decide +kernel, by decide +kernel⟩
theorem ok__law_of (G : Gs K mg "_law_of" s__law_of) (PU : Gd P w K mg base CX0 1 "_law_pull" ["_law_bag_here", "_law_amount"] spPull) (mlen : mg "len" = none) : Gd P w K mg base CX0 2 "_law_of" ["_law_bag_here", "_law_things"] (spOf K) := by
  refine G.ok sc__law_of (fun vs H Q E h => ?_) (fun _ _ _ _ _ _ us hl => match us, hl with | [_, _], _ => rfl) (fun f cdv A outer s H vs Q E hr h => ?_)
  · obtain ⟨p, l, a, xs, rfl, _⟩ := h
    rfl
  obtain ⟨p, l, a, xs, rfl, B, S, n0, nl, q⟩ := h
  refine ⟨_, pss_one (ps_ret (pe_ix (IxR.or ix_list ix_tup) (pv 1) (pe_g PU hr pass0 (pa_cons (pv 0) (pa_cons (pe_callB call_len_seq (by rfl) mlen PySem.boot_len (pa_cons (pv 1) pa_nil)) pa_nil))) (fun _ _ => rfl))), ?_⟩
  refine ⟨_, rfl, _, rfl, _, rfl, a, xs, rfl, S.to Hx.sub, p, l, xs.length, rfl, B, ?_, nl, fun r H' h0 h1 sx B' => ?_⟩
  · cases xs with
    | nil => exact absurd rfl n0
    | cons x r => show (0 : Int) < ((r.length + 1 : Nat) : Int); omega
  · have hk : r.toNat < xs.length := by omega
    have ek : r = ((r.toNat : Nat) : Int) := by omega
    have ai : atI xs r = some xs[r.toNat] := atI_i h0 hk
    rcases (S.to sx).to Hx.sub with S' | S'
    · exact .inl ⟨a, xs, r, _, rfl, rfl, S', ai, q _ (List.getElem_mem hk) _ sx B'⟩
    · exact .inr ⟨a, xs, r, _, rfl, rfl, S', ai, q _ (List.getElem_mem hk) _ sx B'⟩
end
end Fs
set_option Elab.async false
set_option linter.all false
set_option maxRecDepth 100000
set_option maxHeartbeats 8000000
namespace Fs
open PySem PySem.Spec PyProof.Rows L2
abbrev s__law_same : Stmt := top 7
theorem sc__law_same : FnScope ["_law_found", "_law_due", "_law_k", "_law_key"] ["_law_found", "_law_due"] (defScope s__law_same) := ⟨rfl, rfl, rfl, by decide +kernel, rfl, by decide +kernel, by decide +kernel⟩
section
variable {P : Program} {w : World} {K : Frag} {mg : Str → Option Value} {base : Heap}
theorem ok__law_same (G : Gs K mg "_law_same" s__law_same) (m_isinstance : mg "isinstance" = none) (m_tuple : mg "tuple" = none) (m_list : mg "list" = none) (m_all : mg "all" = none) (m_range : mg "range" = none) (m_len : mg "len" = none) (m_dict : mg "dict" = none) (m_int : mg "int" = none) (m_bool : mg "bool" = none) (m_str : mg "str" = none) :
    ∀ n : Nat, Gd P w K mg base CX0 (n + 1) "_law_same" ["_law_found", "_law_due"] (spSame K n) := by
  intro n
  induction n with
  | zero =>
    refine G.ok sc__law_same (fun vs H Q E h => ?_) (fun _ _ _ _ _ _ us hl => match us, hl with | [_, _], _ => rfl) (fun f cdv A outer s H vs Q E hr h => ?_)
    · obtain ⟨x, y, d, rfl, _⟩ := h
      rfl
    · obtain ⟨x, y, d, rfl, _, _, h, _⟩ := h
      exact h.elim
  | succ n g__law_same =>
  refine G.ok sc__law_same (fun vs H Q E h => ?_) (fun _ _ _ _ _ _ us hl => match us, hl with | [_, _], _ => rfl) (fun f cdv A outer s H vs Q E hr h => ?_)
  · obtain ⟨x, y, d, rfl, _⟩ := h
    rfl
  obtain ⟨x, y, d, rfl, hx, hy, hf, q⟩ := h
  refine ⟨_, (pss_cons (ps_if (pt_val (pe_callB call_isD2 (by rfl) m_isinstance (by decide +kernel) (pa_cons (pv 1) (pa_cons (pe_tup (pa_cons (pe_bltn (v := .ty "list") (by rfl) m_list (by decide +kernel) rfl) (pa_cons (pe_bltn (v := .ty "tuple") (by rfl) m_tuple (by decide +kernel) rfl) pa_nil))) pa_nil))))
      (pss_cons (ps_if (PW.pt (pw_or (pt_cmpR op_ne (pe_callB call_isD (by rfl) m_isinstance (by decide +kernel) (pa_cons (pv 0) (pa_cons (pe_bltn (v := .ty "list") (by rfl) m_list (by decide +kernel) rfl) pa_nil))) (pe_callB call_isD (by rfl) m_isinstance (by decide +kernel) (pa_cons (pv 1) (pa_cons (pe_bltn (v := .ty "list") (by rfl) m_list (by decide +kernel) rfl) pa_nil))) (nomark _)) (pw_or1 (pt_cmpR op_ne (pe_callB call_isD (by rfl) m_isinstance (by decide +kernel) (pa_cons (pv 0) (pa_cons (pe_bltn (v := .ty "tuple") (by rfl) m_tuple (by decide +kernel) rfl) pa_nil))) (pe_callB call_isD (by rfl) m_isinstance (by decide +kernel) (pa_cons (pv 1) (pa_cons (pe_bltn (v := .ty "tuple") (by rfl) m_tuple (by decide +kernel) rfl) pa_nil))) (nomark _)))))
        (pss_one (ps_ret pe_bl))
        pss_nil)
      (pss_one (ps_ret (pe_and (pe_cmpR op_eq (pe_callB call_len_seq (by rfl) m_len PySem.boot_len (pa_cons (pv 0) pa_nil)) (pe_callB call_len_seq (by rfl) m_len PySem.boot_len (pa_cons (pv 1) pa_nil)) (nomark _)) (pe_one (pe_callB (cr_all rfl) (by rfl) m_all (by decide +kernel) (pa_cons (pe_lc (own := [("_law_k", 2)]) (g := gName 2) (tt := tYes) rfl sc__law_same.nd (pi_range1 (by rfl) m_range (pa_cons (pe_callB call_len_seq (by rfl) m_len PySem.boot_len (pa_cons (pv 1) pa_nil)) pa_nil)) (blkOk_by (own := [("_law_k", 2)]) (N := ["_law_found", "_law_due", "_law_k", "_law_key"]) (sc := defScope s__law_same) (by decide +kernel)) (fun _ _ _ _ _ => (pg_name (i := 2) sc__law_same.nd rfl (.inl rfl))) (fun _ _ _ _ _ => pts_nil) (fun _ _ _ _ _ => (pe_g g__law_same (hr.mono (by omega)) pass0 (pa_cons (pe_ix (ix_anyK K) (pv 0) (pv 2) (fun _ _ => rfl)) (pa_cons (pe_ix (ix_anyK K) (pv 1) (pv 2) (fun _ _ => rfl)) pa_nil))))) pa_nil)))))))
      pss_nil)
    (pss_cons (ps_if (pt_val (pe_callB call_isD (by rfl) m_isinstance (by decide +kernel) (pa_cons (pv 1) (pa_cons (pe_bltn (v := .ty "dict") (by rfl) m_dict (by decide +kernel) rfl) pa_nil))))
      pss_never
      pss_nil)
    (pss_cons (ps_if (PW.pt (pw_or (pt_cmpR op_isN (pv 1) pe_non (nomark _)) (pw_or1 (pt_cmpR op_isN (pv 0) pe_non (nomark _)))))
      (pss_one (ps_ret (pe_and (pe_cmpR op_isN (pv 0) pe_non (nomark _)) (pe_one (pe_cmpR op_isN (pv 1) pe_non (nomark _))))))
      pss_nil)
    (pss_cons (ps_if (PW.pt (pw_or (pt_cmpR op_ne (pe_callB call_isD (by rfl) m_isinstance (by decide +kernel) (pa_cons (pv 1) (pa_cons (pe_bltn (v := .ty "bool") (by rfl) m_bool (by decide +kernel) rfl) pa_nil))) (pe_callB call_isD (by rfl) m_isinstance (by decide +kernel) (pa_cons (pv 0) (pa_cons (pe_bltn (v := .ty "bool") (by rfl) m_bool (by decide +kernel) rfl) pa_nil))) (nomark _)) (pw_or1 (pt_cmpR op_ne (pe_callB call_isD (by rfl) m_isinstance (by decide +kernel) (pa_cons (pv 1) (pa_cons (pe_bltn (v := .ty "int") (by rfl) m_int (by decide +kernel) rfl) pa_nil))) (pe_callB call_isD (by rfl) m_isinstance (by decide +kernel) (pa_cons (pv 0) (pa_cons (pe_bltn (v := .ty "int") (by rfl) m_int (by decide +kernel) rfl) pa_nil))) (nomark _)))))
      (pss_one (ps_ret pe_bl))
      pss_nil)
    (pss_one (ps_ret (pe_and (pe_cmpR op_eq (pe_callB call_isD (by rfl) m_isinstance (by decide +kernel) (pa_cons (pv 1) (pa_cons (pe_bltn (v := .ty "str") (by rfl) m_str (by decide +kernel) rfl) pa_nil))) (pe_callB call_isD (by rfl) m_isinstance (by decide +kernel) (pa_cons (pv 0) (pa_cons (pe_bltn (v := .ty "str") (by rfl) m_str (by decide +kernel) rfl) pa_nil))) (nomark _)) (pe_one (pe_cmpR op_eq (pv 0) (pv 1) (nomark _)))))))))), ?_⟩
  refine ⟨_, rfl, (by show 2 ≤ sizeLine; decide), fun p np => ⟨y, p, .list, .tuple, d, rfl, upd_same, Dp.to (same_new np _) hy, _, rfl, ?_⟩⟩
  have s1 : Same H (upd H p (.tup [.ty "list", .ty "tuple"])) := same_new np _
  generalize upd H p (.tup [.ty "list", .ty "tuple"]) = H1 at s1 ⊢
  have hx1 := Dp.to s1 hx
  have hy1 := Dp.to s1 hy
  cases e : (isT .list d || isT .tuple d) with
  | true =>
    refine iteT ?_
    obtain ⟨a, xs, rfl, Sx, ax⟩ := Dp.seq hx1 e
    obtain ⟨b, ys, rfl, Sy, ay⟩ := Dp.seq hy1 e
    refine ⟨_, rfl, _, .list, d, rfl, hx1, _, rfl, _, .list, d, rfl, hy1, rfl, _, rfl, iteNS rfl ?_⟩
    refine ⟨_, rfl, _, .tuple, d, rfl, hx1, _, rfl, _, .tuple, d, rfl, hy1, rfl, _, rfl, iteNS rfl ?_⟩
    refine ⟨_, rfl, a, xs, rfl, Sx, _, rfl, b, ys, rfl, Sy, rfl, _, rfl, ite_of (decide_eq_true (by rw [DpAll.len ax, DpAll.len ay])) ?_⟩
    have ll := DpAll.len ay
    refine ⟨_, rfl, b, ys, rfl, Sy, _, rfl, by omega, by have := hf.1; omega, fun D nD => lc_range (fun i H' => Same H1 H' ∧ H' D = some (.lst (List.replicate i (.bl true)))) ⟨same_new nD _, upd_same⟩ (fun i H' hi ⟨s2, hD⟩ => ?_) (fun H' ⟨s2, hD⟩ => ?_)⟩
    · have hi' : i < (itemsD d).length := by omega
      obtain ⟨v, gv, dv⟩ := DpAll.at (DpAll.to s2 ax) (List.getElem?_eq_getElem hi')
      obtain ⟨u, gu, du⟩ := DpAll.at (DpAll.to s2 ay) (List.getElem?_eq_getElem hi')
      refine ⟨rfl, tYes_of ?_⟩
      refine ⟨_, rfl, _, rfl, a, xs, _, v, rfl, rfl, Sx.to s2, (by rw [Int.zero_add]; exact atI_nat gv), _, rfl, _, rfl, b, ys, _, u, rfl, rfl, Sy.to s2, (by rw [Int.zero_add]; exact atI_nat gu), ?_⟩
      refine ⟨v, u, _, rfl, dv, du, hf.2 _ (List.getElem_mem hi'), fun H4 s4 => ⟨_, s4 _ _ hD, ?_, same_grow (s2.trans s4) nD, ?_⟩⟩
      · rw [List.length_replicate]
        have := hf.1
        rw [sizeLine_eq]
        omega
      · rw [upd_same, replicate_more]
    · refine ⟨D, List.replicate ys.length true, rfl, .inl (.inl ?_), ?_⟩
      · rw [List.map_replicate]
        exact hD
      · rw [all_true]
        exact q _ (s1.trans s2)
  | false =>
    refine iteF ?_
    cases hy1 with
    | lst _ _ => cases e
    | tup _ _ => cases e
    | non =>
      cases hx1
      refine ⟨_, rfl, _, .dict, _, rfl, .non, _, rfl, iteF ?_⟩
      refine ⟨_, rfl, rfl, _, rfl, iteT ?_⟩
      refine iteT ?_
      exact ⟨_, rfl, rfl, _, rfl, iteT ⟨_, rfl, rfl, q _ s1⟩⟩
    | bl k =>
      cases hx1
      refine ⟨_, rfl, _, .dict, _, rfl, .bl k, _, rfl, iteF ?_⟩
      refine ⟨_, rfl, rfl, _, rfl, iteF ⟨_, rfl, rfl, _, rfl, iteF ?_⟩⟩
      refine ⟨_, rfl, _, .bool, _, rfl, .bl k, _, rfl, _, .bool, _, rfl, .bl k, rfl, _, rfl, iteNS rfl ?_⟩
      refine ⟨_, rfl, _, .int, _, rfl, .bl k, _, rfl, _, .int, _, rfl, .bl k, rfl, _, rfl, iteNS rfl ?_⟩
      refine ⟨_, rfl, _, .str, _, rfl, .bl k, _, rfl, _, .str, _, rfl, .bl k, rfl, _, rfl, iteT ⟨_, rfl, _, rfl, rfl, ?_⟩⟩
      rw [decide_eq_true rfl]
      exact q _ s1
    | int k =>
      cases hx1
      refine ⟨_, rfl, _, .dict, _, rfl, .int k, _, rfl, iteF ?_⟩
      refine ⟨_, rfl, rfl, _, rfl, iteF ⟨_, rfl, rfl, _, rfl, iteF ?_⟩⟩
      refine ⟨_, rfl, _, .bool, _, rfl, .int k, _, rfl, _, .bool, _, rfl, .int k, rfl, _, rfl, iteNS rfl ?_⟩
      refine ⟨_, rfl, _, .int, _, rfl, .int k, _, rfl, _, .int, _, rfl, .int k, rfl, _, rfl, iteNS rfl ?_⟩
      refine ⟨_, rfl, _, .str, _, rfl, .int k, _, rfl, _, .str, _, rfl, .int k, rfl, _, rfl, iteT ⟨_, rfl, _, rfl, rfl, ?_⟩⟩
      rw [decide_eq_true rfl]
      exact q _ s1
    | str k =>
      cases hx1
      refine ⟨_, rfl, _, .dict, _, rfl, .str k, _, rfl, iteF ?_⟩
      refine ⟨_, rfl, rfl, _, rfl, iteF ⟨_, rfl, rfl, _, rfl, iteF ?_⟩⟩
      refine ⟨_, rfl, _, .bool, _, rfl, .str k, _, rfl, _, .bool, _, rfl, .str k, rfl, _, rfl, iteNS rfl ?_⟩
      refine ⟨_, rfl, _, .int, _, rfl, .str k, _, rfl, _, .int, _, rfl, .str k, rfl, _, rfl, iteNS rfl ?_⟩
      refine ⟨_, rfl, _, .str, _, rfl, .str k, _, rfl, _, .str, _, rfl, .str k, rfl, _, rfl, iteT ⟨_, rfl, _, rfl, rfl, ?_⟩⟩
      rw [decide_eq_true rfl]
      exact q _ s1
end
end Fs
set_option Elab.async false
set_option linter.all false
set_option maxRecDepth 100000
set_option maxHeartbeats 8000000
namespace Fs
open PySem PySem.Spec PyProof.Rows L2
/-! ### things -/
def alpha : Str := "abcdefghijklmnopqrstuvwxyz"
def words11 : List Str := ["gap", "pad", "row", "pile", "grid", "clip", "hole", "room", "one", "and", "or"]
def signs (z : Str) : Bool := (List.range z.cps.size).all fun i => decide ((z.cps.getD i 0) ∈ alpha.cps.toList)
def thingS (z : Str) : Bool := decide ((1 : Int) ≤ (z.length : Int)) && (decide ((z.length : Int) ≤ 4) && (!(inV (.str z) (words11.map V.str)) && signs z))
def thingD : PyData → Bool
  | .str z => thingS z
  | _ => false
def spThing (K : Frag) : Sp := fun vs H Q _ => ∃ (x : V) (d : PyData), vs = [x] ∧ Dp K H x d ∧ (∀ z, d = .str z → z.length ≤ 100000) ∧ ∀ H', Same H H' → Q (.bl (thingD d)) H'
theorem flat_strs (ws : List Str) : (ws.map V.str).all flatV = true := by
  induction ws with
  | nil => rfl
  | cons w ws ih => rw [List.map_cons, List.all_cons, ih]; rfl
abbrev s_is_thing : Stmt := top 2
theorem sc_is_thing : FnScope ["value", "letter"] ["value"] (defScope s_is_thing) := ⟨rfl, rfl, rfl, by decide +kernel, rfl, by decide +kernel, by decide +kernel⟩
section
variable {P : Program} {w : World} {K : Frag} {mg : Str → Option Value} {base : Heap}
theorem fo_is_thing {aW : Addr} (m_isinstance : mg "isinstance" = none) (m_all : mg "all" = none) (m_len : mg "len" = none) (m_str : mg "str" = none) (mW : mg "WORDS" = some (.ref aW)) (tW : ∀ H, SqT K H aW (words11.map V.str)) :
    Fo P w K mg base CX0 1 "is_thing" s_is_thing [] [] ["value"] (spThing K) := by
  refine fo_ok sc_is_thing (fun vs H Q E h => ?_) (fun f cdv A outer s H vs Q E hr h => ?_)
  · obtain ⟨x, d, rfl, _⟩ := h
    rfl
  obtain ⟨x, d, rfl, hx, hl, q⟩ := h
  refine ⟨_, (pss_cons (ps_if (PW.pt (pw_or (pt_not (pt_val (pe_callB call_isD (by rfl) m_isinstance (by decide +kernel) (pa_cons (pv 0) (pa_cons (pe_bltn (v := .ty "str") (by rfl) m_str (by decide +kernel) rfl) pa_nil))))) (pw_or (pt_not (pt_chain op_le op_le pe_int (pe_callB call_len_str (by rfl) m_len PySem.boot_len (pa_cons (pv 0) pa_nil)) pe_int)) (pw_or1 (pt_cmpR op_in_seq (pv 0) (pe_glob (v := .ref aW) (by rfl) mW rfl) (by rfl))))))
      (pss_one (ps_ret pe_bl))
      pss_nil)
    (pss_one (ps_ret (pe_callB (cr_all rfl) (by rfl) m_all (by decide +kernel) (pa_cons (pe_lc (own := [("letter", 1)]) (g := gName 1) (tt := tYes) rfl sc_is_thing.nd (pi_str (pv 0)) (blkOk_by (own := [("letter", 1)]) (N := ["value", "letter"]) (sc := defScope s_is_thing) (by decide +kernel)) (fun _ _ _ _ _ => (pg_name (i := 1) sc_is_thing.nd rfl (.inl rfl))) (fun _ _ _ _ _ => pts_nil) (fun _ _ _ _ _ => (pe_cmpR op_in_sign (pv 1) pe_str (by rfl)))) pa_nil))))), ?_⟩
  cases hx with
  | str z =>
    have hz := hl z rfl
    have hs : z.length ≤ sizeLine := by rw [sizeLine_eq]; omega
    refine ⟨_, rfl, _, .str, _, rfl, .str z, _, rfl, iteF ?_⟩
    refine ⟨_, rfl, _, rfl, hs, _, _, rfl, rfl, _, rfl, ?_⟩
    have e0 : thingD (.str z) = (decide ((1 : Int) ≤ (z.length : Int)) && (decide ((z.length : Int) ≤ 4) && (!(inV (.str z) (words11.map V.str)) && signs z))) := rfl
    rw [e0] at q
    cases c1 : decide ((1 : Int) ≤ (z.length : Int)) with
    | false =>
      rw [c1] at q
      refine iteF ⟨_, rfl, iteT ?_⟩
      exact iteT (q _ (Same.refl _))
    | true =>
      rw [c1] at q
      refine iteT ⟨_, _, rfl, rfl, _, rfl, ?_⟩
      cases c2 : decide ((z.length : Int) ≤ 4) with
      | false =>
        rw [c2] at q
        exact iteT (iteT (q _ (Same.refl _)))
      | true =>
        rw [c2] at q
        refine iteF ?_
        refine ⟨_, rfl, aW, _, rfl, .inr (tW H), rfl, flat_strs _, _, rfl, ?_⟩
        cases c3 : inV (.str z) (words11.map V.str) with
        | true =>
          rw [c3] at q
          exact iteT (q _ (Same.refl _))
        | false =>
          rw [c3] at q
          refine iteF ?_
          refine ⟨_, rfl, z, rfl, fun D nD => lc_pure walk_str (fun i => .bl (decide ((z.cps.getD i 0) ∈ alpha.cps.toList))) nD (by show z.cps.size ≤ _; have : z.length = z.cps.size := rfl; omega) (fun _ _ => True.intro) (fun i H x H' _ y => by rw [y.1]; exact Same.refl _) (fun i x H1 H' Kt hi s y k => ?_) (gName_mono 1) (fun H' s hD => ?_)⟩
          · obtain ⟨rfl, c, hc, rfl⟩ := y
            refine ⟨rfl, _, rfl, c, alpha, rfl, rfl, ?_⟩
            have e : z.cps.getD i 0 = c := by rw [Array.getD_eq_getD_getElem?, hc]; rfl
            rw [← e]
            exact k _ (Same.refl _)
          · refine ⟨D, (List.range z.cps.size).map (fun i => decide ((z.cps.getD i 0) ∈ alpha.cps.toList)), rfl, .inl (.inl (by rw [bls]; exact hD)), ?_⟩
            have e : ((List.range z.cps.size).map (fun i => decide ((z.cps.getD i 0) ∈ alpha.cps.toList))).all id = signs z := by
              rw [List.all_map]
              rfl
            rw [e]
            exact q _ s
  | non => exact ⟨_, rfl, _, .str, _, rfl, .non, _, rfl, iteT (iteT (q _ (Same.refl _)))⟩
  | bl b => exact ⟨_, rfl, _, .str, _, rfl, .bl b, _, rfl, iteT (iteT (q _ (Same.refl _)))⟩
  | int b => exact ⟨_, rfl, _, .str, _, rfl, .int b, _, rfl, iteT (iteT (q _ (Same.refl _)))⟩
  | lst h a => exact ⟨_, rfl, _, .str, _, rfl, .lst h a, _, rfl, iteT (iteT (q _ (Same.refl _)))⟩
  | tup h a => exact ⟨_, rfl, _, .str, _, rfl, .tup h a, _, rfl, iteT (iteT (q _ (Same.refl _)))⟩
end
end Fs
set_option Elab.async false
set_option linter.all false
set_option maxRecDepth 100000
set_option maxHeartbeats 8000000
namespace Fs
open PySem PySem.Spec PyProof.Rows L2
abbrev s__law_is_thing : Stmt := top 8
theorem sc__law_is_thing : FnScope ["_law_value_z", "_law_letter"] ["_law_value_z"] (defScope s__law_is_thing) := ⟨rfl, rfl, rfl, by decide +kernel, rfl, by decide +kernel, by decide +kernel⟩
section
variable {P : Program} {w : World} {K : Frag} {mg : Str → Option Value} {base : Heap}
theorem ok__law_is_thing (G : Gs K mg "_law_is_thing" s__law_is_thing) (m_isinstance : mg "isinstance" = none) (m_all : mg "all" = none) (m_len : mg "len" = none) (m_str : mg "str" = none) :
    Gd P w K mg base CX0 1 "_law_is_thing" ["_law_value_z"] (spThing K) := by
  refine G.ok sc__law_is_thing (fun vs H Q E h => ?_) (fun _ _ _ _ _ _ us hl => match us, hl with | [_], _ => rfl) (fun f cdv A outer s H vs Q E hr h => ?_)
  · obtain ⟨x, d, rfl, _⟩ := h
    rfl
  obtain ⟨x, d, rfl, hx, hl, q⟩ := h
  refine ⟨_, (pss_cons (ps_if (PW.pt (pw_or (pt_not (pt_val (pe_callB call_isD (by rfl) m_isinstance (by decide +kernel) (pa_cons (pv 0) (pa_cons (pe_bltn (v := .ty "str") (by rfl) m_str (by decide +kernel) rfl) pa_nil))))) (pw_or1 (pt_not (pt_chain op_le op_le pe_int (pe_callB call_len_str (by rfl) m_len PySem.boot_len (pa_cons (pv 0) pa_nil)) pe_int)))))
      (pss_one (ps_ret pe_bl))
      pss_nil)
    (pss_cons (ps_if (pt_cmpR op_in_seq (pv 0) (pe_lst (pa_cons pe_str (pa_cons pe_str (pa_cons pe_str (pa_cons pe_str (pa_cons pe_str (pa_cons pe_str (pa_cons pe_str (pa_cons pe_str (pa_cons pe_str (pa_cons pe_str (pa_cons pe_str pa_nil)))))))))))) (by rfl))
      (pss_one (ps_ret pe_bl))
      pss_nil)
    (pss_one (ps_ret (pe_callB (cr_all rfl) (by rfl) m_all (by decide +kernel) (pa_cons (pe_lc (own := [("_law_letter", 1)]) (g := gName 1) (tt := tYes) rfl sc__law_is_thing.nd (pi_str (pv 0)) (blkOk_by (own := [("_law_letter", 1)]) (N := ["_law_value_z", "_law_letter"]) (sc := defScope s__law_is_thing) (by decide +kernel)) (fun _ _ _ _ _ => (pg_name (i := 1) sc__law_is_thing.nd rfl (.inl rfl))) (fun _ _ _ _ _ => pts_nil) (fun _ _ _ _ _ => (pe_cmpR op_in_sign (pv 1) pe_str (by rfl)))) pa_nil)))))), ?_⟩
  cases hx with
  | str z =>
    have hz := hl z rfl
    have hs : z.length ≤ sizeLine := by rw [sizeLine_eq]; omega
    refine ⟨_, rfl, _, .str, _, rfl, .str z, _, rfl, iteF ?_⟩
    refine ⟨_, rfl, _, rfl, hs, _, _, rfl, rfl, _, rfl, ?_⟩
    have e0 : thingD (.str z) = (decide ((1 : Int) ≤ (z.length : Int)) && (decide ((z.length : Int) ≤ 4) && (!(inV (.str z) (words11.map V.str)) && signs z))) := rfl
    rw [e0] at q
    cases c1 : decide ((1 : Int) ≤ (z.length : Int)) with
    | false =>
      rw [c1] at q
      refine iteF ⟨_, rfl, ?_⟩
      exact iteT (q _ (Same.refl _))
    | true =>
      rw [c1] at q
      refine iteT ⟨_, _, rfl, rfl, _, rfl, ?_⟩
      cases c2 : decide ((z.length : Int) ≤ 4) with
      | false =>
        rw [c2] at q
        exact iteT (q _ (Same.refl _))
      | true =>
        rw [c2] at q
        refine iteF ?_
        refine ⟨_, rfl, (by show 11 ≤ sizeLine; decide), fun aW nW => ⟨aW, _, rfl, .inl (at_z upd_same), rfl, flat_strs words11, _, rfl, ?_⟩⟩
        have s1 : Same H (upd H aW (.lst (words11.map V.str))) := same_new nW _
        have c3 : inV (.str z) (words11.map V.str) = true ∨ inV (.str z) (words11.map V.str) = false := by cases inV (.str z) (words11.map V.str) <;> simp
        rcases c3 with c3 | c3
        · rw [c3] at q
          exact ite_of c3 (q _ s1)
        · rw [c3] at q
          refine ite_no c3 ?_
          refine ⟨_, rfl, z, rfl, fun D nD => lc_pure walk_str (fun i => .bl (decide ((z.cps.getD i 0) ∈ alpha.cps.toList))) nD (by show z.cps.size ≤ _; have : z.length = z.cps.size := rfl; omega) (fun _ _ => True.intro) (fun i H x H' _ y => by rw [y.1]; exact Same.refl _) (fun i x H1 H' Kt hi s y k => ?_) (gName_mono 1) (fun H' s hD => ?_)⟩
          · obtain ⟨rfl, c, hc, rfl⟩ := y
            refine ⟨rfl, _, rfl, c, alpha, rfl, rfl, ?_⟩
            have e : z.cps.getD i 0 = c := by rw [Array.getD_eq_getD_getElem?, hc]; rfl
            rw [← e]
            exact k _ (Same.refl _)
          · refine ⟨D, (List.range z.cps.size).map (fun i => decide ((z.cps.getD i 0) ∈ alpha.cps.toList)), rfl, .inl (.inl (by rw [bls]; exact hD)), ?_⟩
            have e : ((List.range z.cps.size).map (fun i => decide ((z.cps.getD i 0) ∈ alpha.cps.toList))).all id = signs z := by
              rw [List.all_map]
              rfl
            rw [e]
            exact q _ (s1.trans s)
  | non => exact ⟨_, rfl, _, .str, _, rfl, .non, _, rfl, iteT (q _ (Same.refl _))⟩
  | bl b => exact ⟨_, rfl, _, .str, _, rfl, .bl b, _, rfl, iteT (q _ (Same.refl _))⟩
  | int b => exact ⟨_, rfl, _, .str, _, rfl, .int b, _, rfl, iteT (q _ (Same.refl _))⟩
  | lst h a => exact ⟨_, rfl, _, .str, _, rfl, .lst h a, _, rfl, iteT (q _ (Same.refl _))⟩
  | tup h a => exact ⟨_, rfl, _, .str, _, rfl, .tup h a, _, rfl, iteT (q _ (Same.refl _))⟩
end
abbrev s_law : Stmt := top 9
theorem sc_law : FnScope ["_law_script", "_law_bag_here", "_law_letters", "_law_words", "_law_turn", "_law_word", "_law_odd", "_law_value_z", "_law_k"] ["_law_script"] (defScope s_law) := ⟨rfl, rfl, rfl, by decide +kernel, rfl, by decide +kernel, by decide +kernel⟩
def lets : Str := "abcdefghijklmnopqrstuvwxyzA1 ."
def words15 : List Str := ["gap", "pad", "row", "pile", "grid", "clip", "hole", "room", "one", "and", "or", "fill", "end", "rows", "ga"]
def tails : List Str := ["", "s", "A"]
def four : List Str := ["a", "z", "rows", "fill"]
theorem words15_len : ∀ z ∈ words15, z.length ≤ 10 := by decide +kernel
theorem tails_len : ∀ z ∈ tails, z.length ≤ 10 := by decide +kernel
theorem four_len : ∀ z ∈ four, z.length ≤ 10 := by decide +kernel
theorem four_ok : (four.map fun z => thingD (.str z)).all id = true := by decide +kernel
theorem lets_len : lets.cps.toList.length = 30 := by decide +kernel
theorem mem_strs {x : V} {ws : List Str} (h : x ∈ ws.map V.str) : ∃ z ∈ ws, x = .str z := by
  obtain ⟨z, hz, e⟩ := List.mem_map.mp h
  exact ⟨z, hz, e.symm⟩
theorem fit_bool (b : Bool) : Fit 1 (.bool b) := ⟨Nat.zero_le _, fun e he => by cases he⟩
/-- a value that the two are asked about -/
def Ask (K : Frag) (H : Hp) (x : V) : Prop := ∃ d, Dp K H x d ∧ ∀ z, d = .str z → z.length ≤ 100000
theorem Ask.to {K : Frag} {H H' : Hp} {x : V} (s : Same H H') (h : Ask K H x) : Ask K H' x := by
  obtain ⟨d, h1, h2⟩ := h
  exact ⟨d, Dp.to s h1, h2⟩
theorem Ask.str {K : Frag} {H : Hp} {z : Str} (h : z.length ≤ 100000) : Ask K H (.str z) := ⟨_, .str z, fun y e => by
  have e2 : z = y := PyData.str.inj e
  rw [← e2]
  exact h⟩
theorem join_len : ∀ (ys : List Str), (∀ y ∈ ys, y.length = 1) → (ys.map (·.length)).sum = ys.length
  | [], _ => rfl
  | y :: ys, h => by
    rw [List.map_cons, List.sum_cons, join_len ys fun z hz => h z (List.mem_cons_of_mem _ hz), h y List.mem_cons_self, List.length_cons]
    omega
section
variable {P : Program} {w : World} {K : Frag} {mg : Str → Option Value} {base : Heap}
theorem fo_law (g__law_bag : Gd P w K mg base CX0 1 "_law_bag" ["_law_script"] (spBag K)) (g__law_pull : Gd P w K mg base CX0 1 "_law_pull" ["_law_bag_here", "_law_amount"] spPull)
    (g__law_of : Gd P w K mg base CX0 2 "_law_of" ["_law_bag_here", "_law_things"] (spOf K)) (g__law_same : Gd P w K mg base CX0 2 "_law_same" ["_law_found", "_law_due"] (spSame K 1))
    (g_is_thing : Gd P w K mg base CX0 1 "is_thing" ["value"] (spThing K)) (k_is_thing : Gk P w K mg base CX0 1 "is_thing" 0 ["value"] (fun _ zs => zs) ["value"] (spThing K)) (g__law_is_thing : Gd P w K mg base CX0 1 "_law_is_thing" ["_law_value_z"] (spThing K))
    (m_range : mg "range" = none) (m_all : mg "all" = none) : Fo P w K mg base CX0 3 "law" s_law [] [] ["_law_script"] (spLaw K) := by
  refine fo_ok sc_law (fun vs H Q E h => ?_) (fun f cdv A outer s H vs Q E hr h => ?_)
  · obtain ⟨a, ns, rfl, _⟩ := h
    rfl
  obtain ⟨a, ns, rfl, hS, hl, q⟩ := h
  refine ⟨_, (pss_cons (ps_set (i := 1) sc_law.nd rfl (.inr rfl) (pe_g g__law_bag (hr.mono (by decide)) pass0 (pa_cons (pv 0) pa_nil)))
    (pss_cons (ps_set (i := 2) sc_law.nd rfl (.inr rfl) pe_str)
    (pss_cons (ps_set (i := 3) sc_law.nd rfl (.inl rfl) (pe_lstN (pa_cons pe_str (pa_cons pe_str (pa_cons pe_str (pa_cons pe_str (pa_cons pe_str (pa_cons pe_str (pa_cons pe_str (pa_cons pe_str (pa_cons pe_str (pa_cons pe_str (pa_cons pe_str (pa_cons pe_str (pa_cons pe_str (pa_cons pe_str (pa_cons pe_str pa_nil)))))))))))))))))
    (pss_cons (ps_for PassesOwn.never rfl (pi_range1 (by rfl) m_range (pa_cons pe_int pa_nil)) (pg_name (i := 4) sc_law.nd rfl (.inl rfl))
      (pss_cons (ps_set (i := 5) sc_law.nd rfl (.inl rfl) (pe_join pe_str (pe_lc (own := [("_law_k", 8)]) (g := gName 8) (tt := tYes) rfl sc_law.nd (pi_range1 (by rfl) m_range (pa_cons (pe_g g__law_pull (hr.mono (by decide)) pass0 (pa_cons (pv 1) (pa_cons pe_int pa_nil))) pa_nil)) (blkOk_by (own := [("_law_k", 8)]) (N := ["_law_script", "_law_bag_here", "_law_letters", "_law_words", "_law_turn", "_law_word", "_law_odd", "_law_value_z", "_law_k"]) (sc := defScope s_law) (by decide +kernel)) (fun _ _ _ _ _ => (pg_name (i := 8) sc_law.nd rfl (.inl rfl))) (fun _ _ _ _ _ => pts_nil) (fun _ _ _ _ _ => (pe_ix ix_str (pv 2) (pe_g g__law_pull (hr.mono (by decide)) pass0 (pa_cons (pv 1) (pa_cons (pe_g g__law_of (hr.mono (by decide)) pass0 (pa_cons (pv 1) (pa_cons (pe_lstN (pa_cons pe_int (pa_cons pe_int pa_nil))) pa_nil))) pa_nil))) (fun _ _ => rfl))))))
      (pss_cons (ps_set (i := 6) sc_law.nd rfl (.inl rfl) (pe_g g__law_of (hr.mono (by decide)) pass0 (pa_cons (pv 1) (pa_cons (pe_lstN (pa_cons pe_non (pa_cons pe_int (pa_cons pe_bl (pa_cons (pe_tupN (pa_cons pe_str pa_nil)) (pa_cons (pe_lstN (pa_cons pe_str pa_nil)) (pa_cons pe_str pa_nil))))))) pa_nil))))
      (pss_one (ps_for PassesOwn.never rfl (pi_list (pe_lstN (pa_cons (pv 5) (pa_cons (pe_g g__law_of (hr.mono (by decide)) pass0 (pa_cons (pv 1) (pa_cons (pv 3) pa_nil))) (pa_cons (pe_op op_add_str (pe_g g__law_of (hr.mono (by decide)) pass0 (pa_cons (pv 1) (pa_cons (pv 3) pa_nil))) (pe_g g__law_of (hr.mono (by decide)) pass0 (pa_cons (pv 1) (pa_cons (pe_lstN (pa_cons pe_str (pa_cons pe_str (pa_cons pe_str pa_nil)))) pa_nil)))) (pa_cons (pv 6) pa_nil)))))) (pg_name (i := 7) sc_law.nd rfl (.inl rfl))
        (pss_one (ps_if (pt_not (pt_val (pe_g g__law_same (hr.mono (by decide)) pass0 (pa_cons (pe_gk0 k_is_thing (hr.mono (by decide)) pass0 (pk_cons (pv 7) pk_nil)) (pa_cons (pe_g g__law_is_thing (hr.mono (by decide)) pass0 (pa_cons (pv 7) pa_nil)) pa_nil)))))
          (pss_one (ps_ret pe_bl))
          pss_nil)))))))
    (pss_one (ps_ret (pe_callB (cr_all rfl) (by rfl) m_all (by decide +kernel) (pa_cons (pe_lc (own := [("_law_word", 5)]) (g := gName 5) (tt := tYes) rfl sc_law.nd (pi_list (pe_lstN (pa_cons pe_str (pa_cons pe_str (pa_cons pe_str (pa_cons pe_str pa_nil)))))) (blkOk_by (own := [("_law_word", 5)]) (N := ["_law_script", "_law_bag_here", "_law_letters", "_law_words", "_law_turn", "_law_word", "_law_odd", "_law_value_z", "_law_k"]) (sc := defScope s_law) (by decide +kernel)) (fun _ _ _ _ _ => (pg_name (i := 5) sc_law.nd rfl (.inl rfl))) (fun _ _ _ _ _ => pts_nil) (fun _ _ _ _ _ => (pe_g g_is_thing (hr.mono (by decide)) pass0 (pa_cons (pv 5) pa_nil)))) pa_nil)))))))), ?_⟩
  refine ⟨_, rfl, a, ns, rfl, hS, fun p l H1 np s1 B1 => ?_⟩
  refine ⟨(by show 15 ≤ sizeLine; decide), fun wl H2 nwl s2 hwl => ?_⟩
  have hwl : H2 wl = some (.lst (words15.map V.str)) := hwl
  have B2 := B1.to s2
  have nwp := B1.ne nwl
  refine ⟨12, rfl, by decide, by decide, for_range (lo := 0) (fun i σ H' => ∃ v4 v5 v6 v7, σ = [some (.ref a), some (.ref p), some (.str lets), some (.ref wl), v4, v5, v6, v7, none] ∧ SameX p H2 H' ∧ BagAt H' p l) ⟨none, none, none, none, rfl, Same.refl _, B2⟩ ?_ ?_⟩
  · rintro i σ H3 hi ⟨v4, v5, v6, v7, rfl, sx3, B3⟩
    -- the drawn word
    refine ⟨⟨_, rfl⟩, _, rfl, p, l, 6, rfl, B3, by decide, by decide, fun r H4 h0 h1 sx4 B4 => ?_⟩
    refine ⟨r, rfl, by omega, by omega, fun D nD => lc_draw walk_range (fun _ v _ => ∃ z : Str, v = .str z ∧ z.length = 1) B4 nD (by omega) (fun _ _ _ _ _ h => h) (fun _ _ => True.intro) YFn_same (fun j x H5 H6 Kt hj sx6 B6 y kt => ?_) (gName_mono 8) (fun H5 ys sx5 B5 hD hys hr => ?_)⟩
    · obtain ⟨rfl, rfl⟩ := y
      refine ⟨rfl, _, rfl, _, rfl, _, rfl, (by show 2 ≤ sizeLine; decide), fun tp H7 nt s7 ht => ?_⟩
      have B7 := B6.to s7
      refine ⟨p, l, tp, _, rfl, B7, .inl (at_z (by rw [Hx.ne (B6.ne nt)]; exact ht)), (by simp), (by decide), fun x hx H8 sx8 B8 => ?_⟩
      have hx' : x = .int 26 ∨ x = .int 30 := by simpa using hx
      have key : ∀ n : Int, 0 < n → n ≤ 30 → x = .int n → tCall spPull [] E0 (tCons (tC (.ref p)) (tCons (tC x) tNil)) [] H8 (fun y H9 => ∃ z i c, V.str lets = .str z ∧ y = .int i ∧ z.length ≤ sizeLine ∧ atI z.cps.toList i = some c ∧ Kt (.str ⟨#[c]⟩) H9) := by
        rintro n n0 n1 rfl
        refine ⟨p, l, n, rfl, B8, n0, Int.lt_of_le_of_lt n1 (by decide), fun k H9 k0 k1 sx9 B9 => ?_⟩
        have hk : k.toNat < lets.cps.toList.length := by rw [lets_len]; omega
        refine ⟨lets, k, _, rfl, rfl, (by decide +kernel), atI_i k0 hk, kt _ _ (sx8.trans sx9 |> fun z => (SameX.same s7).trans z) B9 ⟨_, rfl, rfl⟩⟩
      rcases hx' with rfl | rfl
      · exact key 26 (by decide) (by decide) rfl
      · exact key 30 (by decide) (by decide) rfl
    -- the word is joined
    obtain ⟨zs, rfl, hz1⟩ : ∃ zs : List Str, ys = zs.map V.str ∧ ∀ z ∈ zs, z.length = 1 := by
      clear hys hD
      induction ys with
      | nil => exact ⟨[], rfl, by simp⟩
      | cons y ys ih =>
        obtain ⟨z, rfl, h1⟩ := hr 0 y rfl
        obtain ⟨zs, rfl, h2⟩ := ih (fun i v e => hr (i + 1) v e)
        exact ⟨z :: zs, rfl, fun u hu => by
          rcases List.mem_cons.mp hu with rfl | hu
          · exact h1
          · exact h2 _ hu⟩
    have hzl : zs.length ≤ 6 := by rw [List.length_map] at hys; omega
    refine ⟨_, D, zs, rfl, rfl, .inl (at_z hD), ?_, ?_⟩
    · rw [join_len zs hz1]
      show zs.length + zs.length * 0 ≤ _
      omega
    obtain ⟨W, eW, hj⟩ : ∃ W : Str, W = Txt.join "" zs ∧ W.length ≤ 100000 := ⟨_, rfl, by
      have z := StrLaws.join_length_le "" zs
      rw [← PySem.StrLaws.glued_eq_join, join_len zs hz1] at z
      have e0 : (("" : Str)).length = 0 := rfl
      rw [e0] at z
      show (Txt.join "" zs).length ≤ 100000
      have z2 : (Txt.join "" zs).length ≤ zs.length + zs.length * 0 := z
      omega⟩
    rw [← eW]
    clear eW
    -- the odd value
    refine ⟨_, rfl, (by show 1 ≤ sizeLine; decide), fun tt H6 nt s6 ht => ⟨(by show 1 ≤ sizeLine; decide), fun ll H7 nl s7 hll => ⟨(by show 6 ≤ sizeLine; decide), fun oo H8 no s8 ho => ?_⟩⟩⟩
    have B6 := B5.to s6
    have B7 := B6.to s7
    have B8 := B7.to s8
    refine ⟨p, l, oo, _, rfl, B8, .inl (at_z (by rw [Hx.ne (B7.ne no)]; exact ho)), (by simp), (by show (6 : Int) < _; decide), fun odd hodd H9 sx9 B9 => ?_⟩
    have hmem : odd = .non ∨ odd = .int 3 ∨ odd = .bl true ∨ odd = .ref tt ∨ odd = .ref ll ∨ odd = .str "" := by simpa using hodd
    have hask : Ask K (Hx p H9) odd := by
      have h1 : (Hx p H9) tt = some (.tup [.str "a"]) := sx9 _ _ (by rw [Hx.ne (B5.ne nt)]; exact s8 _ _ (s7 _ _ ht))
      have h2 : (Hx p H9) ll = some (.lst [.str "a"]) := sx9 _ _ (by rw [Hx.ne (B6.ne nl)]; exact s8 _ _ hll)
      rcases hmem with rfl | rfl | rfl | rfl | rfl | rfl
      · exact ⟨_, .non, fun z e => by cases e⟩
      · exact ⟨_, .int 3, fun z e => by cases e⟩
      · exact ⟨_, .bl true, fun z e => by cases e⟩
      · exact ⟨_, .tup (SqT.of h1) (.cons (.str _) .nil), fun z e => by cases e⟩
      · exact ⟨_, .lst (SqL.of h2) (.cons (.str _) .nil), fun z e => by cases e⟩
      · exact Ask.str (by decide +kernel)
    -- the four values
    have sxW : SameX p H2 H9 := (((sx3.trans sx4).trans sx5).trans (SameX.same (s6.trans (s7.trans s8)))).trans sx9
    have hw9 : SqA K (Hx p H9) wl (words15.map V.str) := .inl (at_z (sxW _ _ (by rw [Hx.ne nwp]; exact hwl)))
    refine ⟨_, rfl, ?_⟩
    refine ⟨_, rfl, _, rfl, p, l, wl, _, rfl, B9, hw9, (by simp [words15]), (by decide +kernel), fun x1 hx1 H10 sx10 B10 => ?_⟩
    obtain ⟨z1, hz1', rfl⟩ := mem_strs hx1
    refine ⟨_, rfl, _, rfl, p, l, wl, _, rfl, B10, hw9.to sx10, (by simp [words15]), (by decide +kernel), fun x2 hx2 H11 sx11 B11 => ?_⟩
    obtain ⟨z2, hz2', rfl⟩ := mem_strs hx2
    refine ⟨_, rfl, (by show 3 ≤ sizeLine; decide), fun ta H12 nta s12 hta => ?_⟩
    have B12 := B11.to s12
    have hta : H12 ta = some (.lst (tails.map V.str)) := hta
    refine ⟨p, l, ta, _, rfl, B12, .inl (at_z (by rw [Hx.ne (B11.ne nta)]; exact hta)), (by simp [tails]), (by decide +kernel), fun x3 hx3 H13 sx13 B13 => ?_⟩
    obtain ⟨z3, hz3', rfl⟩ := mem_strs hx3
    have l1 := words15_len _ hz1'
    have l2 := words15_len _ hz2'
    have l3 := tails_len _ hz3'
    refine ⟨z2, z3, rfl, rfl, by rw [sizeLine_eq]; omega, _, rfl, (by show 4 ≤ sizeLine; decide), fun qq H14 nq s14 hq => ?_⟩
    have B14 := B13.to s14
    have sx14 : SameX p H9 H14 := ((sx10.trans sx11).trans (SameX.same s12)).trans (sx13.trans (SameX.same s14))
    have hall : ∀ x ∈ [V.str (W), .str z1, .str (z2 ++ z3), odd], Ask K H14 x := by
      intro x hx
      have hx' : x = V.str (W) ∨ x = .str z1 ∨ x = .str (z2 ++ z3) ∨ x = odd := by simpa using hx
      rcases hx' with rfl | rfl | rfl | rfl
      · exact Ask.str hj
      · exact Ask.str (by omega)
      · exact Ask.str (by rw [PySem.Str.length_append]; omega)
      · exact (hask.to sx14).to Hx.sub
    refine ⟨qq, rfl, ⟨_, at_z hq⟩, for_list (K := K) (a := qq) (fun _ σ H' => ∃ v7, σ = [some (.ref a), some (.ref p), some (.str lets), some (.ref wl), some (.int (0 + i)), some (.str (W)), some odd, v7, none] ∧ Same H14 H') ⟨v7, rfl, Same.refl _⟩ (fun _ σ H' _ ⟨_, _, s⟩ => at_z (s _ _ hq)) ?_ ?_⟩
    · rintro j x σ H15 hx ⟨v7', rfl, s15⟩
      obtain ⟨d, hd, hl⟩ := (hall x (List.mem_of_getElem? hx)).to s15
      refine ⟨_, rfl, rfl, rfl, x, d, rfl, hd, hl, fun H16 s16 => ?_⟩
      refine ⟨_, rfl, x, d, rfl, Dp.to s16 hd, hl, fun H17 s17 => ?_⟩
      refine ⟨_, _, .bool (thingD d), rfl, .bl _, .bl _, fit_bool _, fun H18 s18 => ⟨_, rfl, ?_⟩⟩
      refine iteF ?_
      exact ⟨_, rfl, s15.trans (s16.trans (s17.trans s18))⟩
    · rintro σ H' ⟨v7', rfl, s15⟩
      refine ⟨_, _, _, _, rfl, ((sxW.trans sx14).trans (SameX.same s15)), B14.to s15⟩
  · rintro σ H3 ⟨v4, v5, v6, v7, rfl, sx3, B3⟩
    refine ⟨(by show 4 ≤ sizeLine; decide), fun fo H4 nf s4 hf => ⟨fo, rfl, ⟨_, at_z hf⟩, fun D nD => lc_pure walk_list (fun i => .bl ((four.map fun z => thingD (.str z)).getD i false)) nD (by decide) (fun H' s => at_z (s _ _ hf)) YAt_same (fun i x H5 H6 Kt hi s5 y kt => ?_) (gName_mono 5) (fun H5 s5 hD => ?_)⟩⟩
    · obtain ⟨rfl, hx⟩ := y
      have hx' : (four.map V.str)[i]? = some x := hx
      rw [List.getElem?_map] at hx'
      cases e : four[i]? with
      | none =>
        rw [e] at hx'
        cases hx'
      | some z =>
        rw [e] at hx'
        have e2 : V.str z = x := Option.some.inj hx'
        subst e2
        have hz := four_len z (List.mem_of_getElem? e)
        refine ⟨rfl, _, rfl, _, _, rfl, .str z, fun y e => ?_, fun H6 s6 => ?_⟩
        · have e2 : z = y := PyData.str.inj e
          rw [← e2]
          omega
        · have e3 : (four.map fun z => thingD (.str z)).getD i false = thingD (.str z) := by
            rw [List.getD_eq_getElem?_getD, List.getElem?_map, e]
            rfl
          rw [← e3]
          exact kt _ s6
    · refine ⟨D, (List.range 4).map (fun i => (four.map fun z => thingD (.str z)).getD i false), rfl, at_z ?_, ?_⟩
      · rw [bls]
        exact hD
      · have e : ((List.range 4).map (fun i => (four.map fun z => thingD (.str z)).getD i false)).all id = true := by decide +kernel
        rw [e]
        exact q _
end
end Fs
set_option Elab.async false
set_option linter.all false
set_option maxRecDepth 100000
set_option maxHeartbeats 0
namespace Fs
open PySem PySem.Spec PyProof.Rows L2
def fn : List He.DefD := [dD "is_thing" s_is_thing, dD "_law_bag" s__law_bag, dD "_law_pull" s__law_pull, dD "_law_of" s__law_of, dD "_law_same" s__law_same, dD "_law_is_thing" s__law_is_thing, dD "law" s_law]
def fa : List He.Fa := [.glo "is_thing", .glo "_law_bag", .glo "_law_pull", .glo "_law_of", .glo "_law_same", .glo "_law_is_thing", .glo "law", .glo "WORDS", .free "int", .free "list", .free "len", .free "isinstance", .free "tuple", .free "all", .free "range", .free "dict", .free "bool", .free "str"]
def exB (K : Frag) : Bool := (He.tupB K "WORDS" (words11.map He.Dv.str))
abbrev R : PySem.W.OpenRow := PySem.W.OpenLaw.row PySem.Challenge.rw_framesure_k03_things_recognized
abbrev hk : PySem.W.Hook := He.hookX 5 fa fn [] [] exB
def ob (s : PySem.W.SharedT) : He.AlX := He.obsX 5 fa fn [] [] exB (HandSHeadRun.getT s)
theorem ob_eq (s : PySem.W.SharedT) : ob s = hk.obs s.abs := He.obsX_eq (HandSHeadRun.getT_eq s)
def loose : List Str := (["WORDS", "is_thing", "_law_bag", "_law_pull", "_law_of", "_law_same", "_law_is_thing"] : List Str)
theorem run (w : World) : HandSHeadRun.RunEq R (PySem.W.view R.prog [9]) hk ob 400 loose w := by
  intro os
  kernel_rfl
theorem facts {P : Program} {w : World} {K : Frag} {h : Heap} {mg : Str → Option Value} {f : Addr} (X : K.In h) (G : h.Ns mainGlobals mg) (hfa : mg ("law" : Str) = some (.ref f)) (c : He.SaysX fa fn [] [] exB w h K) :
    ∃ fd : FuncData, (∀ (s : Shared) (v : Value), BindsTo s fd ⟨[v], []⟩ [("_law_script", v)]) ∧ ∀ base : Heap, K.In base → base.Ns mainGlobals mg → FnOk P w K mg base CX0 3 f fd ["_law_script"] (spLaw K) := by
  have d := c.t.d
  obtain ⟨fd, FL⟩ := d.def_ 6 (d := dD "law" s_law) rfl
  have e := hfa.symm.trans (He.glo_ok X G (d.fact 6 (f := .glo "law") rfl))
  cases e
  have b := FunD.bindsA (ps := ["_law_script"]) FL fun _ _ _ _ _ _ us hl => match us, hl with | [_], _ => rfl
  refine ⟨fd, fun s v => b s [v] rfl, fun base _ _ => ?_⟩
  have G_is_thing := gs_of X G d 0 0 "is_thing" s_is_thing rfl rfl
  have G__law_bag := gs_of X G d 1 1 "_law_bag" s__law_bag rfl rfl
  have G__law_pull := gs_of X G d 2 2 "_law_pull" s__law_pull rfl rfl
  have G__law_of := gs_of X G d 3 3 "_law_of" s__law_of rfl rfl
  have G__law_same := gs_of X G d 4 4 "_law_same" s__law_same rfl rfl
  have G__law_is_thing := gs_of X G d 5 5 "_law_is_thing" s__law_is_thing rfl rfl
  have c_WORDS := He.glo_ok X G (d.fact 7 (f := .glo "WORDS") rfl)
  have m_int := free_of X G d 8 "int" rfl
  have m_list := free_of X G d 9 "list" rfl
  have m_len := free_of X G d 10 "len" rfl
  have m_isinstance := free_of X G d 11 "isinstance" rfl
  have m_tuple := free_of X G d 12 "tuple" rfl
  have m_all := free_of X G d 13 "all" rfl
  have m_range := free_of X G d 14 "range" rfl
  have m_dict := free_of X G d 15 "dict" rfl
  have m_bool := free_of X G d 16 "bool" rfl
  have m_str := free_of X G d 17 "str" rfl
  have tW : ∀ H, SqT K H (He.ga K "WORDS") (words11.map V.str) := fun H => by
    have z := He.tupB_ok c.more H
    rw [List.map_map] at z
    exact z
  have gBag := ok__law_bag (P := P) (w := w) (base := base) G__law_bag m_int m_list
  have gPull := ok__law_pull (P := P) (w := w) (base := base) G__law_pull m_int m_len
  have gOf := ok__law_of G__law_of gPull m_len
  have gSame := ok__law_same (P := P) (w := w) (base := base) G__law_same m_isinstance m_tuple m_list m_all m_range m_len m_dict m_int m_bool m_str 1
  have fThing := fo_is_thing (P := P) (w := w) (base := base) m_isinstance m_all m_len m_str c_WORDS tW
  have gThing := fThing.gd G_is_thing (fun _ _ _ _ _ _ us hl => match us, hl with | [_], _ => rfl)
  have kThing := fThing.gk G_is_thing 0 ["value"] (fun _ ws => ws) (fun _ r => r) (fun _ _ _ _ _ _ us ws l1 l2 => match us, ws, l1, l2 with | [], [_], _, _ => rfl)
  have gLThing := ok__law_is_thing (P := P) (w := w) (base := base) G__law_is_thing m_isinstance m_all m_len m_str
  exact fo_law gBag gPull gOf gSame gThing kThing gLThing m_range m_all _ _ FL
end Fs
open PySem PySem.W PySem.Calls PyProof.Rows
theorem PySem.Challenge.cw_framesure_k03_things_recognized_holds : PySem.Challenge.rw_framesure_k03_things_recognized.Holds := by
  w_on; o_law
  refine HandSHeadRun.head_any (r := OpenLaw.row PySem.Challenge.rw_framesure_k03_things_recognized) (q := view (OpenLaw.row PySem.Challenge.rw_framesure_k03_things_recognized).prog [9]) (H := Fs.hk) (ob := Fs.ob) (M := 400) (loose := Fs.loose) (d := HandSHeadRun.topDef (OpenLaw.row PySem.Challenge.rw_framesure_k03_things_recognized).prog 9) (kwd := []) Fs.ob_eq
    (by kernel_rfl) (fun s => by kernel_rfl) Fs.run (by kernel_rfl) (by kernel_rfl) (by kernel_rfl) (by rfl) (by first | assumption | decide +kernel) (by decide +kernel) ⟨rfl, rfl, rfl, rfl, rfl, by decide +kernel⟩ ?hw ?hc
  case hw => w_witness2
  case hc =>
    refine L2.walk_ofE (l := PySem.Challenge.rw_framesure_k03_things_recognized) (n := 63) (k := 3) (x := "_law_script") (CX := L2.CX0) rfl (by decide) (by kernel_rfl) ⟨rfl, by decide, by decide⟩ ?F (fun _ _ _ _ z => z)
    intro w mg fa h Y G hmg0
    obtain ⟨K, KX, c⟩ := Y
    have hmg : mg ("law" : PySem.Str) = some (.ref fa) := by
      have e : (HandSHeadRun.topDef (OpenLaw.row PySem.Challenge.rw_framesure_k03_things_recognized).prog 9).name = ("law" : PySem.Str) := by kernel_rfl
      rw [← e]
      exact hmg0
    obtain ⟨fd, hb, hF⟩ := Fs.facts (P := (PySem.Challenge.rw_framesure_k03_things_recognized).prog) (w := w) KX G hmg c
    exact ⟨K, fd, Fs.spLaw K, KX, hb, fun H a ns hl _ hS => ⟨a, ns, rfl, hS, hl, fun _ => rfl⟩, hF⟩
