import PyProof.Rows.All
import Wide.All
import OpenK.AllK
import Wide.FinOn
import KE.KStateDown
import HandS.ForMost
import HandS.Exc
import HandS.WordsExc
import HandS.Defaults
import HandS.IsInst
import HandS.Wide
import HandS.Flow
import HandS.Walk
import HandS.Head0
import HandS.Head1
import HandS.Head2
import HandS.HeadEnd
import HandS.HeadHook1
import HandS.HeadHook2
import HandS.HeadHook3
import HandS.HeadHook4
import HandS.SetFor
import HandS.SetTxt0
import HandS.SetKeys
import HandS.Lambda
import HandS.ExcInit
import HandS.DictComp
import HandS.TupAny
import HandS.Deep
import HandS.Strs
import HandS.Small
import HandS.FStr
import HandS.RaiseMore
import HandS.Codes
import HandS.Star
import HandS.TryOnly
import HandS.More
import HandS.Dict
import HandS.Iter
import KE.KOpsOwn
import OpenK.KOps
import OpenK.KMeth
import KE.KEqDict
import HandS.MakeKw
import HandS.ClsMeth
import HandS.Finally
import PyProof.InstNe
import PyProof.Rows.PlainNe
import KE.KStar
import KE.KSuper
import PyProof.MeetsIn
import PyProof.Rows.Range3
import PyProof.Conv_bool
import PySem.Challenge.RW_framesure_k24_answers_and_their_texts
set_option Elab.async false
set_option linter.all false
set_option maxRecDepth 100000
set_option maxHeartbeats 0
namespace Fs
open PySem PySem.Spec PyProof.Rows L2
abbrev Frag := PySem.W.Frag
theorem av {H : Hp} {p : Addr} (h : H p = none) (o : HO) : Same H (upd H p o) := fun b u q => by
 rw [upd_ne (ne_of_none q h)]
 exact q
theorem Same.tup {K : Frag} {H H' : Hp} {a : Addr} {xs : List V} (e : Same H H') (h : SqT K H a xs) : SqT K H' a xs := by
 rcases h with (h | ⟨o, h⟩) | h
 ·exact .inl (.inl (e _ _ h))
 ·exact .inl (.inr ⟨o, e _ _ h⟩)
 ·exact .inr h
theorem lq {X : Cx} {e : Expr} {t t' : TE} (h : PE X e t) (k : ∀ σ H Q, t' σ H Q → t σ H Q) : PE X e t' := ⟨fun pins s σ H Q I q => h.run pins s σ H Q I (k σ H Q q)⟩
theorem jz {t u : TS} {D : Ends} {σ : L2.St} {H : Hp} (M : L2.St → Hp → Prop) (ht : ∀ N : L2.St → Hp → Prop, (∀ σ' H', M σ' H' → N σ' H') → t { D with nx := N } σ H) (hu : ∀ σ' H', M σ' H' → u D σ' H') : tSeq t u D σ H := ht (u D) hu
theorem eB {α : Type} {xs : List α} {i : Int} (h0 : 0 ≤ i) (h : i.toNat < xs.length) : atI xs i = some xs[i.toNat] := by
 have q := atI_nat (xs := xs) (j := i.toNat) (List.getElem?_eq_getElem h)
 rw [Int.toNat_of_nonneg h0] at q
 exact q
structure Gd (P : Program) (w : World) (K : Frag) (mg : Str → Option Value) (base : Heap) (CX : CXT) (k : Nat) (x : Str) (ps : List Str) (sp : Sp) : Prop where
 ex : ∃ f fd, mg x = some (.ref f) ∧ PySem.W.keepIn K (.ref f) = true ∧ Binds K fd ps [] ∧ FnOk P w K mg base CX k f fd ps sp
theorem Gd.mono {P : Program} {w : World} {K : Frag} {mg : Str → Option Value} {base : Heap} {CX : CXT} {j k : Nat} {x : Str} {ps : List Str} {sp : Sp} (G : Gd P w K mg base CX j x ps sp) (h : j ≤ k) : Gd P w K mg base CX k x ps sp := by
 obtain ⟨f, fd, a, b, c, F⟩ := G.ex
 exact ⟨f, fd, a, b, c, F.mono h⟩
theorem Gd.imp {P : Program} {w : World} {K : Frag} {mg : Str → Option Value} {base : Heap} {CX : CXT} {k : Nat} {x : Str} {ps : List Str} {sp sp' : Sp} (G : Gd P w K mg base CX k x ps sp) (h : ∀ vs H Q E, sp' vs H Q E → sp vs H Q E) : Gd P w K mg base CX k x ps sp' := by
 obtain ⟨f, fd, a, b, c, F⟩ := G.ex
 exact ⟨f, fd, a, b, c, F.imp h⟩
theorem lr {X : Cx} {CX : CXT} {E : XK} {k : Nat} {x : Str} {ps : List Str} {sp : Sp} {e : Expr} {es : List Expr} {p pos : Pos} {t : TA} (G : Gd X.prog X.w X.K X.mg X.base CX k x ps sp) (hr : Room k X.A) (hx : Passes CX X E) (ha : PA X (e :: es) t)
  (hg : Gl X x := by rfl) (hdb : (x == ("__debug__" : Str)) = false := by decide) (he : starEach (e :: es) X.env = (false, eval e X.env) :: starEach es X.env := by rfl) (hpl : (backTo pos (starEach es X.env)).any (·.1) = false := by rfl) :
  PE X (.Call (.Name x p) (e :: es) [] pos) (tCall sp [] E t) := by
 obtain ⟨f, fd, a, b, c, F⟩ := G.ex
 exact pe_call F hr hg a b c .nil hx ha hdb he hpl
def Fo (P : Program) (w : World) (K : Frag) (mg : Str → Option Value) (base : Heap) (CX : CXT) (k : Nat) (x : Str) (st : Stmt) (dfl : List V) (kwd : List (Str × V)) (ps : List Str) (sp : Sp) : Prop :=
 ∀ f fd, FunD K x x (defArgs st) (defBody st) (defScope st) dfl kwd f fd → FnOk P w K mg base CX k f fd ps sp
def Gsd (K : Frag) (mg : Str → Option Value) (x : Str) (st : Stmt) (dfl : List V) (kwd : List (Str × V)) : Prop := ∃ f fd, mg x = some (.ref f) ∧ FunD K x x (defArgs st) (defBody st) (defScope st) dfl kwd f fd
abbrev Gs (K : Frag) (mg : Str → Option Value) (x : Str) (st : Stmt) : Prop := Gsd K mg x st [] []
section
variable {P : Program} {w : World} {K : Frag} {mg : Str → Option Value} {base : Heap} {CX : CXT} {x : Str} {st : Stmt} {dfl : List V} {kwd : List (Str × V)} {N ps : List Str} {k : Nat} {sp : Sp}
theorem j4 (S : FnScope N ps (defScope st)) (len : ∀ vs H Q E, sp vs H Q E → vs.length = ps.length)
  (hbody : ∀ (f : Addr) (cdv : Value) (A : Around) (outer : List Env) (s : Shared) (H : Hp) (vs : List V) (Q : VK) (E : XK), Room k (A.deeper (envOfC x (defScope st) s.heap.objs.size f cdv)) → sp vs H Q E →
   ∃ t, PSs (cxOf CX0 P w K mg base N x (defScope st) f cdv A outer s H E).nox (defBody st) t ∧ t { nx := fun _ H' => Q .non H', rt := Q } (start N vs) H) : Fo P w K mg base CX0 (k + 1) x st dfl kwd ps sp := fun f fd F => by
 refine F.ok S len fun cdv A outer s H vs Q E hr h => ?_
 obtain ⟨t, h1, h2⟩ := hbody f cdv A outer s H vs Q E hr h
 exact ⟨t, h1.nox, h2⟩
theorem iv (S : FnScope N ps (defScope st)) (len : ∀ vs H Q E, sp vs H Q E → vs.length = ps.length)
  (hbody : ∀ (f : Addr) (cdv : Value) (A : Around) (outer : List Env) (s : Shared) (H : Hp) (vs : List V) (Q : VK) (E : XK), Room k (A.deeper (envOfC x (defScope st) s.heap.objs.size f cdv)) → sp vs H Q E →
   ∃ t, PSs (cxOf (L2.CX P w) P w K mg base N x (defScope st) f cdv A outer s H E) (defBody st) t ∧ t { nx := fun _ H' => Q .non H', rt := Q } (start N vs) H) : Fo P w K mg base (L2.CX P w) (k + 1) x st dfl kwd ps sp := fun f fd F =>
 F.ok S len (hbody f)
theorem Fo.gd (F : Fo P w K mg base CX k x st [] [] ps sp) (G : Gs K mg x st)
  (hb : ∀ (kV doc pm : Value) (an : Option Addr) (cdv ct : Value) (us : List Value), us.length = ps.length → bindArgs (PySem.W.fnOf x x (defArgs st) (defBody st) (defScope st) .none kV doc pm an cdv ct) ⟨us, []⟩ = pure (ps.zip us)) : Gd P w K mg base CX k x ps sp := by
 obtain ⟨f, fd, a, D⟩ := G
 exact ⟨f, fd, a, D.kp, D.bindsN hb, F f fd D⟩
theorem Gsd.ok (G : Gs K mg x st) (S : FnScope N ps (defScope st)) (len : ∀ vs H Q E, sp vs H Q E → vs.length = ps.length)
  (hb : ∀ (kV doc pm : Value) (an : Option Addr) (cdv ct : Value) (us : List Value), us.length = ps.length → bindArgs (PySem.W.fnOf x x (defArgs st) (defBody st) (defScope st) .none kV doc pm an cdv ct) ⟨us, []⟩ = pure (ps.zip us))
  (hbody : ∀ (f : Addr) (cdv : Value) (A : Around) (outer : List Env) (s : Shared) (H : Hp) (vs : List V) (Q : VK) (E : XK), Room k (A.deeper (envOfC x (defScope st) s.heap.objs.size f cdv)) → sp vs H Q E →
   ∃ t, PSs (cxOf CX0 P w K mg base N x (defScope st) f cdv A outer s H E).nox (defBody st) t ∧ t { nx := fun _ H' => Q .non H', rt := Q } (start N vs) H) : Gd P w K mg base CX0 (k + 1) x ps sp := (j4 S len hbody).gd G hb
end
structure Gk (P : Program) (w : World) (K : Frag) (mg : Str → Option Value) (base : Heap) (CX : CXT) (k : Nat) (x : Str) (n : Nat) (ks : List Str) (gV : List V → List V → List V) (ps : List Str) (sp : Sp) : Prop where
 ex : ∃ f fd g, mg x = some (.ref f) ∧ PySem.W.keepIn K (.ref f) = true ∧ KBn K fd ps n ks g gV ∧ FnOk P w K mg base CX k f fd ps sp
section
variable {P : Program} {w : World} {K : Frag} {mg : Str → Option Value} {base : Heap} {CX : CXT} {x : Str} {st : Stmt} {dfl : List V} {kwd : List (Str × V)} {N ps : List Str} {k : Nat} {sp : Sp}
theorem Gk.mono {n : Nat} {ks : List Str} {gV : List V → List V → List V} {j : Nat} (G : Gk P w K mg base CX j x n ks gV ps sp) (h : j ≤ k) : Gk P w K mg base CX k x n ks gV ps sp := by
 obtain ⟨f, fd, g, a, b, c, F⟩ := G.ex
 exact ⟨f, fd, g, a, b, c, F.mono h⟩
end
structure Gdd (P : Program) (w : World) (K : Frag) (mg : Str → Option Value) (base : Heap) (CX : CXT) (k : Nat) (x : Str) (ps : List Str) (dv : List V) (sp : Sp) : Prop where
 ex : ∃ f fd ds, mg x = some (.ref f) ∧ PySem.W.keepIn K (.ref f) = true ∧ Vals dv ds ∧ Binds K fd ps ds ∧ FnOk P w K mg base CX k f fd ps sp
section
variable {P : Program} {w : World} {K : Frag} {mg : Str → Option Value} {base : Heap} {CX : CXT} {x : Str} {st : Stmt} {dfl dv : List V} {N ps : List Str} {k : Nat} {sp : Sp}
theorem Gdd.gd (G : Gdd P w K mg base CX k x ps [] sp) : Gd P w K mg base CX k x ps sp := by
 obtain ⟨f, fd, ds, a, b, c, d, e⟩ := G.ex
 cases c
 exact ⟨f, fd, a, b, d, e⟩
end
theorem bj {X : Cx} {E : XK} (tk : Takes X (fun cls d _ H => E cls d H)) : Passes (L2.CX X.prog X.w) X E := passes_call tk fun _ _ _ _ h => h
section
variable {X : Cx} {CX : CXT} {E : XK} {k n : Nat} {x : Str} {ps ks : List Str} {sp : Sp} {e : Expr} {es : List Expr} {kws : List Keyword} {p pos : Pos} {t tk : TA} {gV : List V → List V → List V}
end
mutual
theorem Dp.to {K : Frag} {H H' : Hp} (e : Same H H') : ∀ {v : V} {d : PyData}, Dp K H v d → Dp K H' v d
 | _, _, .non => .non
 | _, _, .bl b => .bl b
 | _, _, .int i => .int i
 | _, _, .str x => .str x
 | _, _, .lst h a => .lst (e.seq h) (DpAll.to e a)
 | _, _, .tup h a => .tup (Same.tup e h) (DpAll.to e a)
theorem DpAll.to {K : Frag} {H H' : Hp} (e : Same H H') : ∀ {vs : List V} {ds : List PyData}, DpAll K H vs ds → DpAll K H' vs ds
 | _, _, .nil => .nil
 | _, _, .cons h t => .cons (Dp.to e h) (DpAll.to e t)
end
theorem DpAll.len {K : Frag} {H : Hp} : ∀ {vs : List V} {ds : List PyData}, DpAll K H vs ds → vs.length = ds.length
 | _, _, .nil => rfl
 | _, _, .cons _ t => congrArg Nat.succ (DpAll.len t)
theorem DpAll.at {K : Frag} {H : Hp} : ∀ {vs : List V} {ds : List PyData} {i : Nat} {d : PyData}, DpAll K H vs ds → ds[i]? = some d → ∃ v, vs[i]? = some v ∧ Dp K H v d
 | _, _, _, _, .nil, e => by simp at e
 | _, _, 0, d, .cons (v := v) h _, e => ⟨v, rfl, by simp at e; subst e; exact h⟩
 | _, _, i + 1, d, .cons _ t, e => by
  obtain ⟨v, h1, h2⟩ := DpAll.at (i := i) (d := d) t (by simpa using e)
  exact ⟨v, by simpa using h1, h2⟩
def Hx (p : Addr) (H : Hp) : Hp := fun b => if b = p then none else H b
theorem Hx.sub {p : Addr} {H : Hp} : Same (Hx p H) H := fun b o e => by
 unfold Hx at e
 split at e
 ·cases e
 ·exact e
theorem Hx.ne {p b : Addr} {H : Hp} (h : b ≠ p) : Hx p H b = H b := by
 unfold Hx
 rw [if_neg h]
theorem Hx.self {p : Addr} {H : Hp} : Hx p H p = none := by
 unfold Hx
 rw [if_pos rfl]
abbrev SameX (p : Addr) (H H' : Hp) : Prop := Same (Hx p H) (Hx p H')
theorem SameX.of {p : Addr} {H H' : Hp} (h : ∀ b o, b ≠ p → H b = some o → H' b = some o) : SameX p H H' := fun b o e => by
 by_cases hb : b = p
 ·subst hb
  rw [Hx.self] at e
  cases e
 ·rw [Hx.ne hb] at e ⊢
  exact h b o hb e
theorem SameX.at {p b : Addr} {H H' : Hp} {o : HO} (h : SameX p H H') (hb : b ≠ p) (e : H b = some o) : H' b = some o := by
 have q := h b o (by rw [Hx.ne hb]; exact e)
 rw [Hx.ne hb] at q
 exact q
theorem SameX.same {p : Addr} {H H' : Hp} (h : Same H H') : SameX p H H' := .of fun b o _ e => h b o e
structure BagAt (H : Hp) (p l : Addr) : Prop where
 ex : ∃ (i rest seed : Int) (ns : List Int), H p = some (.lst [.ref l, .int i, .int rest, .int seed]) ∧ H l = some (.lst (ns.map V.int)) ∧ 0 ≤ i ∧ 0 ≤ rest ∧ 0 ≤ seed ∧ seed < 2147483647
theorem BagAt.to {H H' : Hp} {p l : Addr} (B : BagAt H p l) (h : Same H H') : BagAt H' p l := by
 obtain ⟨i, r, s, ns, a, b, c⟩ := B.ex
 exact ⟨i, r, s, ns, h _ _ a, h _ _ b, c⟩
def j5 (K : Frag) : Sp := fun vs H Q _ => ∃ (a : Addr) (ns : List Int), vs = [.ref a] ∧ SqL K H a (ns.map V.int) ∧ ∀ p l H', H p = none → Same H H' → BagAt H' p l → Q (.ref p) H'
def gh : Sp := fun vs H Q _ => ∃ (p l : Addr) (n : Int), vs = [.ref p, .int n] ∧ BagAt H p l ∧ 0 < n ∧ n < 2 ^ 100 ∧ ∀ (r : Int) H', 0 ≤ r → r < n → SameX p H H' → BagAt H' p l → Q (.int r) H'
def SqA (K : Frag) (H : Hp) (a : Addr) (xs : List V) : Prop := SqL K H a xs ∨ SqT K H a xs
theorem SqA.to {K : Frag} {H H' : Hp} {a : Addr} {xs : List V} (e : Same H H') (h : SqA K H a xs) : SqA K H' a xs := h.elim (fun h => .inl (e.seq h)) fun h => .inr (Same.tup e h)
inductive Tg | list | tuple | dict | bool | int | str
def Tg.nm : Tg → String
 | .list => "list" | .tuple => "tuple" | .dict => "dict" | .bool => "bool" | .int => "int" | .str => "str"
def tyD : PyData → String
 | .none => "NoneType" | .bool _ => "bool" | .int _ => "int" | .str _ => "str" | .list _ => "list" | .tuple _ => "tuple" | .dict _ => "dict"
def isT : Tg → PyData → Bool
 | .list, .list _ => true
 | .tuple, .tuple _ => true
 | .dict, .dict _ => true
 | .bool, .bool _ => true
 | .int, .bool _ => true
 | .int, .int _ => true
 | .str, .str _ => true
 | _, _ => false
theorem SqL.ty {K : Frag} {H : Hp} {a : Addr} {xs : List V} (h : SqL K H a xs) : TyX K H (.ref a) (.type "list") := by
 rcases h with (h | ⟨o, h⟩) | ⟨o, its, n, h1, h2, _⟩
 ·exact .base (.lst h)
 ·exact .base (.frz h)
 ·exact .kList h1 h2
theorem SqT.ty {K : Frag} {H : Hp} {a : Addr} {xs : List V} (h : SqT K H a xs) : TyX K H (.ref a) (.type "tuple") := by
 rcases h with (h | ⟨o, h⟩) | ⟨o, its, n, h1, h2, _⟩
 ·exact .base (.tup h)
 ·exact .fTuple h
 ·exact .kTuple h1 h2
theorem Dp.ty {K : Frag} {H : Hp} {v : V} {d : PyData} (h : Dp K H v d) : TyX K H v (.type (tyD d)) := by
 cases h with
 | non => exact .base .non
 | bl b => exact .base (.bl b)
 | int i => exact .base (.int i)
 | str x => exact .base (.str x)
 | lst h _ => exact SqL.ty h
 | tup h _ => exact SqT.ty h
section
variable {X : Cx}
end
def gi : PyData → List PyData
 | .list ds => ds
 | .tuple ds => ds
 | _ => []
def Fit : Nat → PyData → Prop
 | 0, _ => False
 | n + 1, d => (gi d).length ≤ 1000000 ∧ ∀ e ∈ gi d, Fit n e
theorem Fit.mono : ∀ {n m : Nat} {d : PyData}, Fit n d → n ≤ m → Fit m d
 | 0, _, _, h, _ => h.elim
 | n + 1, 0, _, _, h => by omega
 | n + 1, m + 1, d, h, l => ⟨h.1, fun e he => Fit.mono (h.2 e he) (by omega)⟩
theorem Dp.seq {K : Frag} {H : Hp} {v : V} {d : PyData} (h : Dp K H v d) (e : (isT .list d || isT .tuple d) = true) : ∃ a xs, v = .ref a ∧ SqA K H a xs ∧ DpAll K H xs (gi d) := by
 cases h with
 | lst hs ha => exact ⟨_, _, rfl, .inl hs, ha⟩
 | tup hs ha => exact ⟨_, _, rfl, .inr hs, ha⟩
 | non => cases e
 | bl b => cases e
 | int i => cases e
 | str x => cases e
theorem ls {c : Bool} {A B : Prop} (h1 : c = true → A) (h2 : c = false → B) : if c = true then A else B := by
 cases c with
 | true => exact iteT (h1 rfl)
 | false => exact iteF (h2 rfl)
theorem iw {c : Bool} {A B : Prop} (e : c = true) (h : A) : if c = true then A else B := by
 rw [if_pos e]
 exact h
theorem kC {c : Bool} {A B : Prop} (e : c = false) (h : B) : if c = true then A else B := by
 rw [e]
 exact iteF h
def Imm (H H' : Hp) : Prop := ∀ b xs, Rd H b (.tup xs) → Rd H' b (.tup xs)
theorem Imm.refl (H : Hp) : Imm H H := fun _ _ h => h
theorem Imm.trans {H H1 H2 : Hp} (a : Imm H H1) (b : Imm H1 H2) : Imm H H2 := fun c o h => b c o (a c o h)
theorem Imm.same {H H' : Hp} (s : Same H H') : Imm H H' := fun b xs h => by
 rcases h with h | ⟨o, h⟩
 ·exact .inl (s _ _ h)
 ·exact .inr ⟨o, s _ _ h⟩
theorem Imm.upd {H : Hp} {D : Addr} {acc : List V} {o : HO} (h : H D = some (.lst acc)) : Imm H (L2.upd H D o) := fun b xs e => by
 have ne : b ≠ D := fun z => by
  subst z
  rcases e with e | ⟨o, e⟩ <;> rw [h] at e <;> cases e
 unfold L2.Rd at e ⊢
 rw [upd_ne ne]
 exact e
theorem Imm.bag {p l : Addr} {H H' : Hp} (s : SameX p H H') (B : BagAt H p l) : Imm H H' := fun b xs e => by
 obtain ⟨i, r, sd, ns, hp, _⟩ := B.ex
 have ne : b ≠ p := fun z => by
  subst z
  rcases e with e | ⟨o, e⟩ <;> rw [hp] at e <;> cases e
 rcases e with e | ⟨o, e⟩
 ·exact .inl (s.at ne e)
 ·exact .inr ⟨o, s.at ne e⟩
mutual
def noL : PyData → Bool
 | .list _ => false
 | .tuple ds => noLs ds
 | .dict _ => false
 | _ => true
def noLs : List PyData → Bool
 | [] => true
 | d :: ds => noL d && noLs ds
end
theorem Imm.tup {K : Frag} {H H' : Hp} {a : Addr} {xs : List V} (e : Imm H H') (h : SqT K H a xs) : SqT K H' a xs := by
 rcases h with h | h
 ·exact .inl (e _ _ h)
 ·exact .inr h
mutual
theorem Dp.imm {K : Frag} {H H' : Hp} (e : Imm H H') : ∀ {v : V} {d : PyData}, noL d = true → Dp K H v d → Dp K H' v d
 | _, _, _, .non => .non
 | _, _, _, .bl b => .bl b
 | _, _, _, .int i => .int i
 | _, _, _, .str x => .str x
 | _, _, n, .lst h a => by cases n
 | _, _, n, .tup h a => .tup (Imm.tup e h) (DpAll.imm e n a)
theorem DpAll.imm {K : Frag} {H H' : Hp} (e : Imm H H') : ∀ {vs : List V} {ds : List PyData}, noLs ds = true → DpAll K H vs ds → DpAll K H' vs ds
 | _, _, _, .nil => .nil
 | _, _, n, .cons h t => by
  have n' := Bool.and_eq_true_iff.mp n
  exact .cons (Dp.imm e n'.1 h) (DpAll.imm e n'.2 t)
end
theorem BagAt.ne {H : Hp} {p l D : Addr} (B : BagAt H p l) (h : H D = none) : D ≠ p := fun z => by
 obtain ⟨i, r, sd, ns, hp, _⟩ := B.ex
 rw [z, hp] at h
 cases h
theorem bP {K : Frag} {H : Hp} {a : Addr} {xs : List V} (h : H a = some (.lst xs)) : SqL K H a xs := .inl (.inl h)
theorem mH (xs : List V) (n : Nat) : cutV xs none (some (n : Int)) = xs.take n := by
 unfold cutV
 rw [HT.sIx_none, HT.sIx_nat]
 show List.take (min n xs.length - 0) xs = _
 rw [Nat.sub_zero]
 by_cases h : n ≤ xs.length
 ·rw [Nat.min_eq_left h]
 ·rw [Nat.min_eq_right (by omega), List.take_of_length_le (Nat.le_refl _), List.take_of_length_le (by omega)]
def ix (K : Frag) : Sp := fun vs H Q _ => ∃ (a : Addr) (ns : List Int), vs = [.ref a] ∧ SqL K H a (ns.map V.int) ∧ ns.length ≤ 63 ∧ ∀ H', Q (.bl true) H'
abbrev dD (x : Str) (st : Stmt) : He.DefD := ⟨(x, none), x, x, defArgs st, defBody st, defScope st, [], []⟩
theorem dO {fa : List He.Fa} {fn : List He.DefD} {K : Frag} {h : Heap} {mg : Str → Option Value} (X : K.In h) (G : h.Ns mainGlobals mg) (c : He.SaysD fa fn K) (i j : Nat) (x : Str) (st : Stmt) (hi : fn[i]? = some (dD x st)) (hj : fa[j]? = some (.glo x)) : Gs K mg x st := by
 obtain ⟨fd, F⟩ := c.def_ i hi
 exact ⟨_, fd, He.glo_ok X G (c.fact j hj), F⟩
theorem aK {fa : List He.Fa} {fn : List He.DefD} {K : Frag} {h : Heap} {mg : Str → Option Value} (X : K.In h) (G : h.Ns mainGlobals mg) (c : He.SaysD fa fn K) (j : Nat) (x : Str) (hj : fa[j]? = some (.free x)) : mg x = none := He.free_ok X G (c.fact j hj)
def top (i : Nat) : Stmt := PySem.Challenge.pw_framesure_k24_answers_and_their_texts.main.body.getD i (.Pass ⟨0, 0, 0, 0⟩)
section
open PySem.Froz
def TxR (P : Program) (w : World) (h : Heap) (a : Addr) (l : List Str) : Prop :=
 ∃ (es : Array (Int × Value)) (ep : Nat) (t : SetTable), h.get? a = some (sObj "set" (es, ep, t)) ∧ TxOk P w (es, ep, t) l ∧ Ris t.place.toList ∧ (w.params.followText "set-order" = true ∨ t.led = true)
theorem TxR.at {P : Program} {w : World} {h h' : Heap} {a : Addr} {l : List Str} (R : TxR P w h a l) (k : ∀ o, h.get? a = some o → h'.get? a = some o) : TxR P w h' a l := by
 obtain ⟨es, ep, t, ho, r⟩ := R
 exact ⟨es, ep, t, k _ ho, r⟩
section
variable {P : Program} {w : World} {A : Around} {E : Value → Shared → Prop} {s : Shared}
end
section
variable {prog : Program} {w : World} {A : Around} {R : Result → Shared → Prop} {I : Addr} {fp wr : List Addr} {G : Array GenState → Array GenState → Prop} {n : Nat} {P : Nat → Value → Prop} {St : Nat → Shared → Prop}
end
section
variable {prog : Program} {w : World} {A : Around} {E : Value → Shared → Prop} {s : Shared}
set_option maxHeartbeats 3200000 in
end
end
section
open PySem.Froz
section
variable {X : Cx}
end
end
abbrev bF : Stmt := top 6
abbrev gj : List Str := ["_law_script", "_law_salt", "_law_cell"]
abbrev cx : List Str := ["_law_script"]
abbrev br : Stmt := top 7
abbrev fE : List Str := ["_law_bag_here", "_law_amount", "_law_cell", "_law_got", "_law_seed"]
abbrev aU : List Str := ["_law_bag_here", "_law_amount"]
theorem bu : FnScope gj cx (defScope bF) := ⟨rfl, rfl, rfl, by decide +kernel, rfl, by decide +kernel, by decide +kernel⟩
section
variable {P : Program} {w : World} {K : Frag} {mg : Str → Option Value} {base : Heap}
theorem fF (G : Gs K mg "_law_bag" bF) (mint : mg "int" = none) (mlist : mg "list" = none) : Gd P w K mg base CX0 1 "_law_bag" cx (j5 K) := by
 refine G.ok bu (fun vs H Q E h => ?_) (fun _ _ _ _ _ _ us hl => match us, hl with | [_], _ => rfl) (fun f cdv A outer s H vs Q E hr h => ?_)
 ·obtain ⟨a, ns, rfl, _⟩ := h
  rfl
 obtain ⟨a, ns, rfl, hS, q⟩ := h
 refine ⟨_, pss_cons (ps_set (i := 1) bu.nd rfl (.inl rfl) pe_int)
  (pss_cons (ps_for PassesOwn.never rfl (pi_list (pe_slice sl_list (pv 0) po_none (po_some pe_int))) (pg_name (i := 2) bu.nd rfl (.inl rfl))
   (pss_one (ps_set (i := 1) bu.nd rfl (.inl rfl) (pe_op op_mod (pe_op op_add (pe_op op_add (pe_op op_mul (pv 1) pe_int) (pe_op op_mod (pe_callTy call_int1 (by rfl) mint (by decide +kernel) (pa_cons (pv 2) pa_nil)) pe_int)) pe_int) pe_int))))
  (pss_one (ps_ret (pe_lst (pa_cons (pe_callTy call_list_of (by rfl) mlist (by decide +kernel) (pa_cons (pe_slice sl_list (pv 0) po_none (po_some pe_int)) pa_nil)) (pa_cons pe_int (pa_cons pe_int (pa_cons (pv 1) pa_nil)))))))), ?_⟩
 refine ⟨_, rfl, _, rfl, a, _, rfl, hS, fun c nc => ?_⟩
 have e63 : cutV (ns.map V.int) none (some 63) = (ns.take 63).map V.int := by
  rw [show (63 : Int) = ((63 : Nat) : Int) from rfl, mH, List.map_take]
 rw [e63]
 refine ⟨c, rfl, ⟨_, bP upd_same⟩, for_list (K := K) (a := c) (xs := (ns.take 63).map V.int)
  (fun i σ H' => ∃ (salt : Int) (v : Option V), σ = [some (.ref a), some (.int salt), v] ∧ 0 ≤ salt ∧ salt < 2147483647 ∧ Same (upd H c (.lst ((ns.take 63).map V.int))) H')
  ⟨3841, none, rfl, by decide, by decide, Same.refl _⟩ (fun i σ H' _ ⟨_, _, _, _, _, s1⟩ => bP (s1 _ _ upd_same)) ?_ ?_⟩
 ·rintro i x σ H' hi ⟨salt, v, rfl, h0, h1, s1⟩
  obtain ⟨z, hz, rfl⟩ : ∃ z, (ns.take 63)[i]? = some z ∧ x = V.int z := by
   rw [List.getElem?_map] at hi
   cases e : (ns.take 63)[i]? with
   | none =>
    rw [e] at hi
    cases hi
   | some z =>
    rw [e] at hi
    exact ⟨z, rfl, (Option.some.inj hi).symm⟩
  refine ⟨_, rfl, _, _, rfl, rfl, .inl ⟨by omega, by omega⟩, _, rfl, .inl ⟨_, rfl, _, _, rfl, rfl, (by show (0 : Int) < _; decide), _, _, rfl, rfl, _, _, rfl, rfl, _, _, rfl, rfl, (by show (0 : Int) < _; decide), _, _, rfl, ?_, ?_, s1⟩⟩
  ·omega
  ·omega
 ·rintro σ H' ⟨salt, v, rfl, h0, h1, s1⟩
  refine ⟨_, rfl, _, rfl, a, _, rfl, (av nc _ |>.trans s1).seq hS, fun d nd => ?_⟩
  refine ⟨d, _, rfl, .inl (bP upd_same), fun l nl => ?_⟩
  refine ⟨_, rfl, (by show 4 ≤ sizeLine; decide), fun p np => ?_⟩
  have s2 : Same H' (upd (upd (upd H' d (.lst (cutV (ns.map V.int) none (some 63)))) l (.lst (cutV (ns.map V.int) none (some 63)))) p (.lst [.ref l, .int 0, .int 0, .int salt])) := (av nd _).trans ((av nl _).trans (av np _))
  have s3 := (av nc (.lst ((ns.take 63).map V.int))).trans (s1.trans s2)
  refine q p l _ ?_ s3 ⟨0, 0, salt, ns.take 63, upd_same, ?_, by decide, by decide, h0, h1⟩
  ·have z := ((av nc _).trans (s1.trans ((av nd _).trans (av nl _)))).free np
   exact z
  ·rw [← e63, upd_ne (ne_of_none upd_same np), upd_same]
theorem bf : FnScope fE aU (defScope br) := ⟨rfl, rfl, rfl, by decide +kernel, rfl, by decide +kernel, by decide +kernel⟩
theorem eV (G : Gs K mg "_law_pull" br) (mint : mg "int" = none) (mlen : mg "len" = none) : Gd P w K mg base CX0 1 "_law_pull" aU gh := by
 refine G.ok bf (fun vs H Q E h => ?_) (fun _ _ _ _ _ _ us hl => match us, hl with | [_, _], _ => rfl) (fun f cdv A outer s H vs Q E hr h => ?_)
 ·obtain ⟨p, l, n, rfl, _⟩ := h
  rfl
 obtain ⟨p, l, n, rfl, B, n0, n1, q⟩ := h
 refine ⟨_, pss_cons (ps_if (PW.pt (pw_and (pt_cmpR op_eq (pe_ix ix_list (pv 0) pe_int (fun _ _ => rfl)) pe_int (nomark _)) (pw_and1 (pt_cmpR op_lt (pe_ix ix_list (pv 0) pe_int (fun _ _ => rfl)) (pe_callB call_len_seq (by rfl) mlen PySem.boot_len (pa_cons (pe_ix ix_list (pv 0) pe_int (fun _ _ => rfl)) pa_nil)) (nomark _)))))
   (pss_cons (ps_set (i := 2) bf.nd rfl (.inl rfl) (pe_ix ix_list (pe_ix ix_list (pv 0) pe_int (fun _ _ => rfl)) (pe_ix ix_list (pv 0) pe_int (fun _ _ => rfl)) (fun _ _ => rfl)))
   (pss_cons (ps_asg (pe_op op_add (pe_ix ix_list (pv 0) pe_int (fun _ _ => rfl)) pe_int) (pg_sub (pv 0) pe_int set_list))
   (pss_one (ps_if (pt_cmpR op_ge (pv 2) (pe_op op_pow pe_int pe_int) (nomark _))
    (pss_one (ps_asg (pv 2) (pg_sub (pv 0) pe_int set_list)))
    (pss_one (ps_asg (pe_op op_mod (pe_op op_add (pe_op op_add (pe_op op_mul (pe_ix ix_list (pv 0) pe_int (fun _ _ => rfl)) pe_int) (pe_op op_mul (pe_op op_mod (pe_callTy call_int1 (by rfl) mint (by decide +kernel) (pa_cons (pv 2) pa_nil)) pe_int) pe_int)) pe_int) pe_int) (pg_sub (pv 0) pe_int set_list)))))))
   pss_nil)
  (pss_cons (ps_if (pt_cmpR op_gt (pe_ix ix_list (pv 0) pe_int (fun _ _ => rfl)) pe_int (nomark _))
   (pss_cons (ps_set (i := 3) bf.nd rfl (.inl rfl) (pe_op op_mod (pe_callTy call_int1 (by rfl) mint (by decide +kernel) (pa_cons (pe_ix ix_list (pv 0) pe_int (fun _ _ => rfl)) pa_nil)) (pv 1)))
   (pss_cons (ps_asg (pe_op op_fdivW (pe_ix ix_list (pv 0) pe_int (fun _ _ => rfl)) (pv 1)) (pg_sub (pv 0) pe_int set_list))
   (pss_one (ps_ret (pv 3))))) pss_nil)
  (pss_cons (ps_set (i := 4) bf.nd rfl (.inl rfl) (pe_ix ix_list (pv 0) pe_int (fun _ _ => rfl)))
  (pss_cons (ps_asg (pe_op op_mod (pe_op op_add (pe_op op_add (pe_op op_mul (pv 4) (pv 4)) (pe_op op_mul (pv 4) pe_int)) pe_int) pe_int) (pg_sub (pv 0) pe_int set_list))
  (pss_one (ps_ret (pe_op op_mod (pe_op op_add (pe_op op_fdiv (pe_ix ix_list (pv 0) pe_int (fun _ _ => rfl)) pe_int) (pe_op op_mul (pe_op op_mod (pe_callTy call_int1 (by rfl) mint (by decide +kernel) (pa_cons (pe_ix ix_list (pv 0) pe_int (fun _ _ => rfl)) pa_nil)) pe_int) pe_int)) (pv 1))))))), ?_⟩
 obtain ⟨i, rest, seed, ns, hp, hl, hi, hrest, hs0, hs1⟩ := B.ex
 have npl : l ≠ p := ne_of hl hp (fun z => by
  injection z with z
  have z2 := congrArg List.length z
  cases ns with
  | nil => simp at z
  | cons x r =>
   rw [List.map_cons] at z
   injection z with z _
   cases z)
 have a0 : ∀ {x y z u : V}, atI [x, y, z, u] 0 = some x := rfl
 have a1 : ∀ {x y z u : V}, atI [x, y, z, u] 1 = some y := rfl
 have a2 : ∀ {x y z u : V}, atI [x, y, z, u] 2 = some z := rfl
 have a3 : ∀ {x y z u : V}, atI [x, y, z, u] 3 = some u := rfl
 refine jz (fun σ' H' => ∃ (i rest seed : Int) (v : Option V), σ' = [some (.ref p), some (.int n), v, none, none] ∧ SameX p H H' ∧ H' p = some (.lst [.ref l, .int i, .int rest, .int seed]) ∧ 0 ≤ i ∧ 0 ≤ rest ∧ 0 ≤ seed ∧ seed < 2147483647) (fun N hN => ?_) ?_
 ·have done : N (start ["_law_bag_here", "_law_amount", "_law_cell", "_law_got", "_law_seed"] [V.ref p, V.int n]) H := hN _ _ ⟨i, rest, seed, none, rfl, Same.refl _, hp, hi, hrest, hs0, hs1⟩
  refine ⟨_, rfl, p, _, _, _, rfl, rfl, bP hp, a2, rfl, _, rfl, ?_⟩
  by_cases c : V.int rest = V.int 0
  ·rw [decide_eq_true c]
   refine iteT ?_
   refine ⟨_, rfl, p, _, _, _, rfl, rfl, bP hp, a1, _, rfl, p, _, _, _, rfl, rfl, bP hp, a0, l, _, rfl, .inl (bP hl), _, _, rfl, rfl, _, rfl, ?_⟩
   by_cases c2 : i < ((ns.map V.int).length : Int)
   ·rw [decide_eq_true c2]
    refine iteT ?_
    rw [List.length_map] at c2
    have hk : i.toNat < ns.length := by omega
    have ek : i = ((i.toNat : Nat) : Int) := by omega
    have ai : atI (ns.map V.int) i = some (.int ns[i.toNat]) := by
     have z := eB (xs := ns.map V.int) hi (by rw [List.length_map]; exact hk)
     rw [List.getElem_map] at z
     exact z
    -- the cell, the place
    refine ⟨_, rfl, p, _, _, _, rfl, rfl, bP hp, a0, _, rfl, p, _, _, _, rfl, rfl, bP hp, a1, l, _, _, _, rfl, rfl, bP hl, ai, ?_⟩
    refine ⟨_, rfl, p, _, _, _, rfl, rfl, bP hp, a1, _, _, rfl, rfl, _, rfl, p, _, _, _, rfl, rfl, hp, rfl, ?_⟩
    -- if cell >= 10 ** 18
    refine ⟨_, rfl, _, _, rfl, rfl, ⟨by decide, by decide, by decide⟩, _, _, rfl, rfl, _, rfl, ?_⟩
    refine ite2 (fun c3 => ?_) (fun c3 => ?_)
    ·have c3' := of_decide_eq_true c3
     refine ⟨_, rfl, _, rfl, p, _, _, _, rfl, rfl, upd_same, rfl, ?_⟩
     refine hN _ _ ⟨i + 1, ns[i.toNat], seed, some (.int ns[i.toNat]), rfl, .of fun b o hb e => ?_, upd_same, by omega, ?_, hs0, hs1⟩
     ·rw [upd_ne hb, upd_ne hb]
      exact e
     ·exact Int.le_trans (by decide) c3'
    ·refine ⟨_, rfl, p, _, _, _, rfl, rfl, bP upd_same, a3, _, _, rfl, rfl, .inl ⟨by omega, by omega⟩, _, rfl, .inl ⟨_, rfl, _, _, rfl, rfl, (by show (0 : Int) < _; decide), _, _, rfl, rfl, .inr ⟨by decide, by decide⟩, _, _, rfl, rfl, _, _, rfl, rfl, _, _, rfl, rfl, (by show (0 : Int) < _; decide), _, rfl, p, _, _, _, rfl, rfl, upd_same, rfl, ?_⟩⟩
     refine hN _ _ ⟨i + 1, rest, _, some (.int ns[i.toNat]), rfl, .of fun b o hb e => ?_, upd_same, by omega, hrest, Int.emod_nonneg _ (by decide), Int.emod_lt_of_pos _ (by decide)⟩
     rw [upd_ne hb, upd_ne hb]
     exact e
   ·rw [decide_eq_false c2]
    exact iteF done
  ·rw [decide_eq_false c]
   exact iteF done
 ·rintro σ' H' ⟨i, rest, seed, v, rfl, sx, hp, hi, hrest, hs0, hs1⟩
  have hl' := sx.at npl hl
  have fin : ∀ (i rest seed : Int) (H2 : Hp), (∀ b o, b ≠ p → H' b = some o → H2 b = some o) → H2 p = some (.lst [.ref l, .int i, .int rest, .int seed]) → 0 ≤ i → 0 ≤ rest → 0 ≤ seed → seed < 2147483647 → SameX p H H2 ∧ BagAt H2 p l := fun i rest seed H2 k e h0 h1 h2 h3 =>
   ⟨sx.trans (SameX.of k), ⟨i, rest, seed, ns, e, k _ _ npl hl', h0, h1, h2, h3⟩⟩
  refine ⟨_, rfl, p, _, _, _, rfl, rfl, bP hp, a2, _, _, rfl, rfl, _, rfl, ?_⟩
  refine ite2 (fun c => ?_) (fun c => ?_)
  ·refine ⟨_, rfl, p, _, _, _, rfl, rfl, bP hp, a2, .inl ⟨_, rfl, _, rfl, _, _, rfl, rfl, n0, ?_⟩⟩
   refine ⟨_, rfl, p, _, _, _, rfl, rfl, bP hp, a2, _, rfl, _, _, rfl, rfl, wide_div n0 (b := 100) (by omega) (by decide) (by decide), _, rfl, p, _, _, _, rfl, rfl, hp, rfl, _, rfl, ?_⟩
   obtain ⟨x1, x2⟩ := fin i (rest / n) seed (upd H' p (.lst [.ref l, .int i, .int (rest / n), .int seed])) (fun b o hb e => by rw [upd_ne hb]; exact e) upd_same hi (Int.ediv_nonneg hrest (by omega)) hs0 hs1
   exact q _ _ (Int.emod_nonneg _ (by omega)) (Int.emod_lt_of_pos _ n0) x1 x2
  ·refine ⟨_, rfl, p, _, _, _, rfl, rfl, bP hp, a3, ?_⟩
   refine ⟨_, rfl, _, rfl, _, _, rfl, rfl, .inl ⟨by omega, by omega⟩, _, rfl, _, _, rfl, rfl, .inr ⟨by decide, by decide⟩, _, _, rfl, rfl, _, _, rfl, rfl, _, _, rfl, rfl, (by show (0 : Int) < _; decide), _, rfl, p, _, _, _, rfl, rfl, hp, rfl, ?_⟩
   refine ⟨_, rfl, p, _, _, _, rfl, rfl, bP upd_same, a3, _, _, rfl, rfl, ⟨by decide, by decide⟩, _, rfl, p, _, _, _, rfl, rfl, bP upd_same, a3, .inl ⟨_, rfl, _, _, rfl, rfl, (by show (0 : Int) < _; decide), _, _, rfl, rfl, .inr ⟨by decide, by decide⟩, _, _, rfl, rfl, _, rfl, _, _, rfl, rfl, n0, ?_⟩⟩
   obtain ⟨x1, x2⟩ := fin i rest ((seed * seed + seed * 48271 + 1013904223) % 2147483647) (upd H' p (.lst [.ref l, .int i, .int rest, .int ((seed * seed + seed * 48271 + 1013904223) % 2147483647)])) (fun b o hb e => by rw [upd_ne hb]; exact e) upd_same hi hrest (Int.emod_nonneg _ (by decide)) (Int.emod_lt_of_pos _ (by decide))
   exact q _ _ (Int.emod_nonneg _ (by omega)) (Int.emod_lt_of_pos _ n0) x1 x2
end
inductive D where
 | non | bl (b : Bool) | int (i : Int) | str (x : Str) | ty (n : String) | fn (a : Addr)
 | tup (xs : List D) | lst (xs : List D) | dic (kvs : List (Key × D)) | obj (C : Addr) (fs : List (Str × D)) | exc (C : Addr) (fs : List (Str × D)) | lam (os : List (Addr × Obj)) (c : Addr) (q : Str)
def mI (a : Addr) (o : Obj) : HO := .ext fun h => h.get? a = some o
inductive W where
 | v (d : D) | loc (n : Nat)
inductive MO where
 | lst (xs : List D) | dic (kvs : List (Key × D)) | ins (C : Addr) (fs : List (Str × W)) | bag | tab (p : Addr) (q : Str) | gone
def MO.live : MO → Bool
 | .gone => false
 | _ => true
abbrev En := List (Option W)
abbrev Me := List MO
structure Er where
 C : Addr
 fs : List (Str × D)
def fG : Key → Prop
 | .inl _ => True
 | .inr x => PySem.PyData.strOk x = true
def TqT (K : Frag) (B : Hp) (a : Addr) (xs : List V) : Prop :=
 B a = some (.tup xs) ∨ ∃ (o : Obj) (its : Array Value) (n : Nat), K.lookup a = some o ∧ o.cls = .type "tuple" ∧ o.data = .seq its n ∧ its.size ≤ sizeLine ∧ Vals xs its.toList
theorem TqT.sq {K : Frag} {B : Hp} {a : Addr} {xs : List V} (h : TqT K B a xs) : SqT K B a xs := h.elim (fun e => .inl (.inl e)) .inr
theorem TqT.to {K : Frag} {B B' : Hp} (e : Same B B') {a : Addr} {xs : List V} (h : TqT K B a xs) : TqT K B' a xs := h.elim (fun z => .inl (e _ _ z)) .inr
mutual
inductive Rv (K : Frag) (B : Hp) : V → D → Prop
 | non : Rv K B .non .non
 | bl (b : Bool) : Rv K B (.bl b) (.bl b)
 | int (i : Int) : Rv K B (.int i) (.int i)
 | str {x : Str} : PySem.PyData.strOk x = true → Rv K B (.str x) (.str x)
 | ty (n : String) : Rv K B (.ty n) (.ty n)
 | fn (a : Addr) : Rv K B (.ref a) (.fn a)
 | tup {a : Addr} {xs : List V} {ds : List D} : TqT K B a xs → RvL K B xs ds → Rv K B (.ref a) (.tup ds)
 | lst {a : Addr} {xs : List V} {ds : List D} : B a = some (.lst xs) → RvL K B xs ds → Rv K B (.ref a) (.lst ds)
 | dic {a : Addr} {od : Obj} {xs : List (Key × V)} {ds : List (Key × D)} : B a = some (.frz od (.dK xs)) → RvK K B xs ds → Rv K B (.ref a) (.dic ds)
 | obj {a C dx : Addr} {xs : List (Str × V)} {ds : List (Str × D)} : B a = some (.ins C dx xs) → RvF K B xs ds → Rv K B (.ref a) (.obj C ds)
 | exc {a C dx : Addr} {xs : List (Str × V)} {ds : List (Str × D)} : B a = some (exo a C (some dx)) → B dx = some (exd dx xs) → RvF K B xs ds → Rv K B (.ref a) (.exc C ds)
 | lam {f c : Addr} {ob : Obj} {r : List (Addr × Obj)} {q : Str} : (B c = some (LamX.CodeO c q) ∧ ∀ p ∈ (f, ob) :: r, B p.1 = some (mI p.1 p.2)) → Rv K B (.ref f) (.lam ((f, ob) :: r) c q)
inductive RvL (K : Frag) (B : Hp) : List V → List D → Prop
 | nil : RvL K B [] []
 | cons {v : V} {vs : List V} {d : D} {ds : List D} : Rv K B v d → RvL K B vs ds → RvL K B (v :: vs) (d :: ds)
inductive RvK (K : Frag) (B : Hp) : List (Key × V) → List (Key × D) → Prop
 | nil : RvK K B [] []
 | cons {k : Key} {v : V} {vs : List (Key × V)} {d : D} {ds : List (Key × D)} : fG k → Rv K B v d → RvK K B vs ds → RvK K B ((k, v) :: vs) ((k, d) :: ds)
inductive RvF (K : Frag) (B : Hp) : List (Str × V) → List (Str × D) → Prop
 | nil : RvF K B [] []
 | cons {k : Str} {v : V} {vs : List (Str × V)} {d : D} {ds : List (Str × D)} : Rv K B v d → RvF K B vs ds → RvF K B ((k, v) :: vs) ((k, d) :: ds)
end
def Le (B H : Hp) : Prop := ∀ a o, B a = some o → H a = some o
theorem Le.refl (B : Hp) : Le B B := fun _ _ h => h
theorem Le.of {B H : Hp} (h : Same B H) : Le B H := h
theorem Le.same {B B' H : Hp} (s : Same B B') (h : Le B' H) : Le B H := fun a o e => h a o (s a o e)
theorem Le.rd {B H : Hp} (h : Le B H) {a : Addr} {u : HO} (r : Rd B a u) : Rd H a u := r.elim (fun r => .inl (h _ _ r)) fun ⟨o, r⟩ => .inr ⟨o, h _ _ r⟩
theorem Le.seq {K : Frag} {B H : Hp} (h : Le B H) {a : Addr} {xs : List V} (r : SqL K B a xs) : SqL K H a xs := r.elim (fun r => .inl (h.rd r)) .inr
theorem Le.tup {K : Frag} {B H : Hp} (h : Le B H) {a : Addr} {xs : List V} (r : TqT K B a xs) : SqT K H a xs := r.elim (fun r => .inl (.inl (h _ _ r))) .inr
theorem Le.ins {B H : Hp} (h : Le B H) {a C dx : Addr} {xs : List (Str × V)} (r : B a = some (.ins C dx xs)) : H a = some (.ins C dx xs) := h _ _ r
theorem Le.some {B H : Hp} (h : Le B H) {a : Addr} {o : HO} (r : B a = some o) : H a ≠ none := by
 rw [h _ _ r]
 exact fun z => nomatch z
theorem Same.rd {B H : Hp} (h : Same B H) {a : Addr} {u : HO} (r : Rd B a u) : Rd H a u := r.elim (fun r => .inl (h _ _ r)) fun ⟨o, r⟩ => .inr ⟨o, h _ _ r⟩
mutual
theorem Rv.to {K : Frag} {B B' : Hp} (e : Same B B') : ∀ {v : V} {d : D}, Rv K B v d → Rv K B' v d
 | _, _, .non => .non
 | _, _, .bl b => .bl b
 | _, _, .int i => .int i
 | _, _, .str h => .str h
 | _, _, .ty n => .ty n
 | _, _, .fn a => .fn a
 | _, _, .tup h a => .tup (TqT.to e h) (RvL.to e a)
 | _, _, .lst h a => .lst (e _ _ h) (RvL.to e a)
 | _, _, .dic h a => .dic (e _ _ h) (RvK.to e a)
 | _, _, .obj h a => .obj (e _ _ h) (RvF.to e a)
 | _, _, .exc h g a => .exc (e _ _ h) (e _ _ g) (RvF.to e a)
 | _, _, .lam h => .lam ⟨e _ _ h.1, fun p hp => e _ _ (h.2 p hp)⟩
theorem RvL.to {K : Frag} {B B' : Hp} (e : Same B B') : ∀ {vs : List V} {ds : List D}, RvL K B vs ds → RvL K B' vs ds
 | _, _, .nil => .nil
 | _, _, .cons h t => .cons (Rv.to e h) (RvL.to e t)
theorem RvK.to {K : Frag} {B B' : Hp} (e : Same B B') : ∀ {vs : List (Key × V)} {ds : List (Key × D)}, RvK K B vs ds → RvK K B' vs ds
 | _, _, .nil => .nil
 | _, _, .cons k h t => .cons k (Rv.to e h) (RvK.to e t)
theorem RvF.to {K : Frag} {B B' : Hp} (e : Same B B') : ∀ {vs : List (Str × V)} {ds : List (Str × D)}, RvF K B vs ds → RvF K B' vs ds
 | _, _, .nil => .nil
 | _, _, .cons h t => .cons (Rv.to e h) (RvF.to e t)
end
theorem RvL.len {K : Frag} {H : Hp} : ∀ {vs : List V} {ds : List D}, RvL K H vs ds → vs.length = ds.length
 | _, _, .nil => rfl
 | _, _, .cons _ t => congrArg Nat.succ (RvL.len t)
theorem RvL.at {K : Frag} {H : Hp} : ∀ {vs : List V} {ds : List D} {i : Nat} {d : D}, RvL K H vs ds → ds[i]? = some d → ∃ v, vs[i]? = some v ∧ Rv K H v d
 | _, _, _, _, .nil, e => by simp at e
 | _, _, 0, d, .cons (v := v) h _, e => ⟨v, rfl, by simp at e; subst e; exact h⟩
 | _, _, i + 1, d, .cons _ t, e => by
  obtain ⟨v, h1, h2⟩ := RvL.at (i := i) (d := d) t (by simpa using e)
  exact ⟨v, by simpa using h1, h2⟩
theorem RvL.at' {K : Frag} {H : Hp} : ∀ {vs : List V} {ds : List D} {i : Nat} {v : V}, RvL K H vs ds → vs[i]? = some v → ∃ d, ds[i]? = some d ∧ Rv K H v d
 | _, _, _, _, .nil, e => by simp at e
 | _, _, 0, v, .cons (d := d) h _, e => ⟨d, rfl, by simp at e; subst e; exact h⟩
 | _, _, i + 1, v, .cons _ t, e => by
  obtain ⟨d, h1, h2⟩ := RvL.at' (i := i) (v := v) t (by simpa using e)
  exact ⟨d, by simpa using h1, h2⟩
theorem RvL.append {K : Frag} {H : Hp} : ∀ {vs us : List V} {ds es : List D}, RvL K H vs ds → RvL K H us es → RvL K H (vs ++ us) (ds ++ es)
 | _, _, _, _, .nil, r => r
 | _, _, _, _, .cons h t, r => .cons h (RvL.append t r)
theorem RvL.one {K : Frag} {H : Hp} {v : V} {d : D} (h : Rv K H v d) : RvL K H [v] [d] := .cons h .nil
theorem RvL.take {K : Frag} {H : Hp} : ∀ {vs : List V} {ds : List D} (n : Nat), RvL K H vs ds → RvL K H (vs.take n) (ds.take n)
 | _, _, 0, _ => by simp; exact .nil
 | _, _, _ + 1, .nil => by simp; exact .nil
 | _, _, n + 1, .cons h t => .cons h (RvL.take n t)
theorem RvL.drop {K : Frag} {H : Hp} : ∀ {vs : List V} {ds : List D} (n : Nat), RvL K H vs ds → RvL K H (vs.drop n) (ds.drop n)
 | _, _, 0, r => r
 | _, _, _ + 1, .nil => by simp; exact .nil
 | _, _, n + 1, .cons _ t => RvL.drop n t
theorem RvL.set {K : Frag} {H : Hp} {v : V} {d : D} (h : Rv K H v d) : ∀ {vs : List V} {ds : List D} (n : Nat), RvL K H vs ds → RvL K H (vs.set n v) (ds.set n d)
 | _, _, _, .nil => .nil
 | _, _, 0, .cons _ t => .cons h t
 | _, _, n + 1, .cons a t => .cons a (RvL.set h n t)
theorem RvK.len {K : Frag} {H : Hp} : ∀ {vs : List (Key × V)} {ds : List (Key × D)}, RvK K H vs ds → vs.length = ds.length
 | _, _, .nil => rfl
 | _, _, .cons _ _ t => congrArg Nat.succ (RvK.len t)
theorem RvF.look {K : Frag} {H : Hp} {f : Str} {d : D} : ∀ {vs : List (Str × V)} {ds : List (Str × D)}, RvF K H vs ds → ds.lookup f = some d → ∃ v, vs.lookup f = some v ∧ Rv K H v d
 | _, _, .nil, e => by simp at e
 | _, _, .cons (k := k) (v := v) (vs := vs) (d := d2) (ds := ds) h t, e => by
  rw [List.lookup_cons] at e ⊢
  cases q : f == k with
  | true => rw [q] at e; cases e; exact ⟨_, rfl, h⟩
  | false => rw [q] at e; exact RvF.look t e
def RW (K : Frag) (B : Hp) (μ : List Addr) : V → W → Prop
 | v, .v d => Rv K B v d
 | v, .loc n => ∃ a, v = .ref a ∧ μ[n]? = some a
inductive RWs (K : Frag) (B : Hp) (μ : List Addr) : List V → List W → Prop
 | nil : RWs K B μ [] []
 | cons {v : V} {vs : List V} {w : W} {ws : List W} : RW K B μ v w → RWs K B μ vs ws → RWs K B μ (v :: vs) (w :: ws)
inductive RWf (K : Frag) (B : Hp) (μ : List Addr) : List (Str × V) → List (Str × W) → Prop
 | nil : RWf K B μ [] []
 | cons {k : Str} {v : V} {vs : List (Str × V)} {w : W} {ws : List (Str × W)} : RW K B μ v w → RWf K B μ vs ws → RWf K B μ ((k, v) :: vs) ((k, w) :: ws)
structure BagB (B H : Hp) (p : Addr) : Prop where
 ex : ∃ (l : Addr) (i rest seed : Int) (ns : List Int), H p = some (.lst [.ref l, .int i, .int rest, .int seed]) ∧ B l = some (.lst (ns.map V.int)) ∧ 0 ≤ i ∧ 0 ≤ rest ∧ 0 ≤ seed ∧ seed < 2147483647
structure TabB (B H : Hp) (p : Addr) (q : Str) : Prop where
 ex : ∃ ps : Array Value, H p = some (.tbl ps) ∧ TriplesOk ps.toList ∧ ∀ (pos : Pos) (cv : Value), codeAmong pos ps.toList = some cv → ∃ c, cv = .ref c ∧ B c = some (LamX.CodeO c q)
def OO (K : Frag) (B : Hp) (μ : List Addr) (H : Hp) (a : Addr) : MO → Prop
 | .lst ds => ∃ vs, H a = some (.lst vs) ∧ RvL K B vs ds
 | .dic ds => ∃ vs, H a = some (.dK vs) ∧ RvK K B vs ds
 | .ins C fs => ∃ dx vs, H a = some (.ins C dx vs) ∧ RWf K B μ vs fs
 | .bag => BagB B H a
 | .tab p q => a = p ∧ TabB B H a q
 | .gone => True
def Live (μ : List Addr) (mem : List MO) (a : Addr) : Prop := ∃ (n : Nat) (m : MO), μ[n]? = some a ∧ mem[n]? = some m ∧ m.live = true
structure MemOk (K : Frag) (B : Hp) (μ : List Addr) (mem : List MO) (H : Hp) : Prop where
 le : Le B H
 len : μ.length = mem.length
 off : ∀ a, Live μ mem a → B a = none
 at_ : ∀ (n : Nat) (a : Addr) (m : MO), μ[n]? = some a → mem[n]? = some m → m.live = true → OO K B μ H a m
 inj : ∀ (n k : Nat) (a : Addr) (m m' : MO), μ[n]? = some a → μ[k]? = some a → mem[n]? = some m → mem[k]? = some m' → m.live = true → m'.live = true → n = k
 ntb : ∀ (a : Addr) (ps : Array Value), B a ≠ some (.tbl ps)
structure Rel (K : Frag) (B : Hp) (μ : List Addr) (env : En) (mem : Me) (σ : L2.St) (H : Hp) : Prop where
 mem : MemOk K B μ mem H
 len : σ.length = env.length
 env : ∀ (i : Nat) (x : W), env[i]? = some (some x) → ∃ v, σ[i]? = some (some v) ∧ RW K B μ v x
structure Stp (B : Hp) (μ : List Addr) (mem : List MO) (H : Hp) (B' : Hp) (μ' : List Addr) (mem' : List MO) (H' : Hp) : Prop where
 same : Same B B'
 pre : μ <+: μ'
 out : ∀ a o, ¬ Live μ mem a → H a = some o → (∀ ps, o ≠ .tbl ps) → H' a = some o
 hid : ∀ a o, ¬ Live μ mem a → H a = some o → ((∀ q, o ≠ LamX.CodeO a q) ∧ ∀ ps, o ≠ .tbl ps) → B a = none → B' a = none ∧ ¬ Live μ' mem' a
theorem Stp.refl {B : Hp} {μ : List Addr} {mem : List MO} {H : Hp} : Stp B μ mem H B μ mem H := ⟨Same.refl _, List.prefix_refl _, fun _ _ _ h _ => h, fun _ _ n _ _ b => ⟨b, n⟩⟩
theorem bG {μ μ' : List Addr} {n : Nat} {a : Addr} (h : μ <+: μ') (e : μ[n]? = some a) : μ'[n]? = some a := by
 obtain ⟨t, rfl⟩ := h
 rw [List.getElem?_append_left (List.getElem?_eq_some_iff.mp e).1]
 exact e
theorem RW.to {K : Frag} {B B' : Hp} {μ μ' : List Addr} (s : Same B B') (p : μ <+: μ') : ∀ {v : V} {w : W}, RW K B μ v w → RW K B' μ' v w
 | _, .v _, h => Rv.to s h
 | _, .loc _, ⟨a, e, h⟩ => ⟨a, e, bG p h⟩
theorem RWs.to {K : Frag} {B B' : Hp} {μ μ' : List Addr} (s : Same B B') (p : μ <+: μ') : ∀ {v : List V} {w : List W}, RWs K B μ v w → RWs K B' μ' v w
 | _, _, .nil => .nil
 | _, _, .cons h t => .cons (RW.to s p h) (RWs.to s p t)
theorem RWf.to {K : Frag} {B B' : Hp} {μ μ' : List Addr} (s : Same B B') (p : μ <+: μ') : ∀ {v : List (Str × V)} {w : List (Str × W)}, RWf K B μ v w → RWf K B' μ' v w
 | _, _, .nil => .nil
 | _, _, .cons h t => .cons (RW.to s p h) (RWf.to s p t)
theorem RWs.len {K : Frag} {B : Hp} {μ : List Addr} : ∀ {v : List V} {w : List W}, RWs K B μ v w → v.length = w.length
 | _, _, .nil => rfl
 | _, _, .cons _ t => congrArg Nat.succ (RWs.len t)
theorem OO.to {K : Frag} {B B' : Hp} {μ μ' : List Addr} {H H' : Hp} {a : Addr} (s : Same B B') (p : μ <+: μ') (e : ∀ o, H a = some o → H' a = some o) : ∀ {m : MO}, OO K B μ H a m → OO K B' μ' H' a m
 | .lst _, ⟨vs, h, r⟩ => ⟨vs, e _ h, RvL.to s r⟩
 | .dic _, ⟨vs, h, r⟩ => ⟨vs, e _ h, RvK.to s r⟩
 | .ins _ _, ⟨dx, vs, h, r⟩ => ⟨dx, vs, e _ h, RWf.to s p r⟩
 | .bag, ⟨l, i, r, sd, ns, h, hl, k⟩ => ⟨l, i, r, sd, ns, e _ h, s _ _ hl, k⟩
 | .tab _ _, ⟨z, ps, h, h2, h3⟩ => ⟨z, ps, e _ h, h2, fun pos cv z => let ⟨c, e1, e2⟩ := h3 pos cv z; ⟨c, e1, s _ _ e2⟩⟩
 | .gone, _ => trivial
theorem OO.there {K : Frag} {B : Hp} {μ : List Addr} {H : Hp} {a : Addr} : ∀ {m : MO}, m.live = true → OO K B μ H a m → H a ≠ none
 | .lst _, _, ⟨vs, h, r⟩ => by rw [h]; exact fun z => nomatch z
 | .dic _, _, ⟨vs, h, r⟩ => by rw [h]; exact fun z => nomatch z
 | .ins _ _, _, ⟨dx, vs, h, r⟩ => by rw [h]; exact fun z => nomatch z
 | .bag, _, ⟨l, i, r, sd, ns, h, hl, k⟩ => by rw [h]; exact fun z => nomatch z
 | .tab _ _, _, ⟨_, ps, h, _⟩ => by rw [h]; exact fun z => nomatch z
theorem OO.noext {K : Frag} {B : Hp} {μ : List Addr} {H : Hp} {a : Addr} {φ : Heap → Prop} : ∀ {m : MO}, m.live = true → OO K B μ H a m → H a ≠ some (.ext φ)
 | .lst _, _, ⟨vs, h, r⟩ => by rw [h]; exact fun z => nomatch z
 | .dic _, _, ⟨vs, h, r⟩ => by rw [h]; exact fun z => nomatch z
 | .ins _ _, _, ⟨dx, vs, h, r⟩ => by rw [h]; exact fun z => nomatch z
 | .bag, _, ⟨l, i, r, sd, ns, h, hl, k⟩ => by rw [h]; exact fun z => nomatch z
 | .tab _ _, _, ⟨_, ps, h, _⟩ => by rw [h]; exact fun z => nomatch z
theorem Stp.trans {K : Frag} {B B1 B2 : Hp} {μ μ1 μ2 : List Addr} {mem mem1 mem2 : List MO} {H H1 H2 : Hp} (a : Stp B μ mem H B1 μ1 mem1 H1) (m1 : MemOk K B1 μ1 mem1 H1) (b : Stp B1 μ1 mem1 H1 B2 μ2 mem2 H2) (le : Le B H) : Stp B μ mem H B2 μ2 mem2 H2 where
 same := a.same.trans b.same
 pre := a.pre.trans b.pre
 out := fun x o n h nt => by
  have h1 := a.out x o n h nt
  refine b.out x o (fun l => ?_) h1 nt
  have z := m1.off x l
  cases e : B x with
  | some u => rw [a.same _ _ e] at z; cases z
  | none =>
   cases o with
   | ext φ =>
    obtain ⟨k, mo, e1, e2, e3⟩ := l
    exact OO.noext e3 (m1.at_ k x mo e1 e2 e3) h1
   | tbl ps => exact nt ps rfl
   | _ => exact (a.hid x _ n h ⟨(fun _ z => nomatch z), (fun _ z => nomatch z)⟩ e).2 l
 hid := fun x o n h ne e => by
  obtain ⟨e1, n1⟩ := a.hid x o n h ne e
  exact b.hid x o n1 (a.out x o n h ne.2) ne e1
theorem MemOk.there {K : Frag} {B : Hp} {μ : List Addr} {mem : List MO} {H : Hp} (h : MemOk K B μ mem H) {a : Addr} (l : Live μ mem a) : H a ≠ none := by
 obtain ⟨n, m, h1, h2, h3⟩ := l
 exact OO.there h3 (h.at_ n a m h1 h2 h3)
theorem MemOk.laid {K : Frag} {B : Hp} {μ : List Addr} {mem : List MO} {H : Hp} (h : MemOk K B μ mem H) {p : Addr} {o : HO} (np : H p = none) (no : ∀ ps, o ≠ .tbl ps := by exact fun _ z => nomatch z) : MemOk K (upd B p o) μ mem (upd H p o) := by
 have nb : B p = none := by
  cases e : B p with
  | none => rfl
  | some u => exact absurd np (h.le.some e)
 refine ⟨fun a u e => ?_, h.len, fun a l => ?_, fun n a m e1 e2 e3 => ?_, h.inj, fun a ps e => by
  by_cases c : a = p
  ·subst c
   rw [upd_same] at e
   exact no ps (Option.some.inj e)
  ·rw [upd_ne c] at e
   exact h.ntb a ps e⟩
 ·by_cases c : a = p
  ·subst c
   rw [upd_same] at e
   rw [upd_same]
   exact e
  ·rw [upd_ne c] at e
   rw [upd_ne c]
   exact h.le a u e
 ·have c : a ≠ p := fun z => by subst z; exact h.there l np
  rw [upd_ne c]
  exact h.off a l
 ·have c : a ≠ p := fun z => by subst z; exact h.there ⟨n, m, e1, e2, e3⟩ np
  exact OO.to (av nb o) (List.prefix_refl _) (fun u q => by rw [upd_ne c]; exact q) (h.at_ n a m e1 e2 e3)
theorem Stp.laid {K : Frag} {B : Hp} {μ : List Addr} {mem : List MO} {H : Hp} (h : MemOk K B μ mem H) {p : Addr} {o : HO} (np : H p = none) : Stp B μ mem H (upd B p o) μ mem (upd H p o) := by
 have nb : B p = none := by
  cases e : B p with
  | none => rfl
  | some u => exact absurd np (h.le.some e)
 refine ⟨av nb o, List.prefix_refl _, fun a u _ e _ => ?_, fun a o' n e _ b => ⟨?_, n⟩⟩
 ·rw [upd_ne (ne_of_none e np)]
  exact e
 ·have c : a ≠ p := ne_of_none e np
  rw [upd_ne c]
  exact b
theorem dc {K : Frag} {B : Hp} {μ : List Addr} {mem : List MO} {H : Hp} (h : MemOk K B μ mem H) {p : Addr} {o : HO} (np : H p = none) : Same B (upd B p o) := (Stp.laid h np (o := o)).same
theorem MemOk.push {K : Frag} {B : Hp} {μ : List Addr} {mem : List MO} {H H' : Hp} (h : MemOk K B μ mem H) {p : Addr} {m : MO} (np : H p = none) (le : Le B H') (keep : ∀ a o, a ≠ p → H a = some o → H' a = some o) (new : OO K B (μ ++ [p]) H' p m) : MemOk K B (μ ++ [p]) (mem ++ [m]) H' := by
 have nb : B p = none := by
  cases e : B p with
  | none => rfl
  | some u => exact absurd np (h.le.some e)
 have sp : ∀ {n : Nat} {a : Addr}, (μ ++ [p])[n]? = some a → (μ[n]? = some a) ∨ (n = mem.length ∧ a = p) := fun {n a} e => by
  by_cases c : n < μ.length
  ·rw [List.getElem?_append_left c] at e
   exact .inl e
  ·rw [List.getElem?_append_right (by omega)] at e
   have z := (List.getElem?_eq_some_iff.mp e).1
   simp at z
   have z2 : n = μ.length := by omega
   subst z2
   simp at e
   exact .inr ⟨h.len, e.symm⟩
 have sm : ∀ {n : Nat} {x : MO} {a : Addr}, μ[n]? = some a → (mem ++ [m])[n]? = some x → mem[n]? = some x := fun {n x a} e q => by
  have z := (List.getElem?_eq_some_iff.mp e).1
  rw [List.getElem?_append_left (by have := h.len; omega)] at q
  exact q
 refine ⟨le, by simp [h.len], fun a l => ?_, fun n a x e1 e2 e3 => ?_, fun n k a x y e1 e2 e3 e4 l1 l2 => ?_, h.ntb⟩
 ·obtain ⟨n, x, e1, e2, e3⟩ := l
  rcases sp e1 with e | ⟨_, rfl⟩
  ·exact h.off a ⟨n, x, e, sm e e2, e3⟩
  ·exact nb
 ·rcases sp e1 with e | ⟨rfl, rfl⟩
  ·have q := h.at_ n a x e (sm e e2) e3
   have c : a ≠ p := fun z => by subst z; exact OO.there e3 q np
   exact OO.to (Same.refl _) (List.prefix_append _ _) (fun u z => keep a u c z) q
  ·rw [List.getElem?_append_right (Nat.le_refl _), Nat.sub_self] at e2
   have z : m = x := Option.some.inj e2
   subst z
   exact new
 ·rcases sp e1 with u1 | ⟨rfl, rfl⟩
  ·rcases sp e2 with u2 | ⟨rfl, rfl⟩
   ·exact h.inj n k a x y u1 u2 (sm u1 e3) (sm u2 e4) l1 l2
   ·exact absurd np (OO.there l1 (h.at_ n _ x u1 (sm u1 e3) l1))
  ·rcases sp e2 with u2 | ⟨rfl, _⟩
   ·exact absurd np (OO.there l2 (h.at_ k _ y u2 (sm u2 e4) l2))
   ·rfl
theorem Stp.push {K : Frag} {B : Hp} {μ : List Addr} {mem : List MO} {H H' : Hp} (h : MemOk K B μ mem H) {p : Addr} {m : MO} (np : H p = none) (keep : ∀ a o, a ≠ p → H a = some o → H' a = some o) : Stp B μ mem H B (μ ++ [p]) (mem ++ [m]) H' := by
 refine ⟨Same.refl _, List.prefix_append _ _, fun a o _ e _ => keep a o (ne_of_none e np) e, fun a o n e _ b => ⟨b, fun l => ?_⟩⟩
 obtain ⟨k, x, e1, e2, e3⟩ := l
 by_cases c : k < μ.length
 ·rw [List.getElem?_append_left c] at e1
  rw [List.getElem?_append_left (by have := h.len; omega)] at e2
  exact n ⟨k, x, e1, e2, e3⟩
 ·rw [List.getElem?_append_right (by omega)] at e1
  have z := List.mem_of_getElem? e1
  rw [List.mem_singleton] at z
  rw [z, np] at e
  cases e
theorem MemOk.store {K : Frag} {B : Hp} {μ : List Addr} {mem : List MO} {H H' : Hp} (h : MemOk K B μ mem H) {n : Nat} {a : Addr} {m m' : MO} (ha : μ[n]? = some a) (hm : mem[n]? = some m) (hl : m.live = true) (hl' : m'.live = true) (keep : ∀ b o, b ≠ a → H b = some o → H' b = some o) (new : OO K B μ H' a m') : MemOk K B μ (mem.set n m') H' := by
 have lv : ∀ {k : Nat} {x : MO}, (mem.set n m')[k]? = some x → x.live = true → ∃ y, mem[k]? = some y ∧ y.live = true := fun {k x} e l => by
  by_cases c : k = n
  ·subst c
   exact ⟨m, hm, hl⟩
  ·rw [List.getElem?_set_ne (fun z => c z.symm)] at e
   exact ⟨x, e, l⟩
 have off : ∀ b, Live μ (mem.set n m') b → B b = none := fun b l => by
  obtain ⟨k, x, e1, e2, e3⟩ := l
  obtain ⟨y, e4, e5⟩ := lv e2 e3
  exact h.off b ⟨k, y, e1, e4, e5⟩
 have nb := h.off a ⟨n, m, ha, hm, hl⟩
 refine ⟨fun b u e => ?_, by simp [h.len], off, fun k b x e1 e2 e3 => ?_, fun k j b x y e1 e2 e3 e4 l1 l2 => ?_, h.ntb⟩
 ·have c : b ≠ a := ne_of_none e nb
  exact keep b u c (h.le b u e)
 ·by_cases c : k = n
  ·subst c
   rw [List.getElem?_set_self (List.getElem?_eq_some_iff.mp hm).1] at e2
   have z : m' = x := Option.some.inj e2
   subst z
   have z2 : a = b := Option.some.inj (ha.symm.trans e1)
   subst z2
   exact new
  ·rw [List.getElem?_set_ne (fun z => c z.symm)] at e2
   have ne : b ≠ a := fun z => by
    subst z
    exact c (h.inj k n b x m e1 ha e2 hm e3 hl)
   exact OO.to (Same.refl _) (List.prefix_refl _) (fun u z => keep b u ne z) (h.at_ k b x e1 e2 e3)
 ·obtain ⟨x', q1, q2⟩ := lv e3 l1
  obtain ⟨y', q3, q4⟩ := lv e4 l2
  exact h.inj k j b x' y' e1 e2 q1 q3 q2 q4
theorem Stp.store {B : Hp} {μ : List Addr} {mem : List MO} {H H' : Hp} {n : Nat} {a : Addr} {m m' : MO} (ha : μ[n]? = some a) (hm : mem[n]? = some m) (hl : m.live = true) (keep : ∀ b o, b ≠ a → H b = some o → H' b = some o) : Stp B μ mem H B μ (mem.set n m') H' := by
 have la : Live μ mem a := ⟨n, m, ha, hm, hl⟩
 refine ⟨Same.refl _, List.prefix_refl _, fun b o nl e _ => keep b o (fun z => nl (z ▸ la)) e, fun b o nl e _ q => ⟨q, fun l => ?_⟩⟩
 obtain ⟨k, x, e1, e2, e3⟩ := l
 by_cases c : k = n
 ·subst c
  have z2 : a = b := Option.some.inj (ha.symm.trans e1)
  exact nl (z2 ▸ la)
 ·rw [List.getElem?_set_ne (fun z => c z.symm)] at e2
  exact nl ⟨k, x, e1, e2, e3⟩
theorem MemOk.freeze {K : Frag} {B : Hp} {μ : List Addr} {mem : List MO} {H : Hp} (h : MemOk K B μ mem H) {n : Nat} {a : Addr} {m : MO} {o : HO} (ha : μ[n]? = some a) (hm : mem[n]? = some m) (hl : m.live = true) (ho : H a = some o) (no : ∀ ps, o ≠ .tbl ps := by exact fun _ z => nomatch z) : MemOk K (upd B a o) μ (mem.set n .gone) H := by
 have nb := h.off a ⟨n, m, ha, hm, hl⟩
 have lv : ∀ {k : Nat} {x : MO}, (mem.set n .gone)[k]? = some x → x.live = true → k ≠ n ∧ mem[k]? = some x := fun {k x} e l => by
  by_cases c : k = n
  ·subst c
   rw [List.getElem?_set_self (List.getElem?_eq_some_iff.mp hm).1] at e
   cases e
   cases l
  ·rw [List.getElem?_set_ne (fun z => c z.symm)] at e
   exact ⟨c, e⟩
 refine ⟨fun b u e => ?_, by simp [h.len], fun b l => ?_, fun k b x e1 e2 e3 => ?_, fun k j b x y e1 e2 e3 e4 l1 l2 => ?_, fun b ps e => by
  by_cases c : b = a
  ·subst c
   rw [upd_same] at e
   exact no ps (Option.some.inj e)
  ·rw [upd_ne c] at e
   exact h.ntb b ps e⟩
 ·by_cases c : b = a
  ·subst c
   rw [upd_same] at e
   cases e
   exact ho
  ·rw [upd_ne c] at e
   exact h.le b u e
 ·obtain ⟨k, x, e1, e2, e3⟩ := l
  obtain ⟨c, e4⟩ := lv e2 e3
  have ne : b ≠ a := fun z => by
   subst z
   exact c (h.inj k n b x m e1 ha e4 hm e3 hl)
  rw [upd_ne ne]
  exact h.off b ⟨k, x, e1, e4, e3⟩
 ·obtain ⟨c, e4⟩ := lv e2 e3
  exact OO.to (av nb o) (List.prefix_refl _) (fun _ z => z) (h.at_ k b x e1 e4 e3)
 ·exact h.inj k j b x y e1 e2 (lv e3 l1).2 (lv e4 l2).2 l1 l2
theorem Stp.freeze {B : Hp} {μ : List Addr} {mem : List MO} {H : Hp} {n : Nat} {a : Addr} {m : MO} {o : HO} (ha : μ[n]? = some a) (hm : mem[n]? = some m) (hl : m.live = true) (nb : B a = none) : Stp B μ mem H (upd B a o) μ (mem.set n .gone) H := by
 have la : Live μ mem a := ⟨n, m, ha, hm, hl⟩
 refine ⟨av nb o, List.prefix_refl _, fun _ _ _ e _ => e, fun b _ nl e _ q => ⟨?_, fun l => ?_⟩⟩
 ·have ne : b ≠ a := fun z => by
   subst z
   exact nl la
  rw [upd_ne ne]
  exact q
 ·obtain ⟨k, x, e1, e2, e3⟩ := l
  by_cases c : k = n
  ·subst c
   rw [List.getElem?_set_self (List.getElem?_eq_some_iff.mp hm).1] at e2
   cases e2
   cases e3
  ·rw [List.getElem?_set_ne (fun z => c z.symm)] at e2
   exact nl ⟨k, x, e1, e2, e3⟩
theorem Live.take {μ : List Addr} {mem : List MO} {n : Nat} {a : Addr} (l : Live (μ.take n) (mem.take n) a) : Live μ mem a := by
 obtain ⟨k, x, e1, e2, e3⟩ := l
 rw [List.getElem?_take] at e1 e2
 by_cases c : k < n
 ·rw [if_pos c] at e1 e2
  exact ⟨k, x, e1, e2, e3⟩
 ·rw [if_neg c] at e1
  cases e1
theorem RW.d {K : Frag} {B : Hp} {μ : List Addr} {v : V} {d : D} (h : Rv K B v d) : RW K B μ v (.v d) := h
theorem RW.back {K : Frag} {B B' : Hp} {μ μ' : List Addr} {u v : V} (bk : ∀ {n : Nat} {a : Addr}, n < μ.length → μ'[n]? = some a → μ[n]? = some a) : ∀ {w : W}, RW K B μ u w → RW K B' μ' v w → RW K B' μ v w
 | .v _, _, h => h
 | .loc _, ⟨_, _, m0⟩, ⟨a1, e1, m1⟩ => ⟨a1, e1, bk (List.getElem?_eq_some_iff.mp m0).1 m1⟩
theorem RWf.back {K : Frag} {B B' : Hp} {μ μ' : List Addr} (bk : ∀ {n : Nat} {a : Addr}, n < μ.length → μ'[n]? = some a → μ[n]? = some a) : ∀ {us vs : List (Str × V)} {ws : List (Str × W)}, RWf K B μ us ws → RWf K B' μ' vs ws → RWf K B' μ vs ws
 | _, _, _, .nil, .nil => .nil
 | _, _, _, .cons a t, .cons b u => .cons (RW.back bk a b) (RWf.back bk t u)
theorem MemOk.drop {K : Frag} {B B' : Hp} {μ μ' : List Addr} {mem more : List MO} {H H' : Hp} (h0 : MemOk K B μ mem H) (p : μ <+: μ') (h : MemOk K B' μ' (mem ++ more) H') : MemOk K B' μ mem H' := by
 have up : ∀ {n : Nat} {m : MO}, mem[n]? = some m → (mem ++ more)[n]? = some m := fun {n m} e => by
  rw [List.getElem?_append_left (List.getElem?_eq_some_iff.mp e).1]
  exact e
 have bk : ∀ {n : Nat} {a : Addr}, n < μ.length → μ'[n]? = some a → μ[n]? = some a := fun {n a} l e => by
  obtain ⟨t, rfl⟩ := p
  rw [List.getElem?_append_left l] at e
  exact e
 refine ⟨h.le, h0.len, fun a l => ?_, fun n a m e1 e2 e3 => ?_, fun n k a m m' e1 e2 e3 e4 l1 l2 => ?_, h.ntb⟩
 ·obtain ⟨n, m, e1, e2, e3⟩ := l
  exact h.off a ⟨n, m, bG p e1, up e2, e3⟩
 ·have q0 := h0.at_ n a m e1 e2 e3
  have q := h.at_ n a m (bG p e1) (up e2) e3
  cases m with
  | lst ds => exact q
  | dic ds => exact q
  | bag => exact q
  | gone => trivial
  | tab _ _ => exact q
  | ins C fs =>
   obtain ⟨dx0, vs0, _, r0⟩ := q0
   obtain ⟨dx, vs, hh, r⟩ := q
   exact ⟨dx, vs, hh, RWf.back bk r0 r⟩
 ·exact h.inj n k a m m' (bG p e1) (bG p e2) (up e3) (up e4) l1 l2
theorem Stp.drop {B B' : Hp} {μ μ' : List Addr} {mem more : List MO} {H H' : Hp} (s : Stp B μ mem H B' μ' (mem ++ more) H') : Stp B μ mem H B' μ mem H' :=
 ⟨s.same, List.prefix_refl _, s.out, fun a o n e x b => ⟨(s.hid a o n e x b).1, n⟩⟩
def ExOf (K : Frag) (E : XK) (B : Hp) (μ : List Addr) (mem : List MO) (H : Hp) (Qx : Er → List MO → Prop) : Prop :=
 ∀ B' μ' mem' H' (er : Er) (dd : Addr) fvs, Stp B μ mem H B' μ' mem' H' → MemOk K B' μ' mem' H' → H' dd = some (.xd fvs) → RvF K B' fvs er.fs → Qx er mem' → E (.ref er.C) (some dd) H'
theorem ExOf.step {K : Frag} {E : XK} {B B1 : Hp} {μ μ1 : List Addr} {mem mem1 : List MO} {H H1 : Hp} {Qx : Er → List MO → Prop} (h : ExOf K E B μ mem H Qx) (s : Stp B μ mem H B1 μ1 mem1 H1) (m1 : MemOk K B1 μ1 mem1 H1) (le : Le B H) : ExOf K E B1 μ1 mem1 H1 Qx :=
 fun B' μ' mem' H' er dd fvs s' m' hd r q => h B' μ' mem' H' er dd fvs (s.trans m1 s' le) m' hd r q
abbrev QX := Er → Me → Prop
abbrev DTE := En → Me → (W → Me → Prop) → QX → Prop
abbrev DTA := En → Me → (List W → Me → Prop) → QX → Prop
abbrev DTT := En → Me → (Bool → Me → Prop) → QX → Prop
def SE (X : Cx) (E : XK) (t : TE) (T : DTE) : Prop := ∀ B μ en m σ H (Q : W → Me → Prop) (Qx : QX) (QV : VK), Rel X.K B μ en m σ H → ExOf X.K E B μ m H Qx → T en m Q Qx →
 (∀ B' μ' m' H' x v, Stp B μ m H B' μ' m' H' → Rel X.K B' μ' en m' σ H' → RW X.K B' μ' v x → Q x m' → QV v H') → t σ H QV
def SA (X : Cx) (E : XK) (t : TA) (T : DTA) : Prop := ∀ B μ en m σ H (Q : List W → Me → Prop) (Qx : QX) (QV : List V → Hp → Prop), Rel X.K B μ en m σ H → ExOf X.K E B μ m H Qx → T en m Q Qx →
 (∀ B' μ' m' H' x v, Stp B μ m H B' μ' m' H' → Rel X.K B' μ' en m' σ H' → RWs X.K B' μ' v x → Q x m' → QV v H') → t σ H QV
def ST (X : Cx) (E : XK) (t : TT) (T : DTT) : Prop := ∀ B μ en m σ H (Q : Bool → Me → Prop) (Qx : QX) (QV : Bool → Hp → Prop), Rel X.K B μ en m σ H → ExOf X.K E B μ m H Qx → T en m Q Qx →
 (∀ B' μ' m' H' b, Stp B μ m H B' μ' m' H' → Rel X.K B' μ' en m' σ H' → Q b m' → QV b H') → t σ H QV
structure DE (X : Cx) (E : XK) (e : Expr) (T : DTE) : Prop where
 ex : ∃ t, PE X e t ∧ SE X E t T
structure DA (X : Cx) (E : XK) (es : List Expr) (T : DTA) : Prop where
 ex : ∃ t, PA X es t ∧ SA X E t T
structure DT (X : Cx) (E : XK) (e : Expr) (T : DTT) : Prop where
 ex : ∃ t, PT X e t ∧ ST X E t T
structure DW (X : Cx) (E : XK) (e : Expr) (T : DTT) : Prop where
 ex : ∃ t, PW X e t ∧ ST X E t T
structure Dn where
 nx : En → Me → Prop
 rt : W → Me → Prop
 bk : En → Me → Prop
 ct : En → Me → Prop
 xc : QX
abbrev DTS := En → Me → Dn → Prop
def NxOf (K : Frag) (B : Hp) (μ : List Addr) (mem : Me) (H : Hp) (N : En → Me → Prop) (n : L2.St → Hp → Prop) : Prop := ∀ B' μ' en' m' σ' H', Stp B μ mem H B' μ' m' H' → Rel K B' μ' en' m' σ' H' → N en' m' → n σ' H'
def RtOf (K : Frag) (B : Hp) (μ : List Addr) (mem : Me) (H : Hp) (N : W → Me → Prop) (n : VK) : Prop := ∀ B' μ' mem' H' x v, Stp B μ mem H B' μ' mem' H' → MemOk K B' μ' mem' H' → RW K B' μ' v x → N x mem' → n v H'
structure EndsOf (K : Frag) (B : Hp) (μ : List Addr) (mem : Me) (H : Hp) (N : Dn) (D : Ends) : Prop where
 nx : NxOf K B μ mem H N.nx D.nx
 rt : RtOf K B μ mem H N.rt D.rt
 bk : NxOf K B μ mem H N.bk D.bk
 ct : NxOf K B μ mem H N.ct D.ct
theorem NxOf.step {K : Frag} {B B1 : Hp} {μ μ1 : List Addr} {mem mem1 : Me} {H H1 : Hp} {N n} (h : NxOf K B μ mem H N n) (s : Stp B μ mem H B1 μ1 mem1 H1) (m1 : MemOk K B1 μ1 mem1 H1) (le : Le B H) : NxOf K B1 μ1 mem1 H1 N n :=
 fun B' μ' en' m' σ' H' s' r q => h B' μ' en' m' σ' H' (s.trans m1 s' le) r q
theorem RtOf.step {K : Frag} {B B1 : Hp} {μ μ1 : List Addr} {mem mem1 : Me} {H H1 : Hp} {N n} (h : RtOf K B μ mem H N n) (s : Stp B μ mem H B1 μ1 mem1 H1) (m1 : MemOk K B1 μ1 mem1 H1) (le : Le B H) : RtOf K B1 μ1 mem1 H1 N n :=
 fun B' μ' mem' H' x v s' m r q => h B' μ' mem' H' x v (s.trans m1 s' le) m r q
theorem EndsOf.step {K : Frag} {B B1 : Hp} {μ μ1 : List Addr} {mem mem1 : Me} {H H1 : Hp} {N : Dn} {D : Ends} (h : EndsOf K B μ mem H N D) (s : Stp B μ mem H B1 μ1 mem1 H1) (m1 : MemOk K B1 μ1 mem1 H1) (le : Le B H) : EndsOf K B1 μ1 mem1 H1 N D :=
 ⟨h.nx.step s m1 le, h.rt.step s m1 le, h.bk.step s m1 le, h.ct.step s m1 le⟩
def SS (X : Cx) (E : XK) (t : TS) (T : DTS) : Prop := ∀ B μ en m σ H (N : Dn) (D : Ends), Rel X.K B μ en m σ H → ExOf X.K E B μ m H N.xc → T en m N → EndsOf X.K B μ m H N D → t D σ H
structure DS (X : Cx) (E : XK) (st : Stmt) (T : DTS) : Prop where
 ex : ∃ t, PS X st t ∧ SS X E t T
structure DSs (X : Cx) (E : XK) (st : List Stmt) (T : DTS) : Prop where
 ex : ∃ t, PSs X st t ∧ SS X E t T
def En.get (en : En) (i : Nat) : Option W := (en[i]?).getD none
def tV (i : Nat) : DTE := fun en m Q _ => match En.get en i with
 | some x => Q x m
 | none => False
def tK (d : D) : DTE := fun _ m Q _ => Q (.v d) m
section
variable {X : Cx} {E : XK}
theorem En.get_some {en : En} {i : Nat} {x : W} (h : En.get en i = some x) : en[i]? = some (some x) := by
 unfold En.get at h
 cases e : en[i]? with
 | none => rw [e] at h; cases h
 | some y =>
  rw [e] at h
  cases h
  rfl
theorem lt {i : Nat} {x : Str} {pos : Pos} (hN : X.N[i]? = some x) (hv : Vis X.env.scope x) (hd : (x == ("__debug__" : Str)) = false := by decide) (hcd : (x == ("__classdict__" : Str)) = false := by decide) : DE X E (.Name x pos) (tV i) := by
 refine ⟨_, pe_var hN hv hd hcd, fun B μ en m σ H Q Qx QV R hx T k => ?_⟩
 unfold tV at T
 split at T
 ·rename_i x e
  obtain ⟨v, hv, rv⟩ := R.env i x (En.get_some e)
  exact ⟨v, hv, k B μ m H x v .refl R rv T⟩
 ·exact T.elim
theorem SE.const {v : V} {d : D} (h : ∀ B, Rv X.K B v d) : SE X E (tC v) (tK d) := fun B μ en m σ H Q Qx QV R hx T k => k B μ m H (.v d) v .refl R (h B) T
theorem aq {i j pos} : DE X E (.Constant (.int i) j pos) (tK (.int i)) := ⟨_, pe_int, SE.const fun _ => .int i⟩
theorem aW {b j pos} : DE X E (.Constant (.bool b) j pos) (tK (.bl b)) := ⟨_, pe_bl, SE.const fun _ => .bl b⟩
theorem gL {j pos} : DE X E (.Constant .none j pos) (tK .non) := ⟨_, pe_non, SE.const fun _ => .non⟩
theorem am {x j pos} (h : PySem.PyData.strOk x = true := by decide +kernel) : DE X E (.Constant (.str x) j pos) (tK (.str x)) := ⟨_, pe_str, SE.const fun _ => .str h⟩
theorem eX {x : Str} {v : V} {d : D} {u : Value} {pos : Pos} (hm : X.mg x = some u) (r : RelV v u) (hr : ∀ B, Rv X.K B v d) (hg : Gl X x := by rfl) (hd : (x == ("__debug__" : Str)) = false := by decide) : DE X E (.Name x pos) (tK d) :=
 ⟨_, pe_glob hg hm r hd, SE.const hr⟩
theorem dr {x : Str} {n : String} {pos : Pos} (hm : X.mg x = none) (hv : bootBuiltins x = some (.type n)) (hg : Gl X x := by rfl) (hn : x ≠ "__name__" := by decide) (hd : (x == ("__debug__" : Str)) = false := by decide) : DE X E (.Name x pos) (tK (.ty n)) :=
 ⟨_, pe_bltn (v := .ty n) hg hm hv rfl hn hd, SE.const fun _ => .ty n⟩
def tN : DTA := fun _ m Q _ => Q [] m
def tCn (te : DTE) (ta : DTA) : DTA := fun en m Q Qx => te en m (fun x m1 => ta en m1 (fun xs m2 => Q (x :: xs) m2) Qx) Qx
theorem ab : DA X E [] tN := ⟨_, pa_nil, fun B μ en m σ H Q Qx QV R hx T k => k B μ m H [] [] .refl R .nil T⟩
theorem aa {e : Expr} {es : List Expr} {te : DTE} {ta : DTA} (he : DE X E e te) (ha : DA X E es ta) (hs : starEach (e :: es) X.env = (false, eval e X.env) :: starEach es X.env := by rfl) : DA X E (e :: es) (tCn te ta) := by
 obtain ⟨t1, p1, k1⟩ := he.ex
 obtain ⟨t2, p2, k2⟩ := ha.ex
 refine ⟨_, pa_cons p1 p2 hs, fun B μ en m σ H Q Qx QV R hx T k => ?_⟩
 refine k1 B μ en m σ H _ Qx _ R hx T fun B1 μ1 m1 H1 x v s1 R1 r1 T1 => ?_
 refine k2 B1 μ1 en m1 σ H1 _ Qx _ R1 (hx.step s1 R1.mem R.mem.le) T1 fun B2 μ2 m2 H2 xs vs s2 R2 r2 T2 => ?_
 exact k B2 μ2 m2 H2 _ _ (s1.trans R1.mem s2 R.mem.le) R2 (.cons (r1.to s2.same s2.pre) r2) T2
abbrev DOp := W → W → Me → (D → Prop) → Prop
def SO (X : Cx) (r : R2) (o : DOp) : Prop := ∀ B μ mem H x y v u (Q : D → Prop) (QV : VK), MemOk X.K B μ mem H → RW X.K B μ v x → RW X.K B μ u y → o x y mem Q →
 (∀ B' H' d z, Stp B μ mem H B' μ mem H' → MemOk X.K B' μ mem H' → Rv X.K B' z d → Q d → QV z H') → r v u H QV
def OpD (X : Cx) (f : Value → Value → Sem Value) (o : DOp) : Prop := ∃ r : R2, OpR X f r ∧ SO X r o
def tO2 (o : DOp) (ta tb : DTE) : DTE := fun en m Q Qx => ta en m (fun x m1 => tb en m1 (fun y m2 => o x y m2 fun d => Q (.v d) m2) Qx) Qx
theorem Rel.stp {K : Frag} {B B' : Hp} {μ μ' : List Addr} {en : En} {m m' : Me} {σ : L2.St} {H H' : Hp} (R : Rel K B μ en m σ H) (s : Stp B μ m H B' μ' m' H') (mo : MemOk K B' μ' m' H') : Rel K B' μ' en m' σ H' :=
 ⟨mo, R.len, fun i x e => let ⟨v, h, r⟩ := R.env i x e; ⟨v, h, r.to s.same s.pre⟩⟩
section
variable {a b : Expr} {ta tb : DTE} {o : DOp} {pos : Pos}
theorem SE.two {r : R2} {t1 t2 : TE} (ho : SO X r o) (k1 : SE X E t1 ta) (k2 : SE X E t2 tb) : SE X E (tOp r t1 t2) (tO2 o ta tb) := by
 intro B μ en m σ H Q Qx QV R hx T k
 refine k1 B μ en m σ H _ Qx _ R hx T fun B1 μ1 m1 H1 x v s1 R1 r1 T1 => ?_
 refine k2 B1 μ1 en m1 σ H1 _ Qx _ R1 (hx.step s1 R1.mem R.mem.le) T1 fun B2 μ2 m2 H2 y u s2 R2 r2 T2 => ?_
 refine ho B2 μ2 m2 H2 x y v u _ _ R2.mem (r1.to s2.same s2.pre) r2 T2 fun B3 H3 d z s3 m3 rz q => ?_
 exact k B3 μ2 m2 H3 (.v d) z ((s1.trans R1.mem s2 R.mem.le).trans R2.mem s3 R.mem.le) (R2.stp s3 m3) rz q
theorem aT {op : Operator} (ho : OpD X (binaryOp op) o) (ha : DE X E a ta) (hb : DE X E b tb) : DE X E (.BinOp a op b pos) (tO2 o ta tb) := by
 obtain ⟨t1, p1, k1⟩ := ha.ex
 obtain ⟨t2, p2, k2⟩ := hb.ex
 obtain ⟨r, h1, h2⟩ := ho
 exact ⟨_, pe_op h1 p1 p2, SE.two h2 k1 k2⟩
theorem fH {op : CmpOp} (ho : OpD X (compareOp op) o) (ha : DE X E a ta) (hb : DE X E b tb) (hm : behindInMarks op b = false) : DE X E (.Compare a [op] [b] pos) (tO2 o ta tb) := by
 obtain ⟨t1, p1, k1⟩ := ha.ex
 obtain ⟨t2, p2, k2⟩ := hb.ex
 obtain ⟨r, h1, h2⟩ := ho
 exact ⟨_, pe_cmpR h1 p1 p2 hm, SE.two h2 k1 k2⟩
def bD : W → (Bool → Prop) → Prop
 | .v (.bl b), Q => Q b
 | _, _ => False
theorem j6 {K : Frag} {B : Hp} {μ : List Addr} {v : V} : ∀ {x : W} {Q : Bool → Prop}, RW K B μ v x → bD x Q → ∃ b, x = .v (.bl b) ∧ v = .bl b ∧ Q b
 | .v (.bl b), _, r, q => by cases r; exact ⟨b, rfl, rfl, q⟩
 | .v .non, _, _, q => q.elim
 | .v (.int _), _, _, q => q.elim
 | .v (.str _), _, _, q => q.elim
 | .v (.ty _), _, _, q => q.elim
 | .v (.fn _), _, _, q => q.elim
 | .v (.tup _), _, _, q => q.elim
 | .v (.lst _), _, _, q => q.elim
 | .v (.dic _), _, _, q => q.elim
 | .v (.obj _ _), _, _, q => q.elim
 | .v (.exc _ _), _, _, q => q.elim
 | .v (.lam _ _ _), _, _, q => q.elim
 | .loc _, _, _, q => q.elim
def tBl (te : DTE) : DTT := fun en m Q Qx => te en m (fun x m1 => bD x fun b => Q b m1) Qx
theorem SE.test {t : TE} (h : SE X E t ta) : ST X E (tTest t) (tBl ta) := by
 intro B μ en m σ H Q Qx QV R hx T k
 refine h B μ en m σ H _ Qx _ R hx T fun B' μ' m' H' x v s R' r' q => ?_
 obtain ⟨b, rfl, rfl, q⟩ := j6 r' q
 exact ⟨b, rfl, k B' μ' m' H' b s R' q⟩
theorem bA {op : CmpOp} (ho : OpD X (compareOp op) o) (ha : DE X E a ta) (hb : DE X E b tb) (hm : behindInMarks op b = false) : DT X E (.Compare a [op] [b] pos) (tBl (tO2 o ta tb)) := by
 obtain ⟨t1, p1, k1⟩ := ha.ex
 obtain ⟨t2, p2, k2⟩ := hb.ex
 obtain ⟨r, h1, h2⟩ := ho
 exact ⟨_, pt_cmpR h1 p1 p2 hm, (SE.two h2 k1 k2).test⟩
theorem cz {e : Expr} {t : DTE} (h : DE X E e t) (he : ∀ whole, isTrue e X.env whole = (do let v ← whole; standAt e.pos; holding [v] (truthy v)) := by intro _; rfl) : DT X E e (tBl t) := by
 obtain ⟨t1, p1, k1⟩ := h.ex
 exact ⟨_, pt_val p1 he, k1.test⟩
end
def mJ (t u : DTT) : DTT := fun en m Q Qx => t en m (fun c m1 => if c = true then Q true m1 else u en m1 Q Qx) Qx
def lu (t : DTT) : DTT := fun en m Q Qx => t en m (fun c m1 => Q (!c) m1) Qx
section
variable {a b c : Expr} {rest : List Expr} {tA tB' : DTT} {pos : Pos}
theorem DW.dt (h : DW X E a tA) : DT X E a tA := by
 obtain ⟨t, p, k⟩ := h.ex
 exact ⟨t, p.pt, k⟩
theorem dP (ha : DT X E a tA) : DW X E (.BoolOp .Or [a] pos) tA := by
 obtain ⟨t, p, k⟩ := ha.ex
 exact ⟨_, pw_or1 p, k⟩
theorem fI (ha : DT X E a tA) (hb : DW X E (.BoolOp .Or (b :: rest) pos) tB') : DW X E (.BoolOp .Or (a :: b :: rest) pos) (mJ tA tB') := by
 obtain ⟨t1, p1, k1⟩ := ha.ex
 obtain ⟨t2, p2, k2⟩ := hb.ex
 refine ⟨_, pw_or p1 p2, fun B μ en m σ H Q Qx QV R hx T k => ?_⟩
 refine k1 B μ en m σ H _ Qx _ R hx T fun B1 μ1 m1 H1 b s1 R1 q => ?_
 cases b with
 | false => exact iteF (k2 B1 μ1 en m1 σ H1 _ Qx _ R1 (hx.step s1 R1.mem R.mem.le) q fun B2 μ2 m2 H2 b s2 R2 q => k B2 μ2 m2 H2 b (s1.trans R1.mem s2 R.mem.le) R2 q)
 | true => exact iteT (k B1 μ1 m1 H1 true s1 R1 q)
theorem dQ (ha : DT X E a tA) : DT X E (.UnaryOp .Not a pos) (lu tA) := by
 obtain ⟨t1, p1, k1⟩ := ha.ex
 exact ⟨_, pt_not p1, fun B μ en m σ H Q Qx QV R hx T k => k1 B μ en m σ H _ Qx _ R hx T fun B1 μ1 m1 H1 b s1 R1 q => k B1 μ1 m1 H1 _ s1 R1 q⟩
def mK (t : DTT) (ta tb : DTE) : DTE := fun en m Q Qx => t en m (fun c m1 => if c = true then ta en m1 Q Qx else tb en m1 Q Qx) Qx
theorem SE.on {t : TE} {T : DTE} (h : SE X E t T) {B B1 : Hp} {μ μ1 : List Addr} {en : En} {m m1 : Me} {σ : L2.St} {H H1 : Hp} {Q : W → Me → Prop} {Qx : QX} {QV : VK} (R : Rel X.K B μ en m σ H) (hx : ExOf X.K E B μ m H Qx) (k : ∀ B' μ' m' H' x v, Stp B μ m H B' μ' m' H' → Rel X.K B' μ' en m' σ H' → RW X.K B' μ' v x → Q x m' → QV v H')
  (s1 : Stp B μ m H B1 μ1 m1 H1) (R1 : Rel X.K B1 μ1 en m1 σ H1) (q : T en m1 Q Qx) : t σ H1 QV :=
 h B1 μ1 en m1 σ H1 _ Qx _ R1 (hx.step s1 R1.mem R.mem.le) q fun B2 μ2 m2 H2 x v s2 R2 r q => k B2 μ2 m2 H2 x v (s1.trans R1.mem s2 R.mem.le) R2 r q
theorem mL {ta tb : DTE} (hc : DT X E c tA) (ha : DE X E a ta) (hb : DE X E b tb) : DE X E (.IfExp c a b pos) (mK tA ta tb) := by
 obtain ⟨t0, p0, k0⟩ := hc.ex
 obtain ⟨t1, p1, k1⟩ := ha.ex
 obtain ⟨t2, p2, k2⟩ := hb.ex
 refine ⟨_, pe_ifExp p0 p1 p2, fun B μ en m σ H Q Qx QV R hx T k => ?_⟩
 refine k0 B μ en m σ H _ Qx _ R hx T fun B1 μ1 m1 H1 b s1 R1 q => ?_
 cases b with
 | true => exact iteT (k1.on R hx k s1 R1 q)
 | false => exact iteF (k2.on R hx k s1 R1 q)
def lA (ta tb : DTE) : DTE := fun en m Q Qx => ta en m (fun x m1 => bD x fun c => if c = true then tb en m1 Q Qx else Q (.v (.bl false)) m1) Qx
theorem iy {op} {t : DTE} (h : DE X E a t) : DE X E (.BoolOp op [a] pos) t := by
 obtain ⟨t1, p1, k1⟩ := h.ex
 exact ⟨_, pe_one p1, k1⟩
theorem iz {ta tb : DTE} (ha : DE X E a ta) (hb : DE X E (.BoolOp .And (b :: rest) pos) tb) : DE X E (.BoolOp .And (a :: b :: rest) pos) (lA ta tb) := by
 obtain ⟨t1, p1, k1⟩ := ha.ex
 obtain ⟨t2, p2, k2⟩ := hb.ex
 refine ⟨_, pe_and p1 p2, fun B μ en m σ H Q Qx QV R hx T k => ?_⟩
 refine k1 B μ en m σ H _ Qx _ R hx T fun B1 μ1 m1 H1 x v s1 R1 r1 q => ?_
 obtain ⟨c, rfl, rfl, q⟩ := j6 r1 q
 refine ⟨c, rfl, ?_⟩
 cases c with
 | true => exact iteT (k2.on R hx k s1 R1 q)
 | false => exact iteF (k B1 μ1 m1 H1 _ _ s1 R1 r1 q)
end
def sNx : DTS := fun en m N => N.nx en m
def jA (t u : DTS) : DTS := fun en m N => t en m { N with nx := fun en1 m1 => u en1 m1 N }
theorem aM : DSs X E [] sNx := ⟨_, pss_nil, fun B μ en m σ H N D R hx T e => e.nx B μ en m σ H .refl R T⟩
theorem ad {st : Stmt} {t : DTS} (h : DS X E st t) : DSs X E [st] t := by
 obtain ⟨t1, p1, k1⟩ := h.ex
 exact ⟨_, pss_one p1, k1⟩
theorem SS.seq {t u : TS} {T U : DTS} (k1 : SS X E t T) (k2 : SS X E u U) : SS X E (tSeq t u) (jA T U) := by
 intro B μ en m σ H N D R hx T e
 refine k1 B μ en m σ H { N with nx := fun en1 m1 => U en1 m1 N } _ R hx T ⟨fun B1 μ1 en1 m1 σ1 H1 s1 R1 q => ?_, e.rt, e.bk, e.ct⟩
 exact k2 B1 μ1 en1 m1 σ1 H1 N D R1 (hx.step s1 R1.mem R.mem.le) q (e.step s1 R1.mem R.mem.le)
theorem ac {st : Stmt} {rest : List Stmt} {t u : DTS} (h : DS X E st t) (h2 : DSs X E rest u) : DSs X E (st :: rest) (jA t u) := by
 obtain ⟨t1, p1, k1⟩ := h.ex
 obtain ⟨t2, p2, k2⟩ := h2.ex
 exact ⟨_, pss_cons p1 p2, k1.seq k2⟩
section
variable {pos : Pos} {e : Expr} {te : DTE}
def j7 (te : DTE) : DTS := fun en m N => te en m (fun _ m1 => N.nx en m1) N.xc
theorem dG (he : DE X E e te) (hs : swapsWith e none pos.line X.env = pure false := by rfl) : DS X E (.Expr e pos) (j7 te) := by
 obtain ⟨t1, p1, k1⟩ := he.ex
 exact ⟨_, ps_expr p1 hs, fun B μ en m σ H N D R hx T e => k1 B μ en m σ H _ _ _ R hx T fun B1 μ1 m1 H1 x v s1 R1 r q => e.nx B1 μ1 en m1 σ H1 s1 R1 q⟩
def kE (te : DTE) : DTS := fun en m N => te en m (fun x m1 => N.rt x m1) N.xc
theorem az (he : DE X E e te) : DS X E (.Return (some e) pos) (kE te) := by
 obtain ⟨t1, p1, k1⟩ := he.ex
 exact ⟨_, ps_ret p1, fun B μ en m σ H N D R hx T e => k1 B μ en m σ H _ _ _ R hx T fun B1 μ1 m1 H1 x v s1 R1 r q => e.rt B1 μ1 m1 H1 x v s1 R1.mem r q⟩
def sIf (c : DTT) (t u : DTS) : DTS := fun en m N => c en m (fun b m1 => if b = true then t en m1 N else u en m1 N) N.xc
theorem SS.on {t : TS} {T : DTS} (h : SS X E t T) {B B1 : Hp} {μ μ1 : List Addr} {en en1 : En} {m m1 : Me} {σ σ1 : L2.St} {H H1 : Hp} {N : Dn} {D : Ends} (R : Rel X.K B μ en m σ H) (hx : ExOf X.K E B μ m H N.xc) (e : EndsOf X.K B μ m H N D)
  (s1 : Stp B μ m H B1 μ1 m1 H1) (R1 : Rel X.K B1 μ1 en1 m1 σ1 H1) (q : T en1 m1 N) : t D σ1 H1 := h B1 μ1 en1 m1 σ1 H1 N D R1 (hx.step s1 R1.mem R.mem.le) q (e.step s1 R1.mem R.mem.le)
theorem ci {c : Expr} {a b : List Stmt} {tc : DTT} {t u : DTS} (hc : DT X E c tc) (ha : DSs X E a t) (hb : DSs X E b u) : DS X E (.If c a b pos) (sIf tc t u) := by
 obtain ⟨t0, p0, k0⟩ := hc.ex
 obtain ⟨t1, p1, k1⟩ := ha.ex
 obtain ⟨t2, p2, k2⟩ := hb.ex
 refine ⟨_, ps_if p0 p1 p2, fun B μ en m σ H N D R hx T e => ?_⟩
 refine k0 B μ en m σ H _ _ _ R hx T fun B1 μ1 m1 H1 b s1 R1 q => ?_
 cases b with
 | true => exact iteT (k1.on R hx e s1 R1 q)
 | false => exact iteF (k2.on R hx e s1 R1 q)
def kF (i : Nat) (te : DTE) : DTS := fun en m N => te en m (fun x m1 => N.nx (List.set en i (some x)) m1) N.xc
theorem Rel.set {K : Frag} {B : Hp} {μ : List Addr} {en : En} {m : Me} {σ : L2.St} {H : Hp} {i : Nat} {x : W} {v : V} (R : Rel K B μ en m σ H) (r : RW K B μ v x) : Rel K B μ (List.set en i (some x)) m (σ.set i (some v)) H := by
 refine ⟨R.mem, by simp [R.len], fun j y e => ?_⟩
 by_cases c : j = i
 ·subst c
  have l : j < en.length := by
   have z := (List.getElem?_eq_some_iff.mp e).1
   simpa using z
  rw [List.getElem?_set_self l] at e
  cases e
  exact ⟨v, List.getElem?_set_self (by rw [R.len]; exact l), r⟩
 ·rw [List.getElem?_set_ne (fun z => c z.symm)] at e
  obtain ⟨u, h1, h2⟩ := R.env j y e
  exact ⟨u, by rw [List.getElem?_set_ne (fun z => c z.symm)]; exact h1, h2⟩
theorem bb {i : Nat} {x : Str} {pos' : Pos} (hN : X.N.Nodup) (hi : X.N[i]? = some x) (hx : Loc X.env.scope x) (he : DE X E e te) (hs : swapsWith e (some (.Name x pos')) pos.line X.env = pure false := by rfl) (hf : X.fn x = true ∨ X.env.scope.names.lookup x = some .local := by first | exact .inl rfl | exact .inr rfl | assumption) : DS X E (.Assign [.Name x pos'] e pos) (kF i te) := by
 obtain ⟨t1, p1, k1⟩ := he.ex
 exact ⟨_, ps_set hN hi hx p1 hs hf, fun B μ en m σ H N D R hx T e => k1 B μ en m σ H _ _ _ R hx T fun B1 μ1 m1 H1 x v s1 R1 r q => e.nx B1 μ1 _ m1 _ H1 s1 (R1.set r) q⟩
end
end
section
variable {X : Cx} {E : XK}
def lE (K : Frag) (E : XK) (T : DTE) : TE := fun σ H QV => ∃ B μ en m Q Qx, Rel K B μ en m σ H ∧ ExOf K E B μ m H Qx ∧ T en m Q Qx ∧
 (∀ B' μ' m' H' x v, Stp B μ m H B' μ' m' H' → Rel K B' μ' en m' σ H' → RW K B' μ' v x → Q x m' → QV v H')
theorem SE.lE {T : DTE} : SE X E (lE X.K E T) T := fun B μ en m σ H Q Qx _ R hx q k => ⟨B, μ, en, m, Q, Qx, R, hx, q, k⟩
theorem DE.pe {e : Expr} {T : DTE} (h : DE X E e T) : PE X e (Fs.lE X.K E T) := by
 obtain ⟨t, p, k⟩ := h.ex
 exact lq p fun σ H Q ⟨B, μ, en, m, Q', Qx, R, hx, q, z⟩ => k B μ en m σ H Q' Qx Q R hx q z
def lT (K : Frag) (E : XK) (T : DTT) : TT := fun σ H QV => ∃ B μ en m Q Qx, Rel K B μ en m σ H ∧ ExOf K E B μ m H Qx ∧ T en m Q Qx ∧
 (∀ B' μ' m' H' b, Stp B μ m H B' μ' m' H' → Rel K B' μ' en m' σ H' → Q b m' → QV b H')
theorem DT.pt {e : Expr} {T : DTT} (h : DT X E e T) : PT X e (lT X.K E T) := by
 obtain ⟨t, p, k⟩ := h.ex
 exact ⟨fun pins s σ H Q I ⟨B, μ, en, m, Q', Qx, R, hx, q, z⟩ => p.run pins s σ H Q I (k B μ en m σ H Q' Qx Q R hx q z)⟩
theorem ST.lT {T : DTT} : ST X E (lT X.K E T) T := fun B μ en m σ H Q Qx _ R hx q k => ⟨B, μ, en, m, Q, Qx, R, hx, q, k⟩
theorem PE.or {e : Expr} {t u : TE} (h : PE X e t) (k : PE X e u) : PE X e (fun σ H Q => t σ H Q ∨ u σ H Q) :=
 ⟨fun pins s σ H Q I q => q.elim (h.run pins s σ H Q I) (k.run pins s σ H Q I)⟩
theorem PI.or {tg e : Expr} {t u : TI} (h : PI X tg e t) (k : PI X tg e u) : PI X tg e (fun σ H Q => t σ H Q ∨ u σ H Q) :=
 ⟨fun pins s σ H Q I q => q.elim (h.run pins s σ H Q I) (k.run pins s σ H Q I)⟩
abbrev DTG := W → En → Me → (En → Me → Prop) → Prop
abbrev mM := List W → En → Me → (En → Me → Prop) → Prop
inductive Sts (is : List Nat) : L2.St → L2.St → Prop
 | refl (σ : L2.St) : Sts is σ σ
 | set {σ σ' : L2.St} {i : Nat} {v : V} : i ∈ is → Sts is (σ.set i (some v)) σ' → Sts is σ σ'
theorem Sts.trans {is : List Nat} {a b c : L2.St} (h : Sts is a b) (k : Sts is b c) : Sts is a c := by
 induction h with
 | refl => exact k
 | set hi _ ih => exact .set hi (ih k)
theorem Sts.mono {is js : List Nat} {a b : L2.St} (h : Sts is a b) (k : ∀ i ∈ is, i ∈ js) : Sts js a b := by
 induction h with
 | refl => exact .refl _
 | set hi _ ih => exact .set (k _ hi) ih
structure DG (X : Cx) (tg : Expr) (is : List Nat) (T : DTG) : Prop where
 ex : ∃ t, PG X tg t ∧ ∀ B μ en m σ H x v (Q : En → Me → Prop) (QV : L2.St → Hp → Prop), Rel X.K B μ en m σ H → RW X.K B μ v x → T x en m Q →
  (∀ B' μ' en' m' σ' H', Stp B μ m H B' μ' m' H' → Rel X.K B' μ' en' m' σ' H' → Sts is σ σ' → Q en' m' → QV σ' H') → t v σ H QV
structure DGs (X : Cx) (tg : List Expr) (is : List Nat) (T : mM) : Prop where
 ex : ∃ t, PGs X tg t ∧ ∀ B μ en m σ H x v (Q : En → Me → Prop) (QV : L2.St → Hp → Prop), Rel X.K B μ en m σ H → RWs X.K B μ v x → T x en m Q →
  (∀ B' μ' en' m' σ' H', Stp B μ m H B' μ' m' H' → Rel X.K B' μ' en' m' σ' H' → Sts is σ σ' → Q en' m' → QV σ' H') → t v σ H QV
def lG (K : Frag) (is : List Nat) (T : DTG) : TG := fun v σ H QV => ∃ B μ en m x Q, Rel K B μ en m σ H ∧ RW K B μ v x ∧ T x en m Q ∧ (∀ B' μ' en' m' σ' H', Stp B μ m H B' μ' m' H' → Rel K B' μ' en' m' σ' H' → Sts is σ σ' → Q en' m' → QV σ' H')
theorem DG.pg {tg : Expr} {is : List Nat} {T : DTG} (h : DG X tg is T) : PG X tg (lG X.K is T) := by
 obtain ⟨t, p, k⟩ := h.ex
 exact ⟨fun pins s σ H v u Q I r ⟨B, μ, en, m, x, Q', R, rw, q, z⟩ => p.run pins s σ H v u Q I r (k B μ en m σ H x v Q' Q R rw q z)⟩
def gN (i : Nat) : DTG := fun x en m Q => Q (List.set en i (some x)) m
theorem aX {i : Nat} {x : Str} {pos : Pos} (hN : X.N.Nodup) (hi : X.N[i]? = some x) (hx : Loc X.env.scope x) (hf : X.fn x = true ∨ X.env.scope.names.lookup x = some .local := by first | exact .inl rfl | exact .inr rfl | assumption) : DG X (.Name x pos) [i] (gN i) :=
 ⟨_, pg_name hN hi hx hf, fun B μ en m σ H x v Q QV R r T k => k B μ _ m _ H .refl (R.set r) (.set List.mem_cons_self (.refl _)) T⟩
theorem RvL.ws {K : Frag} {B : Hp} {μ : List Addr} : ∀ {vs : List V} {ds : List D}, RvL K B vs ds → RWs K B μ vs (ds.map .v)
 | _, _, .nil => .nil
 | _, _, .cons h t => .cons (RW.d h) (RvL.ws t)
def lB (i j : Nat) (ta : DTA) : DTS := fun en m N => ta en m (fun xs m1 => match xs with
 | [x, y] => N.nx (List.set (List.set en i (some x)) j (some y)) m1
 | _ => False) N.xc
theorem de {i j : Nat} {x y : Str} {a b : Expr} {ta : DTA} {px py pt pos : Pos} {kt k2 pt2} (hc : X.calm = true) (hN : X.N.Nodup) (hi : X.N[i]? = some x) (hj : X.N[j]? = some y) (hij : i ≠ j)
  (hx : X.env.scope.names.lookup x = some .local) (hy : X.env.scope.names.lookup y = some .local) (ha : DA X E [a, b] ta)
  (hw : swappedStores [.Tuple [.Name x px, .Name y py] kt pt] (.Tuple [a, b] k2 pt2) X.env = pure (some [x, y]))
  (hs : swapsWithSole [.Tuple [.Name x px, .Name y py] kt pt] (.Tuple [a, b] k2 pt2) pos.line X.env = pure false := by rfl) :
  DS X E (.Assign [.Tuple [.Name x px, .Name y py] kt pt] (.Tuple [a, b] k2 pt2) pos) (lB i j ta) := by
 obtain ⟨t1, p1, k1⟩ := ha.ex
 refine ⟨_, ps_par hc hN hi hj hij hx hy p1 hw hs, fun B μ en m σ H N D R hx T e => ?_⟩
 refine k1 B μ en m σ H _ _ _ R hx T fun B1 μ1 m1 H1 xs vs s1 R1 r q => ?_
 cases r with
 | nil => exact q.elim
 | cons a r =>
  cases r with
  | nil => exact q.elim
  | cons b r =>
   cases r with
   | nil => exact ⟨_, _, rfl, e.nx B1 μ1 _ m1 _ H1 s1 ((R1.set a).set b) q⟩
   | cons _ _ => exact q.elim
def cK (K : Frag) (B0 : Hp) (J : It) (its : List D) : Prop := ∃ G Y, Walk J its.length G Y ∧ (∀ B μ mem H, Same B0 B → MemOk K B μ mem H → G H) ∧
 ∀ i B μ mem H x H', i < its.length → Same B0 B → MemOk K B μ mem H → Y i H x H' → ∃ B' d, its[i]? = some d ∧ Stp B μ mem H B' μ mem H' ∧ MemOk K B' μ mem H' ∧ Rv K B' x d
abbrev DTI := En → Me → (List D → Me → Prop) → QX → Prop
structure DI (X : Cx) (E : XK) (tg e : Expr) (T : DTI) : Prop where
 ex : ∃ t, PI X tg e t ∧ ∀ B μ en m σ H (Q : List D → Me → Prop) (Qx : QX) (QV : It → Hp → Prop), Rel X.K B μ en m σ H → ExOf X.K E B μ m H Qx → T en m Q Qx →
  (∀ B' μ' m' H' its J, Stp B μ m H B' μ' m' H' → Rel X.K B' μ' en m' σ H' → cK X.K B' J its → Q its m' → QV J H') → t σ H QV
def cL (g : DTG) (tb : DTS) : List D → DTS
 | [] => fun en m N => N.nx en m
 | d :: ds => fun en m N => g (.v d) en m fun en1 m1 => tb en1 m1 { N with nx := fun en2 m2 => cL g tb ds en2 m2 N, ct := fun en2 m2 => cL g tb ds en2 m2 N, bk := N.nx }
def mN (ti : DTI) (g : DTG) (tb : DTS) : DTS := fun en m N => ti en m (fun its m1 => cL g tb its en m1 N) N.xc
theorem iB {tg iter : Expr} {body : List Stmt} {ti : DTI} {g : DTG} {is : List Nat} {tb : DTS} {pos : Pos} (hp : PassesOwn (model X.prog X.w) X.A X.env X.xe) (hc : X.calm = true) (hi : DI X E tg iter ti) (hg : DG X tg is g) (hb : DSs X E body tb)
  (hs : ∀ x, foldedSetIterable iter X.env x = pure x := by intro _; rfl) : DS X E (.For tg iter body [] pos) (mN ti g tb) := by
 obtain ⟨t0, p0, k0⟩ := hi.ex
 obtain ⟨t1, p1, k1⟩ := hg.ex
 obtain ⟨t2, p2, k2⟩ := hb.ex
 refine ⟨_, ps_for hp hc p0 p1 p2 hs, fun B μ en m σ H N D R hx T e => ?_⟩
 refine k0 B μ en m σ H _ _ _ R hx T fun B1 μ1 m1 H1 its J s1 R1 ⟨G, Y, w, hG, hY⟩ q => ?_
 refine for_it w (fun i σ' H' => ∃ B' μ' en' m', Stp B1 μ1 m1 H1 B' μ' m' H' ∧ Rel X.K B' μ' en' m' σ' H' ∧ cL g tb (its.drop i) en' m' N) ⟨B1, μ1, en, m1, .refl, R1, q⟩ (fun i σ' H' _ ⟨B', μ', en', m', s', R', _⟩ => hG B' μ' m' H' s'.same R'.mem) (fun i x σ' H2 H3 hi ⟨B', μ', en', m', s', R', q'⟩ y => ?_) (fun σ' H' ⟨B', μ', en', m', s', R', q'⟩ => ?_)
 ·obtain ⟨B3, d, hd, s3, m3, rd⟩ := hY i B' μ' m' H2 x H3 hi s'.same R'.mem y
  have s13 := s'.trans R'.mem s3 R1.mem.le
  have R3 := R'.stp s3 m3
  rw [List.drop_eq_getElem_cons hi] at q'
  have ed : its[i] = d := by
   rw [List.getElem?_eq_getElem hi] at hd
   exact Option.some.inj hd
  rw [ed] at q'
  refine k1 B3 μ' en' m' σ' H3 (.v d) x _ _ R3 rd q' fun B4 μ4 en4 m4 σ4 H4 s4 R4 _ q4 => ?_
  have s14 := s13.trans R3.mem s4 R1.mem.le
  have st := s1.trans R1.mem s14 R.mem.le
  refine k2 B4 μ4 en4 m4 σ4 H4 { N with nx := fun en2 m2 => cL g tb (its.drop (i + 1)) en2 m2 N, ct := fun en2 m2 => cL g tb (its.drop (i + 1)) en2 m2 N, bk := N.nx } _ R4 (hx.step st R4.mem R.mem.le) q4 ⟨?_, e.rt.step st R4.mem R.mem.le, e.nx.step st R4.mem R.mem.le, ?_⟩
  ·exact fun B5 μ5 en5 m5 σ5 H5 s5 R5 q5 => ⟨B5, μ5, en5, m5, s14.trans R4.mem s5 R1.mem.le, R5, q5⟩
  ·exact fun B5 μ5 en5 m5 σ5 H5 s5 R5 q5 => ⟨B5, μ5, en5, m5, s14.trans R4.mem s5 R1.mem.le, R5, q5⟩
 ·rw [List.drop_length] at q'
  exact e.nx B' μ' en' m' σ' H' (s1.trans R1.mem s' R.mem.le) R' q'
def whN (c : DTT) (tb : DTS) : Nat → DTS
 | 0 => fun _ _ _ => False
 | n + 1 => fun en m N => c en m (fun b m1 => if b = true then tb en m1 { N with nx := fun en2 m2 => whN c tb n en2 m2 N, ct := fun en2 m2 => whN c tb n en2 m2 N, bk := N.nx } else N.nx en m1) N.xc
def sWh (c : DTT) (tb : DTS) : DTS := fun en m N => ∃ n, whN c tb n en m N
theorem iC {c : Expr} {body : List Stmt} {tc : DTT} {tb : DTS} {pos : Pos} (hp : PassesOwn (model X.prog X.w) X.A X.env X.xe) (hc : DT X E c tc) (hb : DSs X E body tb) : DS X E (.While c body [] pos) (sWh tc tb) := by
 obtain ⟨t1, p1, k1⟩ := hc.ex
 obtain ⟨t2, p2, k2⟩ := hb.ex
 refine ⟨_, ps_while hp p1 p2, fun B μ en m σ H N D R hx T e => ?_⟩
 obtain ⟨n, T⟩ := T
 refine ⟨fun n σ' H' => ∃ B' μ' en' m', Stp B μ m H B' μ' m' H' ∧ Rel X.K B' μ' en' m' σ' H' ∧ whN tc tb n en' m' N, ⟨n, B, μ, en, m, .refl, R, T⟩, ?_⟩
 rintro n σ' H' ⟨B', μ', en', m', s', R', q'⟩
 cases n with
 | zero => exact q'.elim
 | succ n =>
  refine k1 B' μ' en' m' σ' H' _ _ _ R' (hx.step s' R'.mem R.mem.le) q' fun B1 μ1 m1 H1 b s1 R1 q => ?_
  have st := s'.trans R'.mem s1 R.mem.le
  cases b with
  | false => exact iteF (e.nx B1 μ1 en' m1 σ' H1 st R1 q)
  | true =>
   refine iteT ⟨fun σ2 H2 => ∃ B2 μ2 en2 m2, Stp B μ m H B2 μ2 m2 H2 ∧ Rel X.K B2 μ2 en2 m2 σ2 H2 ∧ whN tc tb n en2 m2 N, fun σ2 H2 h => ⟨n, Nat.lt_succ_self n, h⟩, ?_⟩
   refine k2 B1 μ1 en' m1 σ' H1 { N with nx := fun en2 m2 => whN tc tb n en2 m2 N, ct := fun en2 m2 => whN tc tb n en2 m2 N, bk := N.nx } _ R1 (hx.step st R1.mem R.mem.le) q ⟨?_, e.rt.step st R1.mem R.mem.le, e.nx.step st R1.mem R.mem.le, ?_⟩
   ·exact fun B5 μ5 en5 m5 σ5 H5 s5 R5 q5 => ⟨B5, μ5, en5, m5, st.trans R1.mem s5 R.mem.le, R5, q5⟩
   ·exact fun B5 μ5 en5 m5 σ5 H5 s5 R5 q5 => ⟨B5, μ5, en5, m5, st.trans R1.mem s5 R.mem.le, R5, q5⟩
end
def oD : W → (D → Prop) → Prop
 | .v d, Q => Q d
 | .loc _, _ => False
def oDs : List W → (List D → Prop) → Prop
 | [], Q => Q []
 | .v d :: r, Q => oDs r fun ds => Q (d :: ds)
 | .loc _ :: _, _ => False
theorem eY {K : Frag} {B : Hp} {μ : List Addr} : ∀ {xs : List W} {vs : List V} {Q : List D → Prop}, RWs K B μ vs xs → oDs xs Q → ∃ ds, RvL K B vs ds ∧ Q ds
 | [], _, _, .nil, q => ⟨[], .nil, q⟩
 | .v d :: r, _, Q, .cons a t, q => by
  obtain ⟨ds, h, k⟩ := eY (Q := fun ds => Q (d :: ds)) t q
  exact ⟨d :: ds, .cons a h, k⟩
 | .loc _ :: _, _, _, _, q => q.elim
theorem MemOk.touch {K : Frag} {B : Hp} {μ : List Addr} {m : Me} {H H' : Hp} {p : Addr} (h : MemOk K B μ m H) (nb : B p = none) (nl : ¬ Live μ m p) (k : ∀ b o, b ≠ p → H b = some o → H' b = some o) : MemOk K B μ m H' := by
 refine ⟨fun a o e => k a o (fun z => by subst z; rw [nb] at e; cases e) (h.le a o e), h.len, h.off, fun n a x e1 e2 e3 => ?_, h.inj, h.ntb⟩
 have c : a ≠ p := fun z => by
  subst z
  exact nl ⟨n, x, e1, e2, e3⟩
 exact OO.to (Same.refl _) (List.prefix_refl _) (fun o z => k a o c z) (h.at_ n a x e1 e2 e3)
theorem Stp.touch {B B' : Hp} {μ μ' : List Addr} {m m' : Me} {H H' H'' : Hp} {p : Addr} (h : Stp B μ m H B' μ' m' H') (np : H p = none) (k : ∀ b o, b ≠ p → H' b = some o → H'' b = some o) : Stp B μ m H B' μ' m' H'' :=
 ⟨h.same, h.pre, fun a o n e t => k a o (ne_of_none e np) (h.out a o n e t), h.hid⟩
theorem MemOk.none {K : Frag} {B : Hp} {μ : List Addr} {m : Me} {H : Hp} (h : MemOk K B μ m H) {p : Addr} (np : H p = none) : B p = none ∧ ¬ Live μ m p := by
 refine ⟨?_, fun l => h.there l np⟩
 cases e : B p with
 | none => rfl
 | some u => exact absurd np (h.le.some e)
def bm (en : En) : List Nat → En
 | [] => en
 | v :: vs => (bm en vs).set v none
theorem eC (en : En) : ∀ vs, (bm en vs).length = en.length
 | [] => rfl
 | v :: vs => by unfold bm; rw [List.length_set, eC en vs]
theorem fJ (en : En) (σ : L2.St) (K : Frag) (B : Hp) (μ : List Addr) (h : ∀ (i : Nat) (x : W), en[i]? = some (some x) → ∃ v, σ[i]? = some (some v) ∧ RW K B μ v x) : ∀ vs (i : Nat) (x : W), (bm en vs)[i]? = some (some x) → ∃ v, (wipe σ vs)[i]? = some (some v) ∧ RW K B μ v x
 | [], i, x, e => h i x e
 | v :: vs, i, x, e => by
  unfold bm at e
  unfold wipe
  by_cases c : v = i
  ·subst c
   have l : v < (bm en vs).length := by
    have z := (List.getElem?_eq_some_iff.mp e).1
    simpa using z
   rw [List.getElem?_set_self l] at e
   cases e
  ·rw [List.getElem?_set_ne c] at e ⊢
   exact fJ en σ K B μ h vs i x e
theorem Rel.wipe {K : Frag} {B : Hp} {μ : List Addr} {en : En} {m : Me} {σ : L2.St} {H : Hp} (R : Rel K B μ en m σ H) (vs : List Nat) : Rel K B μ (bm en vs) m (L2.wipe σ vs) H :=
 ⟨R.mem, by rw [wipe_length, eC, R.len], fJ en σ K B μ R.env vs⟩
theorem cM {σ : L2.St} {i : Nat} {x : V} : ∀ {vs : List Nat}, i ∈ vs → wipe (σ.set i (some x)) vs = wipe σ vs
 | v :: vs, h => by
  unfold wipe
  by_cases c : i ∈ vs
  ·rw [cM c]
  ·have e : i = v := (List.mem_cons.mp h).resolve_right c
   subst e
   rw [wipe_set_out c, List.set_set]
where
 wipe_set_out {σ : L2.St} {i : Nat} {x : V} : ∀ {vs : List Nat}, i ∉ vs → wipe (σ.set i (some x)) vs = (wipe σ vs).set i (some x)
  | [], _ => rfl
  | v :: vs, h => by
   unfold wipe
   rw [wipe_set_out (fun z => h (List.mem_cons_of_mem _ z))]
   exact List.set_comm _ _ (fun z => h (by rw [z]; exact List.mem_cons_self))
theorem Sts.wipe {is vs : List Nat} {a b : L2.St} (h : Sts is a b) (k : ∀ i ∈ is, i ∈ vs) : L2.wipe b vs = L2.wipe a vs := by
 induction h with
 | refl => rfl
 | set hi _ ih => rw [ih, cM (k _ hi)]
theorem cj {σ : L2.St} {i : Nat} : ∀ {vs : List Nat}, wipe (σ.set i none) vs = (wipe σ vs).set i none
 | [] => rfl
 | v :: vs => by
  unfold wipe
  rw [cj]
  by_cases c : i = v
  ·subst c
   rfl
  ·exact List.set_comm _ _ c
theorem bB (σ : L2.St) : ∀ vs : List Nat, wipe (wipe σ vs) vs = wipe σ vs
 | [] => rfl
 | v :: vs => by
  show (wipe ((wipe σ vs).set v none) vs).set v none = (wipe σ vs).set v none
  rw [cj, bB σ vs, List.set_set]
structure DTs (X : Cx) (E : XK) (es : List Expr) (T : DTT) : Prop where
 ex : ∃ t, PTs X es t ∧ ST X E t T
def tYs : DTT := fun _ m Q _ => Q true m
section
variable {X : Cx} {E : XK}
theorem bg : DTs X E [] tYs := ⟨_, pts_nil, fun B μ en m σ H Q Qx QV R hx T k => k B μ m H true .refl R T⟩
theorem DTs.pts {es : List Expr} {T : DTT} (h : DTs X E es T) : PTs X es (lT X.K E T) := by
 obtain ⟨t, p, k⟩ := h.ex
 exact ⟨fun pins s σ H Q I ⟨B, μ, en, m, Q', Qx, R, hx, q, z⟩ => p.run pins s σ H Q I (k B μ en m σ H Q' Qx Q R hx q z)⟩
def noX : QX := fun _ _ => False
theorem ExOf.no {K : Frag} {E : XK} {B : Hp} {μ : List Addr} {m : Me} {H : Hp} : ExOf K E B μ m H noX := fun _ _ _ _ _ _ _ _ _ _ _ q => q.elim
def lcL (g : DTG) (tt : DTT) (te : DTE) (en : En) : List D → List D → Me → (W → Me → Prop) → Prop
 | [], acc, m, Q => Q (.v (.lst acc)) m
 | d :: ds, acc, m, Q => g (.v d) en m fun en1 m1 => tt en1 m1 (fun b m2 => if b = true then te en1 m2 (fun y m3 => oD y fun dy => acc.length < sizeLine ∧ lcL g tt te en ds (acc ++ [dy]) m3 Q) noX else lcL g tt te en ds acc m2 Q) noX
def kG (ti : DTI) (g : DTG) (tt : DTT) (te : DTE) (vs : List Nat) : DTE := fun en m Q Qx => ti en m (fun its m1 => lcL g tt te (bm en vs) its [] m1 Q) Qx
theorem iE {elt tg iter : Expr} {ifs : List Expr} {scope : Scope} {own : List (Str × Nat)} {is : List Nat} {pos : Pos} {ti : DTI} {g : DTG} {tt : DTT} {te : DTE} (hc : X.calm = true) (hN : X.N.Nodup) (hi : DI X E tg iter ti) (ok : BlkOk X.N X.env.scope scope own)
  (hg : ∀ (s : Shared) (H : Hp) (C : Addr) (cl : List (Str × Addr)) (fp : List Addr), DG (X.blk s H scope (compEnvC scope cl C X.env) fp) tg is g) (ht : ∀ (s : Shared) (H : Hp) (C : Addr) (cl : List (Str × Addr)) (fp : List Addr), DTs (X.blk s H scope (compEnvC scope cl C X.env) fp) E0 ifs tt)
  (he : ∀ (s : Shared) (H : Hp) (C : Addr) (cl : List (Str × Addr)) (fp : List Addr), DE (X.blk s H scope (compEnvC scope cl C X.env) fp) E0 elt te) (hs : ∀ x, foldedSetIterable iter X.env x = pure x := by intro _; rfl) (hv : is.all (fun i => (own.map (·.2)).contains i) = true := by rfl) :
  DE X E (.ListComp elt [⟨tg, iter, ifs, 0⟩] scope pos) (kG ti g tt te (own.map (·.2))) := by
 obtain ⟨t0, p0, k0⟩ := hi.ex
 have hv' : ∀ i ∈ is, i ∈ own.map (·.2) := fun i h => List.contains_iff_mem.mp (List.all_eq_true.mp hv i h)
 refine ⟨_, pe_lc hc hN p0 ok (g := lG X.K is g) (tt := lT X.K E0 tt) (te := lE X.K E0 te) (fun s H C cl fp => (hg s H C cl fp).pg) (fun s H C cl fp => (ht s H C cl fp).pts) (fun s H C cl fp => (he s H C cl fp).pe) hs, fun B μ en m σ H Q Qx QV R hx T k => ?_⟩
 refine k0 B μ en m σ H _ Qx _ R hx T fun B1 μ1 m1 H1 its J s1 R1 ⟨G, Y, w, hG, hY⟩ q => ?_
 intro L nL
 obtain ⟨nb1, nl1⟩ := R1.mem.none nL
 have Rw := R1.wipe (own.map (·.2))
 generalize hen : bm en (own.map (·.2)) = enw at q Rw
 refine lc_it w (fun i H' => ∃ B' μ' m' vs acc, Stp B1 μ1 m1 H1 B' μ' m' H' ∧ MemOk X.K B' μ' m' H' ∧ B' L = none ∧ ¬ Live μ' m' L ∧ H' L = some (.lst vs) ∧ RvL X.K B' vs acc ∧ lcL g tt te enw (its.drop i) acc m' Q) ?_ (fun i H' _ ⟨B', μ', m', vs, acc, s', M', _⟩ => hG B' μ' m' H' s'.same M') (fun i x H2 H3 hi ⟨B', μ', m', vs, acc, s', M', nb, nl, hL, rv, q'⟩ y => ?_) (fun H' ⟨B', μ', m', vs, acc, s', M', nb, nl, hL, rv, q'⟩ => ?_)
 ·have kp : ∀ b o, b ≠ L → H1 b = some o → upd H1 L (.lst []) b = some o := fun b o c e => by rw [upd_ne c]; exact e
  exact ⟨B1, μ1, m1, [], [], Stp.refl.touch nL kp, R1.mem.touch nb1 nl1 kp, nb1, nl1, upd_same, .nil, q⟩
 ·obtain ⟨B3, d, hd, s3, m3, rd⟩ := hY i B' μ' m' H2 x H3 hi s'.same M' y
  have s13 := s'.trans M' s3 R1.mem.le
  obtain ⟨nb3, nl3⟩ := s3.hid L _ nl hL ⟨(fun _ z => nomatch z), (fun _ z => nomatch z)⟩ nb
  have hL3 := s3.out L _ nl hL (fun _ z => nomatch z)
  have R3 : Rel X.K B3 μ' enw m' (L2.wipe σ (own.map (·.2))) H3 := Rw.stp s13 m3
  rw [List.drop_eq_getElem_cons hi] at q'
  have ed : its[i] = d := by
   rw [List.getElem?_eq_getElem hi] at hd
   exact Option.some.inj hd
  rw [ed] at q'
  refine ⟨B3, μ', enw, m', .v d, _, R3, rd, q', fun B4 μ4 en4 m4 σ4 H4 s4 R4 st4 q4 => ⟨by rw [st4.wipe hv', bB], ?_⟩⟩
  have s14 := s13.trans m3 s4 R1.mem.le
  obtain ⟨nb4, nl4⟩ := s4.hid L _ nl3 hL3 ⟨(fun _ z => nomatch z), (fun _ z => nomatch z)⟩ nb3
  have hL4 := s4.out L _ nl3 hL3 (fun _ z => nomatch z)
  refine ⟨B4, μ4, en4, m4, _, noX, R4, ExOf.no, q4, fun B5 μ5 m5 H5 b s5 R5 q5 => ?_⟩
  have s15 := s14.trans R4.mem s5 R1.mem.le
  obtain ⟨nb5, nl5⟩ := s5.hid L _ nl4 hL4 ⟨(fun _ z => nomatch z), (fun _ z => nomatch z)⟩ nb4
  have hL5 := s5.out L _ nl4 hL4 (fun _ z => nomatch z)
  have rv5 := rv.to ((s3.same.trans s4.same).trans s5.same)
  cases b with
  | false => exact iteF ⟨B5, μ5, m5, vs, acc, s15, R5.mem, nb5, nl5, hL5, rv5, q5⟩
  | true =>
   refine iteT ⟨B5, μ5, en4, m5, _, noX, R5, ExOf.no, q5, fun B6 μ6 m6 H6 y v s6 R6 r6 q6 => ?_⟩
   cases y with
   | loc n => exact q6.elim
   | v dy =>
    obtain ⟨lz, q6⟩ := q6
    have s16 := s15.trans R5.mem s6 R1.mem.le
    obtain ⟨nb6, nl6⟩ := s6.hid L _ nl5 hL5 ⟨(fun _ z => nomatch z), (fun _ z => nomatch z)⟩ nb5
    have hL6 := s6.out L _ nl5 hL5 (fun _ z => nomatch z)
    have rv6 := rv5.to s6.same
    have kp : ∀ b o, b ≠ L → H6 b = some o → upd H6 L (.lst (vs ++ [v])) b = some o := fun b o c e => by rw [upd_ne c]; exact e
    exact ⟨vs, hL6, by rw [rv6.len]; exact lz, B6, μ6, m6, vs ++ [v], acc ++ [dy], s16.touch nL kp, R6.mem.touch nb6 nl6 kp, nb6, nl6, upd_same, rv6.append (.one r6), q6⟩
 ·rw [List.drop_length] at q'
  -- the new list becomes a datum
  have kp : ∀ b o, b ≠ L → H' b = some o → H' b = some o := fun _ _ _ e => e
  have same : Same B' (upd B' L (.lst vs)) := av nb _
  have M2 : MemOk X.K (upd B' L (.lst vs)) μ' m' H' := by
   refine ⟨fun a o e => ?_, M'.len, fun a l => ?_, fun n a x e1 e2 e3 => OO.to same (List.prefix_refl _) (fun _ z => z) (M'.at_ n a x e1 e2 e3), M'.inj, fun a ps e => by
    by_cases c : a = L
    ·subst c
     rw [upd_same] at e
     cases e
    ·rw [upd_ne c] at e
     exact M'.ntb a ps e⟩
   ·by_cases c : a = L
    ·subst c
     rw [upd_same] at e
     cases e
     exact hL
    ·rw [upd_ne c] at e
     exact M'.le a o e
   ·have c : a ≠ L := fun z => by
     subst z
     exact nl l
    rw [upd_ne c]
    exact M'.off a l
  have st : Stp B1 μ1 m1 H1 (upd B' L (.lst vs)) μ' m' H' := ⟨s'.same.trans same, s'.pre, s'.out, fun a o n e x b => by
   obtain ⟨h1, h2⟩ := s'.hid a o n e x b
   refine ⟨?_, h2⟩
   rw [upd_ne (ne_of_none e nL)]
   exact h1⟩
  have stt := s1.trans R1.mem st R.mem.le
  exact k _ μ' m' H' _ _ stt (R.stp stt M2) (RW.d (.lst upd_same (rv.to same))) q'
end
section
variable {X : Cx} {E : XK} {es : List Expr} {ta : DTA} {pos : Pos}
def tTu (ta : DTA) : DTE := fun en m Q Qx => ta en m (fun xs m1 => oDs xs fun ds => ds.length ≤ sizeLine ∧ Q (.v (.tup ds)) m1) Qx
def tLs (ta : DTA) : DTE := fun en m Q Qx => ta en m (fun xs m1 => oDs xs fun ds => ds.length ≤ sizeLine ∧ Q (.v (.lst ds)) m1) Qx
theorem cN {x1 : Nat} (h : DA X E es ta) : DE X E (.Tuple es x1 pos) (tTu ta) := by
 obtain ⟨t1, p1, k1⟩ := h.ex
 refine ⟨_, pe_tup p1, fun B μ en m σ H Q Qx QV R hx T k => ?_⟩
 refine k1 B μ en m σ H _ Qx _ R hx T fun B1 μ1 m1 H1 xs vs s1 R1 r q => ?_
 obtain ⟨ds, rl, hz, q⟩ := eY r q
 refine ⟨by rw [rl.len]; exact hz, fun p np => ?_⟩
 have sl := Stp.laid R1.mem np (o := .tup vs)
 have st := s1.trans R1.mem sl R.mem.le
 exact k _ μ1 m1 _ _ _ st (R.stp st (R1.mem.laid np)) (RW.d (.tup (.inl upd_same) (rl.to sl.same))) q
theorem a7 (h : DA X E es ta) : DE X E (.List es pos) (tLs ta) := by
 obtain ⟨t1, p1, k1⟩ := h.ex
 refine ⟨_, pe_lst p1, fun B μ en m σ H Q Qx QV R hx T k => ?_⟩
 refine k1 B μ en m σ H _ Qx _ R hx T fun B1 μ1 m1 H1 xs vs s1 R1 r q => ?_
 obtain ⟨ds, rl, hz, q⟩ := eY r q
 refine ⟨by rw [rl.len]; exact hz, fun p np => ?_⟩
 have sl := Stp.laid R1.mem np (o := .lst vs)
 have st := s1.trans R1.mem sl R.mem.le
 exact k _ μ1 m1 _ _ _ st (R.stp st (R1.mem.laid np)) (RW.d (.lst upd_same (rl.to sl.same))) q
def mO (ta : DTA) : DTE := fun en m Q Qx => ta en m (fun xs m1 => oDs xs fun ds => ds.length ≤ sizeLine ∧ Q (.loc m1.length) (m1 ++ [.lst ds])) Qx
theorem kH (h : DA X E es ta) : DE X E (.List es pos) (mO ta) := by
 obtain ⟨t1, p1, k1⟩ := h.ex
 refine ⟨_, pe_lst p1, fun B μ en m σ H Q Qx QV R hx T k => ?_⟩
 refine k1 B μ en m σ H _ Qx _ R hx T fun B1 μ1 m1 H1 xs vs s1 R1 r q => ?_
 obtain ⟨ds, rl, hz, q⟩ := eY r q
 refine ⟨by rw [rl.len]; exact hz, fun p np => ?_⟩
 have kp : ∀ a o, a ≠ p → H1 a = some o → upd H1 p (.lst vs) a = some o := fun a o c e => by rw [upd_ne c]; exact e
 have sl := Stp.push R1.mem np (m := .lst ds) kp
 have st := s1.trans R1.mem sl R.mem.le
 have mo := R1.mem.push np (m := .lst ds) (fun a o e => kp a o (ne_of_none (R1.mem.le a o e) np) (R1.mem.le a o e)) kp ⟨vs, upd_same, rl⟩
 refine k _ _ _ _ (.loc m1.length) _ st (R.stp st mo) ⟨p, rfl, ?_⟩ q
 rw [← R1.mem.len]
 simp
abbrev SpD := List W → Me → (W → Me → Prop) → QX → Prop
def af (K : Frag) (sp : SpD) : Sp := fun vs H Q E => ∃ B μ m ws Qd Qx, MemOk K B μ m H ∧ RWs K B μ vs ws ∧ sp ws m Qd Qx ∧ ExOf K E B μ m H Qx ∧
 ∀ B' μ' m' H' x v, Stp B μ m H B' μ' m' H' → MemOk K B' μ' m' H' → RW K B' μ' v x → Qd x m' → Q v H'
def kI (sp : SpD) (ta : DTA) : DTE := fun en m Q Qx => ta en m (fun xs m1 => sp xs m1 Q Qx) Qx
section
variable {CX : CXT} {k : Nat} {x : Str} {ps : List Str} {sp : SpD} {e : Expr} {p : Pos}
theorem SA.call {t : TA} {dv : List V} {dw : List D} (h : SA X E t ta) (hd : ∀ B, RvL X.K B dv dw) : SE X E (tCall (af X.K sp) dv E t) (kI (fun ws => sp (ws ++ dw.map .v)) ta) := by
 intro B μ en m σ H Q Qx QV R hx T k
 refine h B μ en m σ H _ Qx _ R hx T fun B1 μ1 m1 H1 xs vs s1 R1 r q => ?_
 have ra : RWs X.K B1 μ1 (vs ++ dv) (xs ++ dw.map .v) := by
  clear q
  induction r with
  | nil => exact (hd B1).ws
  | cons a _ ih => exact .cons a ih
 refine ⟨B1, μ1, m1, _, _, Qx, R1.mem, ra, q, hx.step s1 R1.mem R.mem.le, fun B2 μ2 m2 H2 y v s2 m2' r2 q2 => ?_⟩
 have st := s1.trans R1.mem s2 R.mem.le
 exact k B2 μ2 m2 H2 y v st (R.stp st m2') r2 q2
theorem SE.imp {t : TE} {T T' : DTE} (h : SE X E t T) (k : ∀ en m Q Qx, T' en m Q Qx → T en m Q Qx) : SE X E t T' := fun B μ en m σ H Q Qx QV R hx q z => h B μ en m σ H Q Qx QV R hx (k _ _ _ _ q) z
theorem aA (G : Gd X.prog X.w X.K X.mg X.base CX k x ps (af X.K sp)) (hr : Room k X.A) (hx : Passes CX X E) (ha : DA X E (e :: es) ta)
  (hg : Gl X x := by rfl) (hdb : (x == ("__debug__" : Str)) = false := by decide) (he : starEach (e :: es) X.env = (false, eval e X.env) :: starEach es X.env := by rfl) (hpl : (backTo pos (starEach es X.env)).any (·.1) = false := by rfl) :
  DE X E (.Call (.Name x p) (e :: es) [] pos) (kI sp ta) := by
 obtain ⟨t1, p1, k1⟩ := ha.ex
 refine ⟨_, lr G hr hx p1 hg hdb he hpl, (SA.call (dv := []) (dw := []) k1 fun _ => .nil).imp fun en m Q Qx q => ?_⟩
 unfold kI at q ⊢
 simpa using q
end
end
def bn (N : List Str) (ws : List W) : En := ws.map some ++ List.replicate (N.length - ws.length) none
def rtD (m : Me) (Q : W → Me → Prop) : W → Me → Prop := fun x m' => oD x fun d => m <+: m' ∧ Q (.v d) m
def xcD (m : Me) (Qx : QX) : QX := fun er m' => m <+: m' ∧ Qx er m
def jB (m : Me) (Q : W → Me → Prop) (Qx : QX) : Dn := ⟨fun _ m' => rtD m Q (.v .non) m', rtD m Q, fun _ _ => False, fun _ _ => False, xcD m Qx⟩
def iG (Q : W → Me → Prop) (Qx : QX) : Dn := ⟨fun _ m' => Q (.v .non) m', Q, fun _ _ => False, fun _ _ => False, Qx⟩
theorem dR {K : Frag} {B : Hp} {μ : List Addr} {m : Me} {H : Hp} {N : List Str} {vs : List V} {ws : List W} (M : MemOk K B μ m H) (r : RWs K B μ vs ws) : Rel K B μ (bn N ws) m (L2.start N vs) H := by
 refine ⟨M, by simp [bn, L2.start, r.len], fun i x e => ?_⟩
 unfold bn at e
 unfold L2.start
 have at_ : ∀ {vs : List V} {ws : List W} {i : Nat} {x : W}, RWs K B μ vs ws → ws[i]? = some x → ∃ v, vs[i]? = some v ∧ RW K B μ v x := by
  intro vs ws i x r
  induction r generalizing i with
  | nil => intro e; simp at e
  | cons a _ ih =>
   intro e
   cases i with
   | zero => simp at e; subst e; exact ⟨_, rfl, a⟩
   | succ i =>
    obtain ⟨v, h1, h2⟩ := ih (i := i) (by simpa using e)
    exact ⟨v, by simpa using h1, h2⟩
 by_cases c : i < ws.length
 ·rw [List.getElem?_append_left (by simpa using c), List.getElem?_map] at e
  obtain ⟨w, hw, ew⟩ : ∃ w, ws[i]? = some w ∧ some w = some x := by
   cases q : ws[i]? with
   | none => rw [q] at e; cases e
   | some w => rw [q] at e; exact ⟨w, rfl, Option.some.inj e⟩
  cases ew
  obtain ⟨v, h1, h2⟩ := at_ r hw
  refine ⟨v, ?_, h2⟩
  rw [List.getElem?_append_left (by rw [List.length_map, r.len]; exact c), List.getElem?_map, h1]
  rfl
 ·rw [List.getElem?_append_right (by simpa using Nat.le_of_not_lt c)] at e
  have z := List.mem_of_getElem? e
  rw [List.mem_replicate] at z
  cases z.2
section
variable {P : Program} {w : World} {K : Frag} {mg : Str → Option Value} {base : Heap} {x : Str} {st : Stmt} {N ps : List Str} {k : Nat} {sp : SpD}
theorem SS.def_ {X : Cx} {E : XK} {t : TS} {T : DTS} (h : SS X E t T) {vs : List V} {H : Hp} {Q : VK} (hT : ∀ ws m Qd Qx, sp ws m Qd Qx → T (bn N ws) m (jB m Qd Qx)) (q : af X.K sp vs H Q E) : t { nx := fun _ H' => Q .non H', rt := Q } (L2.start N vs) H := by
 obtain ⟨B, μ, m, ws, Qd, Qx, M, r, hs, hx, hq⟩ := q
 have fin : ∀ B' μ' m' H' x v, Stp B μ m H B' μ' m' H' → MemOk X.K B' μ' m' H' → RW X.K B' μ' v x → rtD m Qd x m' → Q v H' := fun B' μ' m' H' x v s M' r q => by
  cases x with
  | loc n => exact q.elim
  | v d =>
   obtain ⟨⟨more, rfl⟩, q⟩ := q
   exact hq B' μ m H' (.v d) v s.drop (M.drop s.pre M') r q
 refine h B μ (bn N ws) m (L2.start N vs) H (jB m Qd Qx) _ (dR M r) (fun B' μ' m' H' er dd fvs s M' hd rf q => ?_) (hT ws m Qd Qx hs) ⟨fun B' μ' en' m' σ' H' s R' q => ?_, fin, fun _ _ _ _ _ _ _ _ q => q.elim, fun _ _ _ _ _ _ _ _ q => q.elim⟩
 ·obtain ⟨⟨more, rfl⟩, q⟩ := q
  exact hx B' μ m H' er dd fvs s.drop (M.drop s.pre M') hd rf q
 ·exact fin B' μ' m' H' (.v .non) .non s R'.mem (RW.d .non) q
theorem SS.defo {X : Cx} {E : XK} {t : TS} {T : DTS} (h : SS X E t T) {vs : List V} {H : Hp} {Q : VK} (hT : ∀ ws m Qd Qx, sp ws m Qd Qx → T (bn N ws) m (iG Qd Qx)) (q : af X.K sp vs H Q E) : t { nx := fun _ H' => Q .non H', rt := Q } (L2.start N vs) H := by
 obtain ⟨B, μ, m, ws, Qd, Qx, M, r, hs, hx, hq⟩ := q
 refine h B μ (bn N ws) m (L2.start N vs) H (iG Qd Qx) _ (dR M r) hx (hT ws m Qd Qx hs) ⟨fun B' μ' en' m' σ' H' s R' q => ?_, fun B' μ' m' H' x v s M' r q => hq B' μ' m' H' x v s M' r q, fun _ _ _ _ _ _ _ _ q => q.elim, fun _ _ _ _ _ _ _ _ q => q.elim⟩
 exact hq B' μ' m' H' (.v .non) .non s R'.mem (RW.d .non) q
theorem iI (S : FnScope N ps (defScope st)) (ar : ∀ ws m Q Qx, sp ws m Q Qx → ws.length = ps.length)
  (hbody : ∀ (f : Addr) (cdv : Value) (A : Around) (outer : List Env) (s : Shared) (H : Hp) (E : XK), Room k (A.deeper (envOfC x (defScope st) s.heap.objs.size f cdv)) →
   ∃ T, DSs (cxOf (L2.CX P w) P w K mg base N x (defScope st) f cdv A outer s H E) E (defBody st) T ∧ ∀ ws m Qd Qx, sp ws m Qd Qx → T (bn N ws) m (jB m Qd Qx))
  (dfl : List V) (kwd : List (Str × V)) : Fo P w K mg base (L2.CX P w) (k + 1) x st dfl kwd ps (af K sp) := by
 refine iv S (fun vs H Q E ⟨B, μ, m, ws, Qd, Qx, M, r, hs, _⟩ => by rw [r.len]; exact ar _ _ _ _ hs) fun f cdv A outer s H vs Q E hr h => ?_
 obtain ⟨T, hd, hT⟩ := hbody f cdv A outer s H E hr
 obtain ⟨t, hp, hs⟩ := hd.ex
 exact ⟨t, hp, hs.def_ hT h⟩
end
theorem aB {X : Cx} : Passes (L2.CX X.prog X.w) X E0 := fun pins σ H s e s' I ⟨a, B, H', cls, d, _, _, _, _, _, _, _, q⟩ => q.elim
def sbs (n : Nat) (d : D) : Option W → Option W
 | some (.loc k) => if k = n then some (.v d) else some (.loc k)
 | o => o
def ck (m : Me) (n : Nat) (Q : List D → Prop) : Prop := match m[n]? with
 | some (.lst ds) => Q ds
 | _ => False
theorem dS {m : Me} {n : Nat} {Q : List D → Prop} (h : ck m n Q) : ∃ ds, m[n]? = some (.lst ds) ∧ Q ds := by
 unfold ck at h
 split at h
 ·rename_i ds e
  exact ⟨ds, e, h⟩
 ·exact h.elim
def sFz (i : Nat) (u : DTS) : DTS := fun en m N => match En.get en i with
 | some (.loc n) => ck m n fun ds => u (en.map (sbs n (.lst ds))) (m.set n .gone) N
 | some (.v _) => u en m N
 | none => False
section
variable {X : Cx} {E : XK}
theorem Rel.freeze {K : Frag} {B : Hp} {μ : List Addr} {en : En} {m : Me} {σ : L2.St} {H : Hp} {n : Nat} {a : Addr} {mo : MO} {d : D} {o : HO} (R : Rel K B μ en m σ H) (ha : μ[n]? = some a) (hm : m[n]? = some mo) (hl : mo.live = true) (ho : H a = some o) (hr : Rv K (upd B a o) (.ref a) d) (no : ∀ ps, o ≠ .tbl ps := by exact fun _ z => nomatch z) : Rel K (upd B a o) μ (en.map (sbs n d)) (m.set n .gone) σ H := by
 have nb := R.mem.off a ⟨n, mo, ha, hm, hl⟩
 refine ⟨R.mem.freeze ha hm hl ho no, by simp [R.len], fun i x e => ?_⟩
 rw [List.getElem?_map] at e
 cases q : en[i]? with
 | none => rw [q] at e; cases e
 | some y =>
  rw [q] at e
  have e : sbs n d y = some x := Option.some.inj e
  cases y with
  | none => cases e
  | some y =>
   obtain ⟨v, h1, h2⟩ := R.env i y q
   cases y with
   | v d2 =>
    cases e
    exact ⟨v, h1, h2.to (av nb o) (List.prefix_refl _)⟩
   | loc k =>
    have e : (if k = n then some (W.v d) else some (W.loc k)) = some x := e
    obtain ⟨b, rfl, hb⟩ := h2
    by_cases c : k = n
    ·rw [if_pos c] at e
     cases e
     subst c
     have z : a = b := Option.some.inj (ha.symm.trans hb)
     subst z
     exact ⟨_, h1, hr⟩
    ·rw [if_neg c] at e
     cases e
     exact ⟨_, h1, b, rfl, hb⟩
theorem kJ {st : List Stmt} {u : DTS} (i : Nat) (h : DSs X E st u) : DSs X E st (sFz i u) := by
 obtain ⟨t1, p1, k1⟩ := h.ex
 refine ⟨_, p1, fun B μ en m σ H N D R hx T e => ?_⟩
 unfold sFz at T
 split at T
 ·rename_i n hn
  obtain ⟨ds, hm, T⟩ := dS T
  obtain ⟨v, h1, a, rfl, ha⟩ := R.env i _ (En.get_some hn)
  obtain ⟨vs, hv, rl⟩ := R.mem.at_ n a _ ha hm rfl
  have nb := R.mem.off a ⟨n, _, ha, hm, rfl⟩
  have sf := Stp.freeze (H := H) (o := .lst vs) ha hm rfl nb
  have R1 := R.freeze ha hm rfl hv (.lst upd_same (rl.to sf.same))
  exact k1 _ μ _ _ σ H N D R1 (hx.step sf R1.mem R.mem.le) T (e.step sf R1.mem R.mem.le)
 ·exact k1 B μ en m σ H N D R hx T e
 ·exact T.elim
abbrev DMt := W → List W → Me → (D → Me → Prop) → Prop
def SM (X : Cx) (r : V → List V → Hp → VK → Prop) (o : DMt) : Prop := ∀ B μ m H x xs v vs (Q : D → Me → Prop) (QV : VK), MemOk X.K B μ m H → RW X.K B μ v x → RWs X.K B μ vs xs → o x xs m Q →
 (∀ B' m' H' d z, Stp B μ m H B' μ m' H' → MemOk X.K B' μ m' H' → Rv X.K B' z d → Q d m' → QV z H') → r v vs H QV
def STy (X : Cx) (T : String) (ty : W → Me → Prop) : Prop := ∀ B μ m H x v, MemOk X.K B μ m H → RW X.K B μ v x → ty x m → tyV X.K T v H
def tMe (ty : W → Me → Prop) (o : DMt) (to : DTE) (ta : DTA) : DTE := fun en m Q Qx => to en m (fun x m1 => ty x m1 ∧ ta en m1 (fun xs m2 => o x xs m2 fun d m3 => Q (.v d) m3) Qx) Qx
theorem lC {T : String} {name : Str} {id : String} {r : V → List V → Hp → VK → Prop} {op : DMt} {ty : W → Me → Prop} {o e : Expr} {es : List Expr} {to : DTE} {ta : DTA} {apos cpos : Pos} (pa : PlainAttrs T) (slot : Slot T name id) (hty : typeOf (.builtin id) = pure (.type "method_descriptor")) (hm : MtR X id r) (so : SM X r op) (st : STy X T ty) (ho : DE X E o to) (ha : DA X E (e :: es) ta)
  (hbase : attributeBase o name X.env (eval o X.env) = eval o X.env := by rfl)
  (hfew : ((backTo cpos (starEach (e :: es) X.env)).all (fun x => !x.1) && (backToKw cpos (keywordEach [] X.env)).all (fun x => x.1.isSome)
   && decide ((e :: es).length + ([] : List Keyword).length + (if ([] : List Keyword).isEmpty then 0 else 1) < 30)) = true := by rfl)
  (hline : (apos.endLine == cpos.line) = true := by rfl) (hs : starEach (e :: es) X.env = (false, eval e X.env) :: starEach es X.env := by rfl) (hplain : (backTo cpos (starEach es X.env)).any (·.1) = false := by rfl) :
  DE X E (.Call (.Attribute o name apos) (e :: es) [] cpos) (tMe ty op to ta) := by
 obtain ⟨t1, p1, k1⟩ := ho.ex
 obtain ⟨t2, p2, k2⟩ := ha.ex
 refine ⟨_, pe_bm pa slot hty hm p1 p2 hbase hfew hline hs hplain, fun B μ en m σ H Q Qx QV R hx T k => ?_⟩
 refine k1 B μ en m σ H _ Qx _ R hx T fun B1 μ1 m1 H1 x v s1 R1 r1 ⟨q1, q2⟩ => ⟨st B1 μ1 m1 H1 x v R1.mem r1 q1, ?_⟩
 refine k2 B1 μ1 en m1 σ H1 _ Qx _ R1 (hx.step s1 R1.mem R.mem.le) q2 fun B2 μ2 m2 H2 xs vs s2 R2 r2 q3 => ?_
 refine so B2 μ2 m2 H2 x xs v vs _ _ R2.mem (r1.to s2.same s2.pre) r2 q3 fun B3 m3 H3 d z s3 M3 rz q4 => ?_
 have st := (s1.trans R1.mem s2 R.mem.le).trans R2.mem s3 R.mem.le
 exact k B3 μ2 m3 H3 (.v d) z st (R.stp st M3) rz q4
def lF : W → Me → Prop
 | .loc n, m => ck m n fun _ => True
 | _, _ => False
def kK : DMt := fun x xs m Q => match x, xs with
 | .loc n, [.v d] => ck m n fun ds => ds.length < sizeLine ∧ Q .non (m.set n (.lst (ds ++ [d])))
 | _, _ => False
theorem jC : STy X "list" lF := by
 intro B μ m H x v M r q
 cases x with
 | v d => exact q.elim
 | loc n =>
  obtain ⟨ds, hm, _⟩ := dS q
  obtain ⟨a, rfl, ha⟩ := r
  obtain ⟨vs, hv, _⟩ := M.at_ n a _ ha hm rfl
  exact .inl ⟨rfl, vs, .inl (.inl hv)⟩
theorem jD : SM X rAppend kK := by
 intro B μ m H x xs v vs Q QV M r rs q k
 unfold kK at q
 split at q
 ·rename_i x xs n d
  obtain ⟨ds, hm, q⟩ := dS q
  obtain ⟨a, rfl, ha⟩ := r
  obtain ⟨us, hv, rl⟩ := M.at_ n a _ ha hm rfl
  cases rs with
  | cons rd rn =>
   cases rn with
   | nil =>
    rename_i vd
    have kp : ∀ b o, b ≠ a → H b = some o → upd H a (.lst (us ++ [vd])) b = some o := fun b o c e => by rw [upd_ne c]; exact e
    refine ⟨a, us, vd, rfl, rfl, hv, by rw [rl.len]; exact q.1, ?_⟩
    have new : OO X.K B μ (upd H a (.lst (us ++ [vd]))) a (.lst (ds ++ [d])) := ⟨_, upd_same, rl.append (.one rd)⟩
    exact k B _ _ .non _ (Stp.store ha hm rfl kp) (M.store ha hm rfl rfl kp new) .non q.2
 ·exact q.elim
theorem iJ {o e : Expr} {to : DTE} {ta : DTA} {apos pos : Pos} (ho : DE X E o to) (ha : DA X E [e] ta) (hb : attributeBase o "append" X.env (eval o X.env) = eval o X.env := by rfl)
  (hfew : ((backTo pos (starEach [e] X.env)).all (fun x => !x.1) && (backToKw pos (keywordEach [] X.env)).all (fun x => x.1.isSome)
   && decide ([e].length + ([] : List Keyword).length + (if ([] : List Keyword).isEmpty then 0 else 1) < 30)) = true := by rfl)
  (hline : (apos.endLine == pos.line) = true := by rfl) (hs : starEach [e] X.env = (false, eval e X.env) :: starEach [] X.env := by rfl) (hplain : (backTo pos (starEach [] X.env)).any (·.1) = false := by rfl) :
  DE X E (.Call (.Attribute o "append" apos) [e] [] pos) (tMe lF kK to ta) := lC PySem.F.plainAttrs_list PySem.F.slot_list_append PySem.F.type_list_append mt_append jD jC ho ha hb hfew hline hs hplain
def cO : Option MO → (D → Prop) → Prop
 | some (.lst ds), Q => Q (.lst ds)
 | some (.dic ds), Q => Q (.dic ds)
 | _, _ => False
def look : W → Me → (D → Prop) → Prop
 | .v d, _, Q => Q d
 | .loc n, m, Q => cO m[n]? Q
def Top (K : Frag) (B H : Hp) (v : V) : D → Prop
 | .tup ds => ∃ a vs, v = .ref a ∧ TqT K B a vs ∧ RvL K B vs ds
 | .lst ds => ∃ a vs, v = .ref a ∧ H a = some (.lst vs) ∧ RvL K B vs ds
 | .dic ds => ∃ a vs, v = .ref a ∧ Rd H a (.dK vs) ∧ RvK K B vs ds
 | .obj C ds => ∃ a dx vs, v = .ref a ∧ H a = some (.ins C dx vs) ∧ RvF K B vs ds
 | d => Rv K B v d
theorem Rv.top {K : Frag} {B H : Hp} (le : Le B H) {v : V} {d : D} (r : Rv K B v d) : Top K B H v d := by
 cases r with
 | tup h a => exact ⟨_, _, rfl, h, a⟩
 | lst h a => exact ⟨_, _, rfl, le _ _ h, a⟩
 | dic h a => exact ⟨_, _, rfl, .inr ⟨_, le _ _ h⟩, a⟩
 | obj h a => exact ⟨_, _, _, rfl, le _ _ h, a⟩
 | exc h g a => exact .exc h g a
 | lam h => exact .lam h
 | non => exact .non
 | bl b => exact .bl b
 | int i => exact .int i
 | str h => exact .str h
 | ty n => exact .ty n
 | fn a => exact .fn a
theorem aN {K : Frag} {B : Hp} {μ : List Addr} {m : Me} {H : Hp} {v : V} (M : MemOk K B μ m H) : ∀ {x : W} {Q : D → Prop}, RW K B μ v x → look x m Q → ∃ d, Top K B H v d ∧ Q d
 | .v d, Q, r, q => ⟨d, Rv.top M.le r, q⟩
 | .loc n, Q, ⟨a, e, ha⟩, q => by
  subst e
  have q : cO m[n]? Q := q
  cases hm : m[n]? with
  | none => rw [hm] at q; exact q.elim
  | some mo =>
   rw [hm] at q
   cases mo with
   | lst ds =>
    obtain ⟨vs, hv, rl⟩ := M.at_ n a _ ha hm rfl
    exact ⟨.lst ds, ⟨a, vs, rfl, hv, rl⟩, q⟩
   | dic ds =>
    obtain ⟨vs, hv, rl⟩ := M.at_ n a _ ha hm rfl
    exact ⟨.dic ds, ⟨a, vs, rfl, .inl hv, rl⟩, q⟩
   | ins C fs => exact q.elim
   | bag => exact q.elim
   | tab _ _ => exact q.elim
   | gone => exact q.elim
end
abbrev okS (x : Str) : Bool := PySem.PyData.strOk x
theorem eZ {x y : Str} (h : okS x = true) (k : okS y = true) : okS (x ++ y) = true := by
 unfold okS PySem.PyData.strOk at *
 show Array.all (x.cps ++ y.cps) _ = true
 rw [Array.all_append, h, k]
 rfl
theorem aO {x : Str} : okS x = true ↔ ∀ c ∈ x.cps.toList, c < 0x110000 := by
 unfold okS PySem.PyData.strOk
 rw [← Array.all_toList, List.all_eq_true]
 simp
mutual
def bd : D → Bool
 | .non | .bl _ | .int _ | .str _ => true
 | .tup xs => plainL xs
 | .lst xs => plainL xs
 | _ => false
def plainL : List D → Bool
 | [] => true
 | x :: xs => bd x && plainL xs
end
mutual
def pyD : D → PyData
 | .bl b => .bool b
 | .int i => .int i
 | .str x => .str x
 | .tup xs => .tuple (pyL xs)
 | .lst xs => .list (pyL xs)
 | _ => .none
def pyL : List D → List PyData
 | [] => []
 | x :: xs => pyD x :: pyL xs
end
mutual
def e7 : D → Nat
 | .tup xs => depL xs + 1
 | .lst xs => depL xs + 1
 | _ => 0
def depL : List D → Nat
 | [] => 0
 | x :: xs => max (e7 x) (depL xs)
end
mutual
def deq : D → D → Bool
 | .non, .non => true
 | .bl a, .bl b => a == b
 | .bl a, .int j => (if a then 1 else 0) == j
 | .int i, .bl b => i == (if b then 1 else 0)
 | .int i, .int j => i == j
 | .str x, .str y => x == y
 | .lst xs, .lst ys => deqL xs ys
 | .tup xs, .tup ys => deqL xs ys
 | _, _ => false
def deqL : List D → List D → Bool
 | [], [] => true
 | x :: xs, y :: ys => deq x y && deqL xs ys
 | _, _ => false
end
mutual
theorem e8 : ∀ {x y : D}, bd x = true → bd y = true → PyData.eqv (pyD x) (pyD y) = deq x y
 | .non, y, _, h => by cases y <;> first | rfl | cases h
 | .bl _, y, _, h => by cases y <;> first | rfl | cases h
 | .int _, y, _, h => by cases y <;> first | rfl | cases h
 | .str _, y, _, h => by cases y <;> first | rfl | cases h
 | .lst xs, y, g, h => by
  cases y with
  | lst ys => exact deqL_py (x := xs) (y := ys) g h
  | non => rfl
  | bl _ => rfl
  | int _ => rfl
  | str _ => rfl
  | tup _ => rfl
  | dic _ => cases h
  | obj _ _ => cases h
  | exc _ _ => cases h
  | lam _ _ _ => cases h
  | ty _ => cases h
  | fn _ => cases h
 | .tup xs, y, g, h => by
  cases y with
  | tup ys => exact deqL_py (x := xs) (y := ys) g h
  | non => rfl
  | bl _ => rfl
  | int _ => rfl
  | str _ => rfl
  | lst _ => rfl
  | dic _ => cases h
  | obj _ _ => cases h
  | exc _ _ => cases h
  | lam _ _ _ => cases h
  | ty _ => cases h
  | fn _ => cases h
theorem deqL_py : ∀ {x y : List D}, plainL x = true → plainL y = true → PyData.eqvAll (pyL x) (pyL y) = deqL x y
 | [], [], _, _ => rfl
 | [], _ :: _, _, _ => rfl
 | _ :: _, [], _, _ => rfl
 | x :: xs, y :: ys, g, h => by
  have g := Bool.and_eq_true_iff.mp g
  have h := Bool.and_eq_true_iff.mp h
  show (PyData.eqv (pyD x) (pyD y) && PyData.eqvAll (pyL xs) (pyL ys)) = (deq x y && deqL xs ys)
  rw [e8 g.1 h.1, deqL_py g.2 h.2]
end
mutual
theorem gk : ∀ (x : D), (pyD x).depth = e7 x
 | .tup xs => congrArg (· + 1) (depL_py xs)
 | .lst xs => congrArg (· + 1) (depL_py xs)
 | .non => rfl
 | .bl _ => rfl
 | .int _ => rfl
 | .str _ => rfl
 | .dic _ => rfl
 | .obj _ _ => rfl
 | .exc _ _ => rfl
 | .lam _ _ _ => rfl
 | .ty _ => rfl
 | .fn _ => rfl
theorem depL_py : ∀ (x : List D), PyData.depthAll (pyL x) = depL x
 | [] => rfl
 | x :: xs => by
  show max (pyD x).depth (PyData.depthAll (pyL xs)) = max (e7 x) (depL xs)
  rw [gk x, depL_py xs]
end
mutual
theorem Rv.dp {K : Frag} {B : Hp} : ∀ {v : V} {d : D}, Rv K B v d → bd d = true → Dp K B v (pyD d)
 | _, _, .non, _ => .non
 | _, _, .bl b, _ => .bl b
 | _, _, .int i, _ => .int i
 | _, _, .str _, _ => .str _
 | _, _, .tup h r, p => .tup h.sq (RvL.dp r p)
 | _, _, .lst h r, p => .lst (.inl (.inl h)) (RvL.dp r p)
 | _, _, .ty _, p => by cases p
 | _, _, .fn _, p => by cases p
 | _, _, .dic _ _, p => by cases p
 | _, _, .obj _ _, p => by cases p
 | _, _, .exc _ _ _, p => by cases p
 | _, _, .lam _, p => by cases p
theorem RvL.dp {K : Frag} {B : Hp} : ∀ {v : List V} {d : List D}, RvL K B v d → plainL d = true → DpAll K B v (pyL d)
 | _, _, .nil, _ => .nil
 | _, _, .cons h t, p => .cons (Rv.dp h (Bool.and_eq_true_iff.mp p).1) (RvL.dp t (Bool.and_eq_true_iff.mp p).2)
end
mutual
theorem Rv.lay {K : Frag} {B : Hp} : ∀ {v : V} {d : D}, Rv K B v d → bd d = true → (pyD d).canLay0 = true
 | _, _, .non, _ => rfl
 | _, _, .bl b, _ => rfl
 | _, _, .int i, _ => rfl
 | _, _, .str h, _ => h
 | _, _, .tup h r, p => RvL.lay r p
 | _, _, .lst h r, p => RvL.lay r p
 | _, _, .ty _, p => by cases p
 | _, _, .fn _, p => by cases p
 | _, _, .dic _ _, p => by cases p
 | _, _, .obj _ _, p => by cases p
 | _, _, .exc _ _ _, p => by cases p
 | _, _, .lam _, p => by cases p
theorem RvL.lay {K : Frag} {B : Hp} : ∀ {v : List V} {d : List D}, RvL K B v d → plainL d = true → PyData.canLayAll0 (pyL d) = true
 | _, _, .nil, _ => rfl
 | _, _, .cons h t, p => by
  show ((pyD _).canLay0 && PyData.canLayAll0 (pyL _)) = true
  rw [Rv.lay h (Bool.and_eq_true_iff.mp p).1, RvL.lay t (Bool.and_eq_true_iff.mp p).2]
  rfl
end
theorem Top.dp {K : Frag} {B H : Hp} (le : Le B H) {v : V} : ∀ {d : D}, Top K B H v d → bd d = true → Dp K H v (pyD d) ∧ (pyD d).canLay0 = true
 | .non, h, p => ⟨Dp.to le (Rv.dp h p), Rv.lay h p⟩
 | .bl b, h, p => ⟨Dp.to le (Rv.dp h p), Rv.lay h p⟩
 | .int i, h, p => ⟨Dp.to le (Rv.dp h p), Rv.lay h p⟩
 | .str x, h, p => ⟨Dp.to le (Rv.dp h p), Rv.lay h p⟩
 | .tup xs, ⟨a, vs, e, hs, r⟩, p => by
  subst e
  exact ⟨.tup (le.tup hs) (DpAll.to le (RvL.dp r p)), RvL.lay r p⟩
 | .lst xs, ⟨a, vs, e, hs, r⟩, p => by
  subst e
  exact ⟨.lst (.inl (.inl hs)) (DpAll.to le (RvL.dp r p)), RvL.lay r p⟩
 | .ty _, _, p => by cases p
 | .fn _, _, p => by cases p
 | .dic _, _, p => by cases p
 | .obj _ _, _, p => by cases p
 | .exc _ _, _, p => by cases p
 | .lam _ _ _, _, p => by cases p
abbrev F2 := D → D → (D → Prop) → Prop
def oL (f : F2) : DOp := fun x y m Q => look x m fun dx => look y m fun dy => f dx dy Q
section
variable {X : Cx} {E : XK}
theorem SO.of {r : R2} {f : F2} (h : ∀ B μ m H v u dx dy (Q : D → Prop) (QV : VK), MemOk X.K B μ m H → Top X.K B H v dx → Top X.K B H u dy → f dx dy Q →
  (∀ B' H' d z, Stp B μ m H B' μ m H' → MemOk X.K B' μ m H' → Rv X.K B' z d → Q d → QV z H') → r v u H QV) : SO X r (oL f) := by
 intro B μ m H x y v u Q QV M rx ry q k
 obtain ⟨dx, tx, q⟩ := aN M rx q
 obtain ⟨dy, ty, q⟩ := aN M ry q
 exact h B μ m H v u dx dy Q QV M tx ty q k
theorem SO.pure {B : Hp} {μ : List Addr} {m : Me} {H : Hp} {Q : D → Prop} {QV : VK} (M : MemOk X.K B μ m H) (k : ∀ B' H' d z, Stp B μ m H B' μ m H' → MemOk X.K B' μ m H' → Rv X.K B' z d → Q d → QV z H') {d : D} {z : V} (r : Rv X.K B z d) (q : Q d) : QV z H := k B H d z .refl M r q
theorem SO.new {B : Hp} {μ : List Addr} {m : Me} {H : Hp} {Q : D → Prop} {QV : VK} (M : MemOk X.K B μ m H) (k : ∀ B' H' d z, Stp B μ m H B' μ m H' → MemOk X.K B' μ m H' → Rv X.K B' z d → Q d → QV z H') {d : D} {p : Addr} {o : HO} (np : H p = none) (r : Rv X.K (upd B p o) (.ref p) d) (q : Q d) (no : ∀ ps, o ≠ .tbl ps := by exact fun _ z => nomatch z) : QV (.ref p) (upd H p o) :=
 k _ _ d _ (Stp.laid M np) (M.laid np no) r q
theorem bH {K : Frag} {B : Hp} {μ : List Addr} {m : Me} {H : Hp} {p : Addr} {vs : List V} {ds : List D} (M : MemOk K B μ m H) (np : H p = none) (r : RvL K B vs ds) : Rv K (upd B p (.lst vs)) (.ref p) (.lst ds) := .lst upd_same (r.to (dc M np))
theorem e9 {K : Frag} {B : Hp} {μ : List Addr} {m : Me} {H : Hp} {p : Addr} {vs : List V} {ds : List D} (M : MemOk K B μ m H) (np : H p = none) (r : RvL K B vs ds) : Rv K (upd B p (.tup vs)) (.ref p) (.tup ds) := .tup (.inl upd_same) (r.to (dc M np))
def lH : F2
 | .int i, .int j, Q => Q (.int (i + j))
 | .str a, .str b, Q => a.length + b.length ≤ sizeLine ∧ Q (.str (a ++ b))
 | .lst a, .lst b, Q => a.length + b.length ≤ sizeLine ∧ Q (.lst (a ++ b))
 | .tup a, .tup b, Q => a.length + b.length ≤ sizeLine ∧ Q (.tup (a ++ b))
 | _, _, _ => False
theorem aQ : OpD X (binaryOp .Add) (oL lH) := by
 refine ⟨_, (op_add.or op_add_str).or (op_cat.or op_catA), SO.of fun B μ m H v u dx dy Q QV M tx ty q k => ?_⟩
 unfold lH at q
 split at q
 ·cases tx
  cases ty
  exact .inl (.inl ⟨_, _, rfl, rfl, SO.pure M k (.int _) q⟩)
 ·cases tx with
  | str h1 => cases ty with
   | str h2 => exact .inl (.inr ⟨_, _, rfl, rfl, q.1, SO.pure M k (.str (eZ h1 h2)) q.2⟩)
 ·obtain ⟨a, vs, rfl, h1, r1⟩ := tx
  obtain ⟨b, us, rfl, h2, r2⟩ := ty
  exact .inr (.inl ⟨a, b, vs, us, rfl, rfl, h1, h2, by rw [r1.len, r2.len]; exact q.1, fun p np => SO.new M k np (bH M np (r1.append r2)) q.2⟩)
 ·obtain ⟨a, vs, rfl, h1, r1⟩ := tx
  obtain ⟨b, us, rfl, h2, r2⟩ := ty
  refine .inr (.inr ⟨a, b, vs, us, rfl, rfl, M.le.tup h1, M.le.tup h2, by rw [r1.len, r2.len]; exact q.1, fun z => ?_, fun _ z => ?_, fun _ _ p np => SO.new M k np (e9 M np (r1.append r2)) q.2⟩)
  ·subst z
   cases r1
   exact SO.pure M k (.tup h2 r2) q.2
  ·subst z
   cases r2
   have q2 := q.2
   rw [List.append_nil] at q2
   exact SO.pure M k (.tup h1 r1) q2
 ·exact q.elim
def gl (f : Int → Int → (D → Prop) → Prop) : F2
 | .int i, .int j, Q => f i j Q
 | _, _, _ => False
theorem cP {f : Int → Int → (D → Prop) → Prop} {K : Frag} {B H : Hp} {v u : V} {dx dy : D} {Q : D → Prop} (tx : Top K B H v dx) (ty : Top K B H u dy) (q : gl f dx dy Q) : ∃ i j, v = .int i ∧ u = .int j ∧ f i j Q := by
 unfold gl at q
 split at q
 ·cases tx
  cases ty
  exact ⟨_, _, rfl, rfl, q⟩
 ·exact q.elim
theorem iK : OpD X (binaryOp .Sub) (oL (gl fun i j Q => Q (.int (i - j)))) := ⟨_, op_sub, SO.of fun B μ m H v u dx dy Q QV M tx ty q k => by
 obtain ⟨i, j, rfl, rfl, q⟩ := cP tx ty q
 exact ⟨_, _, rfl, rfl, SO.pure M k (.int _) q⟩⟩
def lI : F2
 | .int i, .int j, Q => CMulW i j ∧ Q (.int (i * j))
 | .lst a, .int n, Q => 0 ≤ n ∧ n < 2 ^ 62 ∧ a.length * n.toNat ≤ sizeLine ∧ Q (.lst (List.replicate n.toNat a).flatten)
 | _, _, _ => False
theorem RvL.rep {K : Frag} {B : Hp} {vs : List V} {ds : List D} (r : RvL K B vs ds) : ∀ n : Nat, RvL K B (List.replicate n vs).flatten (List.replicate n ds).flatten
 | 0 => .nil
 | n + 1 => by
  rw [List.replicate_succ, List.replicate_succ, List.flatten_cons, List.flatten_cons]
  exact r.append (RvL.rep r n)
theorem j8 : OpD X (binaryOp .Mod) (oL (gl fun i j Q => 0 < j ∧ Q (.int (i % j)))) := ⟨_, op_mod, SO.of fun B μ m H v u dx dy Q QV M tx ty q k => by
 obtain ⟨i, j, rfl, rfl, q1, q⟩ := cP tx ty q
 exact ⟨_, _, rfl, rfl, q1, SO.pure M k (.int _) q⟩⟩
theorem iL : OpD X (binaryOp .FloorDiv) (oL (gl fun i j Q => 0 < j ∧ j.natAbs.log2 < 9000 ∧ Q (.int (i / j)))) := ⟨_, op_fdivW, SO.of fun B μ m H v u dx dy Q QV M tx ty q k => by
 obtain ⟨i, j, rfl, rfl, q1, q2, q⟩ := cP tx ty q
 exact ⟨_, _, rfl, rfl, ⟨q1, q2⟩, SO.pure M k (.int _) q⟩⟩
def mP (f : Int → Int → Bool) : F2 := gl fun i j Q => Q (.bl (f i j))
theorem mQ : OpD X (compareOp .Lt) (oL (mP fun i j => decide (i < j))) := ⟨_, op_lt, SO.of fun B μ m H v u dx dy Q QV M tx ty q k => by
 obtain ⟨i, j, rfl, rfl, q⟩ := cP tx ty q
 exact ⟨_, _, rfl, rfl, SO.pure M k (.bl _) q⟩⟩
def eqD (g : Bool → Bool) : F2 := fun x y Q => bd x = true ∧ bd y = true ∧ e7 x ≤ 64 ∧ e7 y ≤ 64 ∧ Q (.bl (g (deq x y)))
theorem gm {K : Frag} {B H : Hp} {v u : V} {dx dy : D} (le : Le B H) (tx : Top K B H v dx) (ty : Top K B H u dy) (h1 : bd dx = true) (h2 : bd dy = true) (h3 : e7 dx ≤ 64) (h4 : e7 dy ≤ 64) : Dp K H v (pyD dx) ∧ Dp K H u (pyD dy) ∧ SeqAt.shaped (pyD dx) = true ∧ SeqAt.shaped (pyD dy) = true := by
 obtain ⟨a1, a2⟩ := Top.dp le tx h1
 obtain ⟨b1, b2⟩ := Top.dp le ty h2
 refine ⟨a1, b1, ?_, ?_⟩
 ·unfold SeqAt.shaped
  rw [a2, gk]
  simpa using h3
 ·unfold SeqAt.shaped
  rw [b2, gk]
  simpa using h4
theorem kL (hu : X.A.units + 64 < cLine) : OpD X (compareOp .Eq) (oL (eqD id)) := ⟨_, op_eqD hu, SO.of fun B μ m H v u dx dy Q QV M tx ty ⟨h1, h2, h3, h4, q⟩ k => by
 obtain ⟨a, b, c, d⟩ := gm M.le tx ty h1 h2 h3 h4
 exact ⟨_, _, a, b, c, d, by rw [e8 h1 h2]; exact SO.pure M k (.bl _) q⟩⟩
theorem hJ (hu : X.A.units + 64 < cLine) : OpD X (compareOp .NotEq) (oL (eqD (!·))) := ⟨_, op_neD hu, SO.of fun B μ m H v u dx dy Q QV M tx ty ⟨h1, h2, h3, h4, q⟩ k => by
 obtain ⟨a, b, c, d⟩ := gm M.le tx ty h1 h2 h3 h4
 exact ⟨_, _, a, b, c, d, by rw [e8 h1 h2]; exact SO.pure M k (.bl _) q⟩⟩
def iM : D → Bool
 | .non => true
 | _ => false
def isF (g : Bool → Bool) : F2 := fun x y Q => iM y = true ∧ Q (.bl (g (iM x)))
theorem Top.nonI {K : Frag} {B H : Hp} {v : V} {d : D} (t : Top K B H v d) : decide (v = .non) = iM d := by
 cases d with
 | non => cases t; rfl
 | bl b => cases t; rfl
 | int b => cases t; rfl
 | str b => cases t; rfl
 | ty b => cases t; rfl
 | fn b => cases t; rfl
 | tup _ => obtain ⟨a, _, rfl, _⟩ := t; rfl
 | lst _ => obtain ⟨a, _, rfl, _⟩ := t; rfl
 | dic _ => obtain ⟨a, _, rfl, _⟩ := t; rfl
 | obj _ _ => obtain ⟨a, _, _, rfl, _⟩ := t; rfl
 | exc _ _ => cases t; rfl
 | lam _ _ _ => cases t; rfl
theorem jE : OpD X (compareOp .Is) (oL (isF id)) := ⟨_, op_isN, SO.of fun B μ m H v u dx dy Q QV M tx ty ⟨h, q⟩ k => by
 refine ⟨of_decide_eq_true (by rw [ty.nonI]; exact h), ?_⟩
 rw [tx.nonI]
 exact SO.pure M k (.bl _) q⟩
def dm : D → Bool
 | .non | .bl _ | .int _ | .str _ => true
 | _ => false
def mR (x y : Str) : Bool := !(Builtin.Str.occurrences y x 0 y.length 1).isEmpty
def inD (g : Bool → Bool) : F2
 | .str x, .str y, Q => Q (.bl (g (mR x y)))
 | x, .tup ds, Q => dm x = true ∧ ds.all dm = true ∧ Q (.bl (g (ds.any fun y => deq y x)))
 | x, .lst ds, Q => bd x = true ∧ plainL ds = true ∧ e7 x ≤ 64 ∧ depL ds + 1 ≤ 64 ∧ Q (.bl (g (ds.any fun y => deq y x)))
 | _, _, _ => False
theorem iN {K : Frag} {B H : Hp} {v : V} {d : D} (t : Top K B H v d) (h : dm d = true) : flatV v = true := by
 cases d with
 | non => cases t; rfl
 | bl b => cases t; rfl
 | int b => cases t; rfl
 | str b => cases t; rfl
 | _ => cases h
theorem gM {K : Frag} {B : Hp} : ∀ {vs : List V} {ds : List D}, RvL K B vs ds → ds.all dm = true → vs.all flatV = true
 | _, _, .nil, _ => rfl
 | _, _, .cons a t, h => by
  rw [List.all_cons] at h ⊢
  have h := Bool.and_eq_true_iff.mp h
  rw [iN (H := B) (Rv.top (Le.refl B) a) h.1, gM t h.2]
  rfl
theorem lJ {K : Frag} {B H B2 H2 : Hp} {v u : V} {d e : D} (t : Top K B H v d) (t2 : Top K B2 H2 u e) (h : dm d = true) (k : dm e = true) : eqV v u = deq d e := by
 cases d with
 | non => cases t; cases e <;> first | (cases t2; rfl) | cases k
 | bl b => cases t; cases e <;> first | (cases t2; rfl) | cases k
 | int b => cases t; cases e <;> first | (cases t2; rfl) | cases k
 | str b => cases t; cases e <;> first | (cases t2; rfl) | cases k
 | _ => cases h
theorem j9 {K : Frag} {B H : Hp} {v : V} {d : D} (t : Top K B H v d) (h : dm d = true) : ∀ {vs : List V} {ds : List D}, RvL K B vs ds → ds.all dm = true → inV v vs = ds.any fun y => deq y d
 | _, _, .nil, _ => rfl
 | _, _, .cons (ds := ds) a r, k => by
  rw [List.all_cons] at k
  have k := Bool.and_eq_true_iff.mp k
  show (eqV _ v || inV v _) = (_ || _)
  rw [j9 t h r k.2, lJ (Rv.top (Le.refl B) a) t k.1 h]
theorem iO : ∀ {ds : List D} {x : D}, plainL ds = true → bd x = true → ((pyL ds).any fun z => PyData.eqv z (pyD x)) = ds.any fun y => deq y x
 | [], _, _, _ => rfl
 | d :: ds, x, h, k => by
  have h := Bool.and_eq_true_iff.mp h
  show (PyData.eqv (pyD d) (pyD x) || (pyL ds).any _) = (deq d x || ds.any _)
  rw [e8 h.1 k, iO h.2 k]
theorem jF (hu : X.A.units + 65 < cLine) : OpD X (compareOp .NotIn) (oL (inD (!·))) := by
 refine ⟨_, op_notIn_str.or (op_notIn_seq.or (op_notInD hu)), SO.of fun B μ m H v u dx dy Q QV M tx ty q k => ?_⟩
 unfold inD at q
 split at q
 ·cases tx with
  | str h1 => cases ty with
   | str h2 => exact .inl ⟨_, _, rfl, rfl, SO.pure M k (.bl _) q⟩
 ·obtain ⟨a, vs, rfl, hs, r⟩ := ty
  obtain ⟨q1, q2, q⟩ := q
  refine .inr (.inl ⟨a, vs, rfl, .inr (M.le.tup hs), iN tx q1, gM r q2, ?_⟩)
  rw [j9 tx q1 r q2]
  exact SO.pure M k (.bl _) q
 ·obtain ⟨q1, q2, q3, q4, q⟩ := q
  obtain ⟨a, b, c, d⟩ := gm (dy := .lst _) M.le tx ty q1 q2 q3 q4
  refine .inr (.inr ⟨_, pyL _, a, b, c, d, ?_⟩)
  rw [iO q2 q1]
  exact SO.pure M k (.bl _) q
 ·exact q.elim
end
def ixD : F2
 | .lst ds, .int i, Q => ∃ d, atI ds i = some d ∧ Q d
 | .tup ds, .int i, Q => ∃ d, atI ds i = some d ∧ Q d
 | .str x, .int i, Q => x.length ≤ sizeLine ∧ ∃ c, atI x.cps.toList i = some c ∧ Q (.str ⟨#[c]⟩)
 | _, _, _ => False
theorem ka {K : Frag} {B : Hp} {vs : List V} {ds : List D} {i : Int} {d : D} (r : RvL K B vs ds) (h : atI ds i = some d) : ∃ v, atI vs i = some v ∧ Rv K B v d := by
 unfold atI at h ⊢
 rw [r.len]
 cases q : ixN ds.length i with
 | none => rw [q] at h; cases h
 | some j =>
  rw [q] at h
  obtain ⟨v, h1, h2⟩ := r.at (i := j) (d := d) h
  exact ⟨v, h1, h2⟩
theorem b7 {α : Type} {xs : List α} {i : Int} {x : α} (h : atI xs i = some x) : x ∈ xs := by
 unfold atI at h
 cases q : ixN xs.length i with
 | none => rw [q] at h; cases h
 | some j =>
  rw [q] at h
  exact List.mem_of_getElem? h
section
variable {X : Cx} {E : XK}
theorem du {a b : Expr} {ta tb : DTE} {pos : Pos} (ha : DE X E a ta) (hb : DE X E b tb) (hs : PlainIx b := by exact fun _ _ => rfl) : DE X E (.Subscript a b pos) (tO2 (oL ixD) ta tb) := by
 obtain ⟨t1, p1, k1⟩ := ha.ex
 obtain ⟨t2, p2, k2⟩ := hb.ex
 refine ⟨_, pe_ix ((IxR.or ix_list ix_tup).or ix_str) p1 p2 hs, SE.two (SO.of fun B μ m H v u dx dy Q QV M tx ty q k => ?_) k1 k2⟩
 unfold ixD at q
 split at q
 ·obtain ⟨p, vs, rfl, hp, r⟩ := tx
  cases ty
  obtain ⟨d, hd, q⟩ := q
  obtain ⟨z, hz, rz⟩ := ka r hd
  exact .inl (.inl ⟨p, vs, _, z, rfl, rfl, .inl (.inl hp), hz, SO.pure M k rz q⟩)
 ·obtain ⟨p, vs, rfl, hp, r⟩ := tx
  cases ty
  obtain ⟨d, hd, q⟩ := q
  obtain ⟨z, hz, rz⟩ := ka r hd
  exact .inl (.inr ⟨p, vs, _, z, rfl, rfl, M.le.tup hp, hz, SO.pure M k rz q⟩)
 ·cases tx with
  | str h1 =>
   cases ty
   obtain ⟨hl, c, hc, q⟩ := q
   refine .inr ⟨_, _, c, rfl, rfl, hl, hc, SO.pure M k (.str ?_) q⟩
   refine aO.mpr fun c' h' => ?_
   have e : c' = c := by simpa using h'
   rw [e]
   exact aO.mp h1 _ (b7 hc)
 ·exact q.elim
abbrev DTO := En → Me → (Option Int → Me → Prop) → QX → Prop
structure DO (X : Cx) (E : XK) (e : Option Expr) (T : DTO) : Prop where
 ex : ∃ t, PO X e t ∧ ∀ B μ en m σ H (Q : Option Int → Me → Prop) (Qx : QX) (QV : Option Int → Hp → Prop), Rel X.K B μ en m σ H → ExOf X.K E B μ m H Qx → T en m Q Qx →
  (∀ B' μ' m' H' b, Stp B μ m H B' μ' m' H' → Rel X.K B' μ' en m' σ H' → Q b m' → QV b H') → t σ H QV
def mT : DTO := fun _ m Q _ => Q none m
def iD : W → (Int → Prop) → Prop
 | .v (.int i), Q => Q i
 | _, _ => False
def mU (te : DTE) : DTO := fun en m Q Qx => te en m (fun x m1 => iD x fun i => Q (some i) m1) Qx
theorem lK {K : Frag} {B : Hp} {μ : List Addr} {v : V} {x : W} {Q : Int → Prop} (r : RW K B μ v x) (q : iD x Q) : ∃ i, v = .int i ∧ Q i := by
 unfold iD at q
 split at q
 ·cases (show Rv K B v (.int _) from r)
  exact ⟨_, rfl, q⟩
 ·exact q.elim
theorem gO : DO X E none mT := ⟨_, po_none, fun B μ en m σ H Q Qx QV R hx T k => k B μ m H none .refl R T⟩
theorem gP {e : Expr} {te : DTE} (h : DE X E e te) : DO X E (some e) (mU te) := by
 obtain ⟨t1, p1, k1⟩ := h.ex
 refine ⟨_, po_some p1, fun B μ en m σ H Q Qx QV R hx T k => ?_⟩
 refine k1 B μ en m σ H _ Qx _ R hx T fun B1 μ1 m1 H1 x v s1 R1 r q => ?_
 obtain ⟨i, rfl, q⟩ := lK r q
 exact ⟨i, rfl, k B1 μ1 m1 H1 _ s1 R1 q⟩
def gn (xs : List D) (lo hi : Option Int) : List D := (xs.drop (HT.sIx xs.length 0 lo)).take (HT.sIx xs.length xs.length hi - HT.sIx xs.length 0 lo)
theorem kc {K : Frag} {B : Hp} {vs : List V} {ds : List D} (r : RvL K B vs ds) (lo hi : Option Int) : RvL K B (cutV vs lo hi) (gn ds lo hi) := by
 unfold cutV gn
 rw [r.len]
 exact (r.drop _).take _
def slD (lo hi : Option Int) : D → (D → Prop) → Prop
 | .lst ds, Q => Q (.lst (gn ds lo hi))
 | .tup ds, Q => Q (.tup (gn ds lo hi))
 | .str x, Q => x.length ≤ sizeLine ∧ Q (.str (Txt.slice x lo hi))
 | _, _ => False
theorem hM {x : Str} {lo hi : Option Int} (h : okS x = true) : okS (Txt.slice x lo hi) = true := by
 rw [← C8.cutS_slice]
 refine aO.mpr fun c hc => aO.mp h c ?_
 unfold cutS at hc
 simp only at hc
 exact List.mem_of_mem_drop (List.mem_of_mem_take hc)
def mV (te : DTE) (tl th : DTO) : DTE := fun en m Q Qx => te en m (fun x m1 => tl en m1 (fun l m2 => th en m2 (fun u m3 => look x m3 fun d => slD l u d fun r => Q (.v r) m3) Qx) Qx) Qx
theorem gQ {e : Expr} {lo hi : Option Expr} {te : DTE} {tl th : DTO} {p2 pos : Pos} (he : DE X E e te) (hl : DO X E lo tl) (hh : DO X E hi th) : DE X E (.Subscript e (.Slice lo hi none p2) pos) (mV te tl th) := by
 obtain ⟨t1, p1, k1⟩ := he.ex
 obtain ⟨t2, p2, k2⟩ := hl.ex
 obtain ⟨t3, p3, k3⟩ := hh.ex
 refine ⟨_, pe_slice ((SlR.or sl_list sl_tupA).or C8.sl_txt) p1 p2 p3, fun B μ en m σ H Q Qx QV R hx T k => ?_⟩
 refine k1 B μ en m σ H _ Qx _ R hx T fun B1 μ1 m1 H1 x v s1 R1 r T1 => ?_
 refine k2 B1 μ1 en m1 σ H1 _ Qx _ R1 (hx.step s1 R1.mem R.mem.le) T1 fun B2 μ2 m2 H2 l s2 R2 T2 => ?_
 have s12 := s1.trans R1.mem s2 R.mem.le
 refine k3 B2 μ2 en m2 σ H2 _ Qx _ R2 (hx.step s12 R2.mem R.mem.le) T2 fun B3 μ3 m3 H3 u s3 R3 T3 => ?_
 have s13 := s12.trans R2.mem s3 R.mem.le
 obtain ⟨d, tx, q⟩ := aN R3.mem ((r.to s2.same s2.pre).to s3.same s3.pre) T3
 have fin : ∀ B' H' d z, Stp B3 μ3 m3 H3 B' μ3 m3 H' → MemOk X.K B' μ3 m3 H' → Rv X.K B' z d → Q (.v d) m3 → QV z H' := fun B' H' d z s' M' rz q => by
  have st := s13.trans R3.mem s' R.mem.le
  exact k B' μ3 m3 H' (.v d) z st (R.stp st M') rz q
 cases d with
 | lst ds =>
  obtain ⟨p, vs, rfl, hp, rl⟩ := tx
  exact .inl (.inl ⟨p, vs, rfl, .inl (.inl hp), fun p np => SO.new (Q := fun d => Q (.v d) m3) R3.mem fin np (bH R3.mem np (kc rl l u)) q⟩)
 | tup ds =>
  obtain ⟨p, vs, rfl, hp, rl⟩ := tx
  refine .inl (.inr ⟨p, vs, rfl, R3.mem.le.tup hp, fun hw => ?_, fun _ p np => SO.new (Q := fun d => Q (.v d) m3) R3.mem fin np (e9 R3.mem np (kc rl l u)) q⟩)
  have e : gn ds l u = ds := by
   unfold gn
   rw [← rl.len, hw.1, hw.2, List.drop_zero, Nat.sub_zero, List.take_of_length_le (by rw [rl.len]; exact Nat.le_refl _)]
  have q : Q (.v (.tup (gn ds l u))) m3 := q
  rw [e] at q
  exact SO.pure (Q := fun d => Q (.v d) m3) R3.mem fin (.tup hp rl) q
 | str z =>
  cases tx with
  | str h1 => exact .inr ⟨_, rfl, q.1, SO.pure (Q := fun d => Q (.v d) m3) R3.mem fin (.str (hM h1)) q.2⟩
 | _ => exact q.elim
end
abbrev DCa := List W → Me → (D → Prop) → Prop
def SC (X : Cx) (r : List V → Hp → VK → Prop) (o : DCa) : Prop := ∀ B μ m H xs vs (Q : D → Prop) (QV : VK), MemOk X.K B μ m H → RWs X.K B μ vs xs → o xs m Q →
 (∀ B' H' d z, Stp B μ m H B' μ m H' → MemOk X.K B' μ m H' → Rv X.K B' z d → Q d → QV z H') → r vs H QV
def tCa (o : DCa) (ta : DTA) : DTE := fun en m Q Qx => ta en m (fun xs m1 => o xs m1 fun d => Q (.v d) m1) Qx
section
variable {X : Cx} {E : XK} {x : Str} {e : Expr} {es : List Expr} {p pos : Pos} {ta : DTA} {o : DCa} {r : List V → Hp → VK → Prop}
theorem SA.ca {t : TA} (h : SA X E t ta) (so : SC X r o) : SE X E (fun σ H Q => t σ H fun xs H1 => r xs H1 Q) (tCa o ta) := by
 intro B μ en m σ H Q Qx QV R hx T k
 refine h B μ en m σ H _ Qx _ R hx T fun B1 μ1 m1 H1 xs vs s1 R1 r1 q => ?_
 refine so B1 μ1 m1 H1 xs vs _ _ R1.mem r1 q fun B2 H2 d z s2 M2 rz q2 => ?_
 have st := s1.trans R1.mem s2 R.mem.le
 exact k B2 μ1 m1 H2 (.v d) z st (R.stp st M2) rz q2
theorem gp {id : String} (hc : CallR X (.builtin id) r) (so : SC X r o) (hm : X.mg x = none) (hv : bootBuiltins x = some (.builtin id)) (ha : DA X E (e :: es) ta) (hg : Gl X x := by rfl) (hn : x ≠ "__name__" := by decide) (hdb : (x == ("__debug__" : Str)) = false := by decide)
  (he : starEach (e :: es) X.env = (false, eval e X.env) :: starEach es X.env := by rfl) (hpl : (backTo pos (starEach es X.env)).any (·.1) = false := by rfl) :
  DE X E (.Call (.Name x p) (e :: es) [] pos) (tCa o ta) := by
 obtain ⟨t1, p1, k1⟩ := ha.ex
 exact ⟨_, pe_callB hc hg hm hv p1 hn hdb he hpl, k1.ca so⟩
theorem eD {T : String} (hc : CallR X (.type T) r) (so : SC X r o) (hm : X.mg x = none) (hv : bootBuiltins x = some (.type T)) (ha : DA X E (e :: es) ta) (hg : Gl X x := by rfl) (hn : x ≠ "__name__" := by decide) (hdb : (x == ("__debug__" : Str)) = false := by decide)
  (he : starEach (e :: es) X.env = (false, eval e X.env) :: starEach es X.env := by rfl) (hpl : (backTo pos (starEach es X.env)).any (·.1) = false := by rfl) :
  DE X E (.Call (.Name x p) (e :: es) [] pos) (tCa o ta) := by
 obtain ⟨t1, p1, k1⟩ := ha.ex
 exact ⟨_, pe_callTy hc hg hm hv p1 hn hdb he hpl, k1.ca so⟩
theorem CallR.or {f : Value} {r r' : List V → Hp → VK → Prop} (h : CallR X f r) (h' : CallR X f r') : CallR X f (fun xs H Q => r xs H Q ∨ r' xs H Q) := by
 intro pins s σ H xs us Q I rx q
 rcases q with q | q
 ·exact h pins s σ H xs us Q I rx q
 ·exact h' pins s σ H xs us Q I rx q
def c1 (f : D → (D → Prop) → Prop) : DCa := fun xs m Q => match xs with
 | [x] => look x m fun d => f d Q
 | _ => False
theorem SC.of1 {f : D → (D → Prop) → Prop} (h : ∀ B μ m H v d (Q : D → Prop) (QV : VK), MemOk X.K B μ m H → Top X.K B H v d → f d Q →
  (∀ B' H' d z, Stp B μ m H B' μ m H' → MemOk X.K B' μ m H' → Rv X.K B' z d → Q d → QV z H') → r [v] H QV) : SC X r (c1 f) := by
 intro B μ m H xs vs Q QV M rs q k
 cases rs with
 | nil => exact q.elim
 | cons a t =>
  cases t with
  | cons _ _ => exact q.elim
  | nil =>
   obtain ⟨d, td, q⟩ := aN M a q
   exact h B μ m H _ d Q QV M td q k
def c2 (f : F2) : DCa := fun xs m Q => match xs with
 | [x, y] => look x m fun d => look y m fun e => f d e Q
 | _ => False
theorem SC.of2 {f : F2} (h : ∀ B μ m H v u d e (Q : D → Prop) (QV : VK), MemOk X.K B μ m H → Top X.K B H v d → Top X.K B H u e → f d e Q →
  (∀ B' H' d z, Stp B μ m H B' μ m H' → MemOk X.K B' μ m H' → Rv X.K B' z d → Q d → QV z H') → r [v, u] H QV) : SC X r (c2 f) := by
 intro B μ m H xs vs Q QV M rs q k
 cases rs with
 | nil => exact q.elim
 | cons a t =>
  cases t with
  | nil => exact q.elim
  | cons b t =>
   cases t with
   | cons _ _ => exact q.elim
   | nil =>
    obtain ⟨d, td, q⟩ := aN M a q
    obtain ⟨e, te, q⟩ := aN M b q
    exact h B μ m H _ _ d e Q QV M td te q k
def lL : D → (D → Prop) → Prop
 | .lst ds, Q => Q (.int ds.length)
 | .tup ds, Q => Q (.int ds.length)
 | .str x, Q => x.length ≤ sizeLine ∧ Q (.int x.length)
 | .dic ds, Q => Q (.int ds.length)
 | _, _ => False
theorem hO : CallR X (.builtin "len") (fun xs H Q => ∃ d kvs, xs = [.ref d] ∧ Rd H d (.dK kvs) ∧ Q (.int kvs.length) H) := by
 intro pins s σ H xs us Q I r h
 obtain ⟨d, kvs, rfl, hd, q⟩ := h
 obtain ⟨u, rfl, rx⟩ := vals1 r
 cases rx
 obtain ⟨z, dd, vs, rel, hD⟩ := (show ObjOk X.prog X.w H s.heap d (.dK kvs) from hd.ok I.hok)
 have hl := line63
 have hs : sizeLine = 16777216 := sizeLine_eq
 have rl := rel.length
 refine call_len_dict dd hD (by omega) ?_
 exact ⟨.int _, H, I.tok _, ⟨_, by rw [← rl]⟩, q⟩
theorem lM : SC X (fun xs H Q => (∃ p ys, xs = [.ref p] ∧ (SqL X.K H p ys ∨ SqT X.K H p ys) ∧ Q (.int ys.length) H) ∨ (∃ z, xs = [.str z] ∧ z.length ≤ sizeLine ∧ Q (.int z.length) H) ∨ (∃ d kvs, xs = [.ref d] ∧ Rd H d (.dK kvs) ∧ Q (.int kvs.length) H)) (c1 lL) := SC.of1 fun B μ m H v d Q QV M td q k => by
 cases d with
 | lst ds =>
  obtain ⟨p, vs, rfl, hp, r⟩ := td
  exact .inl ⟨p, vs, rfl, .inl (.inl (.inl hp)), SO.pure M k (.int _) (by rw [r.len]; exact q)⟩
 | tup ds =>
  obtain ⟨p, vs, rfl, hp, r⟩ := td
  exact .inl ⟨p, vs, rfl, .inr (M.le.tup hp), SO.pure M k (.int _) (by rw [r.len]; exact q)⟩
 | str x =>
  cases td
  exact .inr (.inl ⟨_, rfl, q.1, SO.pure M k (.int _) q.2⟩)
 | dic ds =>
  obtain ⟨p, vs, rfl, hp, r⟩ := td
  exact .inr (.inr ⟨p, vs, rfl, hp, SO.pure M k (.int _) (by rw [r.len]; exact q)⟩)
 | _ => exact q.elim
theorem kM : CallR X (.builtin "len") (fun xs H Q => (∃ p ys, xs = [.ref p] ∧ (SqL X.K H p ys ∨ SqT X.K H p ys) ∧ Q (.int ys.length) H) ∨ (∃ z, xs = [.str z] ∧ z.length ≤ sizeLine ∧ Q (.int z.length) H) ∨ (∃ d kvs, xs = [.ref d] ∧ Rd H d (.dK kvs) ∧ Q (.int kvs.length) H)) := call_len_seq.or (call_len_str.or hO)
theorem dn (hm : X.mg "len" = none) (ha : DA X E [e] ta) (hg : Gl X "len" := by rfl) (he : starEach [e] X.env = (false, eval e X.env) :: starEach [] X.env := by rfl) (hpl : (backTo pos (starEach [] X.env)).any (·.1) = false := by rfl) : DE X E (.Call (.Name "len" p) [e] [] pos) (tCa (c1 lL) ta) :=
 gp kM lM hm PySem.boot_len ha hg (by decide) (by decide) he hpl
def lN : D → (D → Prop) → Prop
 | .int i, Q => Q (.int i)
 | .bl b, Q => Q (.int (if b then 1 else 0))
 | .str x, Q => ∃ n, PySem.intText? x = some n ∧ x.length ≤ 640 ∧ Q (.int n)
 | _, _ => False
theorem lO : SC X (fun xs H Q => ((∃ i, xs = [.int i] ∧ Q (.int i) H) ∨ ∃ k, xs = [.bl k] ∧ Q (.int (if k then 1 else 0)) H) ∨ (∃ a n, xs = [.str a] ∧ PySem.intText? a = some n ∧ a.length ≤ 640 ∧ Q (.int n) H)) (c1 lN) := SC.of1 fun B μ m H v d Q QV M td q k => by
 cases d with
 | int i => cases td; exact .inl (.inl ⟨_, rfl, SO.pure M k (.int _) q⟩)
 | bl i => cases td; exact .inl (.inr ⟨_, rfl, SO.pure M k (.int _) q⟩)
 | str x =>
  cases td
  obtain ⟨n, h1, h2, q⟩ := q
  exact .inr ⟨_, n, rfl, h1, h2, SO.pure M k (.int _) q⟩
 | _ => exact q.elim
theorem jG (hm : X.mg "int" = none) (ha : DA X E [e] ta) (hg : Gl X "int" := by rfl) (he : starEach [e] X.env = (false, eval e X.env) :: starEach [] X.env := by rfl) (hpl : (backTo pos (starEach [] X.env)).any (·.1) = false := by rfl) : DE X E (.Call (.Name "int" p) [e] [] pos) (tCa (c1 lN) ta) :=
 eD (call_int1.or call_int_str) lO hm (by decide +kernel) ha hg (by decide) (by decide) he hpl
theorem jH (c : Char) : c.toNat < 0x110000 := by
 have h := c.valid
 unfold UInt32.isValidChar Nat.isValidChar at h
 show c.val.toNat < 0x110000
 omega
theorem fb (z : String) : okS (Str.ofString z) = true := by
 rw [Str.ofString_eq_toList]
 refine aO.mpr fun c hc => ?_
 simp only [List.mem_map] at hc
 obtain ⟨d, _, rfl⟩ := hc
 exact jH d
theorem gR (i : Int) : okS (toString i : Str) = true := fb _
def lP : D → (D → Prop) → Prop
 | .int i, Q => i.natAbs.log2 < 1920 ∧ Q (.str (toString i))
 | .str x, Q => Q (.str x)
 | _, _ => False
theorem lQ : SC X (fun xs H Q => (∃ i, xs = [.int i] ∧ i.natAbs.log2 < 1920 ∧ Q (.str (toString i)) H) ∨ (∃ a, xs = [.str a] ∧ Q (.str a) H)) (c1 lP) := SC.of1 fun B μ m H v d Q QV M td q k => by
 cases d with
 | int i => cases td; exact .inl ⟨_, rfl, q.1, SO.pure M k (.str (gR i)) q.2⟩
 | str i => cases td with
  | str h => exact .inr ⟨_, rfl, SO.pure M k (.str h) q⟩
 | _ => exact q.elim
theorem gS (hm : X.mg "str" = none) (ha : DA X E [e] ta) (hg : Gl X "str" := by rfl) (he : starEach [e] X.env = (false, eval e X.env) :: starEach [] X.env := by rfl) (hpl : (backTo pos (starEach [] X.env)).any (·.1) = false := by rfl) : DE X E (.Call (.Name "str" p) [e] [] pos) (tCa (c1 lP) ta) :=
 eD (call_str_int.or SkE.call_str_str) lQ hm (by decide +kernel) ha hg (by decide) (by decide) he hpl
def mW : D → (D → Prop) → Prop
 | .int i, Q => Q (.int (i.natAbs : Nat))
 | _, _ => False
theorem kd (hm : X.mg "abs" = none) (ha : DA X E [e] ta) (hg : Gl X "abs" := by rfl) (he : starEach [e] X.env = (false, eval e X.env) :: starEach [] X.env := by rfl) (hpl : (backTo pos (starEach [] X.env)).any (·.1) = false := by rfl) : DE X E (.Call (.Name "abs" p) [e] [] pos) (tCa (c1 mW) ta) :=
 gp call_abs (SC.of1 fun B μ m H v d Q QV M td q k => by
  cases d with
  | int i =>
   cases td
   have e : (if i < 0 then -i else i) = ((i.natAbs : Nat) : Int) := by split <;> omega
   exact ⟨_, rfl, by rw [e]; exact SO.pure M k (.int _) q⟩
  | _ => exact q.elim) hm (by decide +kernel) ha hg (by decide) (by decide) he hpl
def lR : D → (D → Prop) → Prop
 | .lst ds, Q => Q (.lst ds)
 | .tup ds, Q => Q (.lst ds)
 | _, _ => False
theorem iQ (hm : X.mg "list" = none) (ha : DA X E [e] ta) (hg : Gl X "list" := by rfl) (he : starEach [e] X.env = (false, eval e X.env) :: starEach [] X.env := by rfl) (hpl : (backTo pos (starEach [] X.env)).any (·.1) = false := by rfl) : DE X E (.Call (.Name "list" p) [e] [] pos) (tCa (c1 lR) ta) :=
 eD call_list_of (SC.of1 fun B μ m H v d Q QV M td q k => by
  cases d with
  | lst ds =>
   obtain ⟨p, vs, rfl, hp, r⟩ := td
   exact ⟨p, vs, rfl, .inl (.inl (.inl hp)), fun l nl => SO.new M k nl (bH M nl r) q⟩
  | tup ds =>
   obtain ⟨p, vs, rfl, hp, r⟩ := td
   exact ⟨p, vs, rfl, .inr (M.le.tup hp), fun l nl => SO.new M k nl (bH M nl r) q⟩
  | _ => exact q.elim) hm (by decide +kernel) ha hg (by decide) (by decide) he hpl
def ke : D → (D → Prop) → Prop
 | .lst ds, Q => Q (.tup ds)
 | .tup ds, Q => Q (.tup ds)
 | _, _ => False
theorem fc (hm : X.mg "tuple" = none) (ha : DA X E [e] ta) (hg : Gl X "tuple" := by rfl) (he : starEach [e] X.env = (false, eval e X.env) :: starEach [] X.env := by rfl) (hpl : (backTo pos (starEach [] X.env)).any (·.1) = false := by rfl) : DE X E (.Call (.Name "tuple" p) [e] [] pos) (tCa (c1 ke) ta) :=
 eD call_tuple_of (SC.of1 fun B μ m H v d Q QV M td q k => by
  cases d with
  | lst ds =>
   obtain ⟨p, vs, rfl, hp, r⟩ := td
   exact ⟨p, vs, rfl, .inl ⟨.inl (.inl hp), fun l nl => SO.new M k nl (e9 M nl r) q⟩⟩
  | tup ds =>
   obtain ⟨p, vs, rfl, hp, r⟩ := td
   exact ⟨p, vs, rfl, .inr ⟨M.le.tup hp, SO.pure M k (.tup hp r) q⟩⟩
  | _ => exact q.elim) hm (by decide +kernel) ha hg (by decide) (by decide) he hpl
def gT : List D → (List Bool → Prop) → Prop
 | [], Q => Q []
 | .bl b :: r, Q => gT r fun bs => Q (b :: bs)
 | _ :: _, _ => False
theorem fK {K : Frag} {B : Hp} : ∀ {ds : List D} {vs : List V} {Q : List Bool → Prop}, RvL K B vs ds → gT ds Q → ∃ bs, vs = bs.map V.bl ∧ Q bs
 | [], _, _, .nil, q => ⟨[], rfl, q⟩
 | .bl b :: r, _, Q, .cons a t, q => by
  cases a
  obtain ⟨bs, rfl, k⟩ := fK (Q := fun bs => Q (b :: bs)) t q
  exact ⟨b :: bs, rfl, k⟩
 | .non :: _, _, _, _, q => q.elim
 | .int _ :: _, _, _, _, q => q.elim
 | .str _ :: _, _, _, _, q => q.elim
 | .ty _ :: _, _, _, _, q => q.elim
 | .fn _ :: _, _, _, _, q => q.elim
 | .tup _ :: _, _, _, _, q => q.elim
 | .lst _ :: _, _, _, _, q => q.elim
 | .dic _ :: _, _, _, _, q => q.elim
 | .obj _ _ :: _, _, _, _, q => q.elim
 | .exc _ _ :: _, _, _, _, q => q.elim
 | .lam _ _ _ :: _, _, _, _, q => q.elim
def blL (f : List Bool → Bool) : D → (D → Prop) → Prop
 | .lst ds, Q => gT ds fun bs => Q (.bl (f bs))
 | _, _ => False
theorem kf (hc : X.calm = true) (hm : X.mg "all" = none) (ha : DA X E [e] ta) (hg : Gl X "all" := by rfl) (he : starEach [e] X.env = (false, eval e X.env) :: starEach [] X.env := by rfl) (hpl : (backTo pos (starEach [] X.env)).any (·.1) = false := by rfl) : DE X E (.Call (.Name "all" p) [e] [] pos) (tCa (c1 (blL fun bs => bs.all id)) ta) :=
 gp (cr_all hc) (SC.of1 fun B μ m H v d Q QV M td q k => by
  cases d with
  | lst ds =>
   obtain ⟨p, vs, rfl, hp, r⟩ := td
   obtain ⟨bs, rfl, q⟩ := fK r q
   exact ⟨p, bs, rfl, .inl (.inl hp), SO.pure M k (.bl _) q⟩
  | _ => exact q.elim) hm (by decide +kernel) ha hg (by decide) (by decide) he hpl
end
section
variable {X : Cx} {E : XK} {tg : Expr}
def chD (x : Str) : List D := x.cps.toList.map fun c => .str ⟨#[c]⟩
theorem iR {K : Frag} {B0 : Hp} {J : It} {its : List D} {f : Nat → V} (w : Walk J its.length (fun _ => True) (YFn f)) (h : ∀ (i : Nat) (d : D), its[i]? = some d → Rv K B0 (f i) d) : cK K B0 J its :=
 ⟨_, _, w, fun _ _ _ _ _ _ => True.intro, fun i B μ mem H x H' hi s M ⟨y1, y2⟩ => by
  subst y1 y2
  exact ⟨B, its[i], List.getElem?_eq_getElem hi, .refl, M, (h i _ (List.getElem?_eq_getElem hi)).to s⟩⟩
theorem hR {K : Frag} {B0 : Hp} {a : Addr} {vs : List V} {ds : List D} (h : B0 a = some (.lst vs)) (r : RvL K B0 vs ds) : cK K B0 (Itl K a) ds := by
 refine ⟨fun H => SqL K H a vs, YAt vs, by rw [← r.len]; exact walk_list, fun B μ mem H s M => .inl (.inl (M.le _ _ (s _ _ h))), fun i B μ mem H x H' hi s M ⟨y1, y2⟩ => ?_⟩
 subst y1
 obtain ⟨d, hd, rd⟩ := r.at' y2
 exact ⟨B, d, hd, .refl, M, rd.to s⟩
theorem hU {K : Frag} {B0 : Hp} {a : Addr} {vs : List V} {ds : List D} (h : TqT K B0 a vs) (r : RvL K B0 vs ds) : cK K B0 (Itt K a) ds := by
 refine ⟨fun H => SqT K H a vs, YAt vs, by rw [← r.len]; exact walk_tup, fun B μ mem H s M => M.le.tup (TqT.to s h), fun i B μ mem H x H' hi s M ⟨y1, y2⟩ => ?_⟩
 subst y1
 obtain ⟨d, hd, rd⟩ := r.at' y2
 exact ⟨B, d, hd, .refl, M, rd.to s⟩
theorem hV {K : Frag} {B0 : Hp} {x : Str} (h : okS x = true) : cK K B0 (Its x) (chD x) := by
 refine ⟨fun _ => True, fun i H v H' => H' = H ∧ ∃ c, x.cps[i]? = some c ∧ v = .str ⟨#[c]⟩, by unfold chD; rw [List.length_map, Array.length_toList]; exact walk_str, fun _ _ _ _ _ _ => True.intro, fun i B μ mem H y H' hi s M ⟨y1, c, hc, y2⟩ => ?_⟩
 subst y1 y2
 rw [← Array.getElem?_toList] at hc
 refine ⟨B, .str ⟨#[c]⟩, ?_, .refl, M, .str (aO.mpr fun c' hc' => ?_)⟩
 ·unfold chD
  rw [List.getElem?_map, hc]
  rfl
 ·have e : c' = c := by simpa using hc'
  rw [e]
  exact aO.mp h _ (List.mem_of_getElem? hc)
def kD : Key → D
 | .inl i => .int i
 | .inr x => .str x
def mX (K : Frag) (te : TE) : TI := fun σ H R => te σ H fun x H1 => (∃ a xs, x = .ref a ∧ SqL K H1 a xs ∧ R (Itl K a) H1) ∨ (∃ a xs, x = .ref a ∧ SqT K H1 a xs ∧ R (Itt K a) H1) ∨ (∃ z, x = .str z ∧ R (Its z) H1) ∨
 ∃ d o kvs, x = .ref d ∧ H1 d = some (.frz o (.dK kvs)) ∧ R (Itk d o kvs) H1
theorem iS {e : Expr} {te : TE} (he : PE X e te) : PI X tg e (mX X.K te) := by
 refine ⟨fun pins s σ H R I h => ?_⟩
 refine thn (he.run pins s σ H _ I h) fun v s1 ⟨x, H1, I1, r1, q1⟩ => ?_
 rcases q1 with ⟨a, xs, rfl, hq, q⟩ | ⟨a, xs, rfl, hq, q⟩ | ⟨z, rfl, q⟩ | ⟨d, o, kvs, rfl, hd, q⟩
 ·cases r1
  obtain ⟨its, rv, p, hz⟩ := I1.list hq
  exact wpAny_pyIter_list p.isList (pi_one (tk := s1.toks) I1 _ (turn_list a _) ⟨_, Heap.get?_push_size _ rfl, rfl, rfl⟩ q)
 ·cases r1
  obtain ⟨its, rv, p, hz⟩ := I1.tuple hq
  exact wpAny_pyIter_tuple (show s1.heap.IsTuple a its.toArray from p) (pi_one (tk := s1.toks) I1 _ (turn_tuple a _) ⟨_, Heap.get?_push_size _ rfl, rfl, rfl⟩ q)
 ·obtain ⟨t, rfl⟩ := r1
  cases ha : z.cps.all (· < 128)
  ·exact wpAny_pyIter_wide ha (pi_one (tk := s1.toks) I1 _ (turn_str _ z t "str_iterator" (.inr rfl)) ⟨_, Heap.get?_push_size _ rfl, rfl, rfl⟩ q)
  ·exact wpAny_pyIter_ascii ha (pi_one (tk := s1.toks) I1 _ (turn_str _ z t "str_ascii_iterator" (.inl rfl)) ⟨_, Heap.get?_push_size _ rfl, rfl, rfl⟩ q)
 ·cases r1
  obtain ⟨hs, hgd, hx, es, ep, vs, hdt, hsz, kv, hm⟩ := I1.frzK hd
  refine iter_keys hs hgd hx hdt (pi_one (tk := s1.toks) I1 _ (turn_keys _ hdt) ⟨_, Heap.get?_push_size _ rfl, rfl, ?_⟩ q)
  rw [hsz] <;> rfl
def iT : D → (List D → Prop) → Prop
 | .lst ds, Q => Q ds
 | .tup ds, Q => Q ds
 | .str x, Q => Q (chD x)
 | .dic kvs, Q => Q (kvs.map fun p => kD p.1)
 | _, _ => False
def tIt (te : DTE) : DTI := fun en m Q Qx => te en m (fun x m1 => oD x fun d => iT d fun its => Q its m1) Qx
theorem lS {K : Frag} {B : Hp} {k : Key} (h : fG k) : Rv K B (kV k) (kD k) := by
 cases k with
 | inl i => exact .int i
 | inr x => exact .str h
theorem RvK.at' {K : Frag} {H : Hp} : ∀ {vs : List (Key × V)} {ds : List (Key × D)} {i : Nat} {k : Key} {v : V}, RvK K H vs ds → vs[i]? = some (k, v) → ∃ d, ds[i]? = some (k, d) ∧ Rv K H v d ∧ fG k
 | _, _, _, _, _, .nil, e => by simp at e
 | _, _, 0, k, v, .cons (d := d) ko h _, e => by
  simp at e
  obtain ⟨rfl, rfl⟩ := e
  exact ⟨d, rfl, h, ko⟩
 | _, _, i + 1, k, v, .cons _ _ t, e => by
  obtain ⟨d, h1, h2⟩ := RvK.at' (i := i) (k := k) (v := v) t (by simpa using e)
  exact ⟨d, by simpa using h1, h2⟩
theorem gq {K : Frag} {B0 : Hp} {d : Addr} {o : Obj} {vs : List (Key × V)} {ds : List (Key × D)} (h : B0 d = some (.frz o (.dK vs))) (r : RvK K B0 vs ds) : cK K B0 (Itk d o vs) (ds.map fun p => kD p.1) := by
 refine ⟨fun H => H d = some (.frz o (.dK vs)), fun i H x H' => H' = H ∧ ∃ k v, vs[i]? = some (k, v) ∧ x = kV k, by rw [List.length_map, ← r.len]; exact walk_keys, fun B μ mem H s M => M.le _ _ (s _ _ h), fun i B μ mem H x H' hi s M ⟨y1, k, v, y2, y3⟩ => ?_⟩
 subst y1 y3
 obtain ⟨dd, hd, _, ko⟩ := r.at' y2
 exact ⟨B, kD k, by rw [List.getElem?_map, hd]; rfl, .refl, M, lS ko⟩
theorem fe {e : Expr} {te : DTE} (he : DE X E e te) : DI X E tg e (tIt te) := by
 obtain ⟨t1, p1, k1⟩ := he.ex
 refine ⟨_, iS p1, fun B μ en m σ H Q Qx QV R hx T k => ?_⟩
 refine k1 B μ en m σ H _ Qx _ R hx T fun B1 μ1 m1 H1 x v s1 R1 r q => ?_
 cases x with
 | loc n => exact q.elim
 | v d =>
  cases r with
  | lst h rl => exact .inl ⟨_, _, rfl, .inl (.inl (R1.mem.le _ _ h)), k B1 μ1 m1 H1 _ _ s1 R1 (hR h rl) q⟩
  | tup h rl => exact .inr (.inl ⟨_, _, rfl, R1.mem.le.tup h, k B1 μ1 m1 H1 _ _ s1 R1 (hU h rl) q⟩)
  | str h => exact .inr (.inr (.inl ⟨_, rfl, k B1 μ1 m1 H1 _ _ s1 R1 (hV h) q⟩))
  | dic h rl => exact .inr (.inr (.inr ⟨_, _, _, rfl, R1.mem.le _ _ h, k B1 μ1 m1 H1 _ _ s1 R1 (gq h rl) q⟩))
  | non => exact q.elim
  | bl _ => exact q.elim
  | int _ => exact q.elim
  | ty _ => exact q.elim
  | fn _ => exact q.elim
  | obj _ _ => exact q.elim
  | exc _ _ _ => exact q.elim
  | lam _ => exact q.elim
def ef (lo : Int) (n : Nat) : List D := (List.range n).map fun i => .int (lo + (i : Nat))
theorem fL {K : Frag} {B0 : Hp} {lo : Int} {n : Nat} : cK K B0 (Itr lo n) (ef lo n) := by
 refine iR (f := fun i => .int (lo + i)) (by unfold ef; rw [List.length_map, List.length_range]; exact walk_range) fun i d h => ?_
 unfold ef at h
 rw [List.getElem?_map] at h
 cases q : (List.range n)[i]? with
 | none => rw [q] at h; cases h
 | some j =>
  rw [q] at h
  have e : i = j := by
   have z := List.getElem?_range (n := n) (i := i) (by
    have := (List.getElem?_eq_some_iff.mp q).1
    simpa using this)
   rw [z] at q
   exact Option.some.inj q
  subst e
  cases h
  exact .int _
def lU : List W → (List D → Prop) → Prop
 | [.v (.int j)], Q => -(2 ^ 62) ≤ j ∧ j < 2 ^ 62 ∧ Q (ef 0 j.toNat)
 | _, _ => False
def tRg (f : List W → (List D → Prop) → Prop) (ta : DTA) : DTI := fun en m Q Qx => ta en m (fun xs m1 => f xs fun its => Q its m1) Qx
theorem bi {a : Expr} {ta : DTA} {p pos : Pos} (hm : X.mg "range" = none) (ha : DA X E [a] ta) (hg : Gl X "range" := by rfl) (hs : starEach [a] X.env = [(false, eval a X.env)] := by rfl) : DI X E tg (.Call (.Name "range" p) [a] [] pos) (tRg lU ta) := by
 obtain ⟨t1, p1, k1⟩ := ha.ex
 refine ⟨_, pi_range1 hg hm p1 hs, fun B μ en m σ H Q Qx QV R hx T k => ?_⟩
 refine k1 B μ en m σ H _ Qx _ R hx T fun B1 μ1 m1 H1 xs vs s1 R1 r q => ?_
 unfold lU at q
 split at q
 ·cases r with
  | cons a t =>
   cases t
   cases a
   exact ⟨_, rfl, q.1, q.2.1, k B1 μ1 m1 H1 _ _ s1 R1 fL q.2.2⟩
 ·exact q.elim
def kN : W → Me → Prop
 | .v (.str _), _ => True
 | _, _ => False
theorem jI : STy X "str" kN := by
 intro B μ m H x v M r q
 unfold kN at q
 split at q
 ·cases (show Rv X.K B v (.str _) from r)
  rfl
 ·exact q.elim
def m1 (f : Str → D → (D → Prop) → Prop) : DMt := fun x xs m Q => match x, xs with
 | .v (.str a), [y] => look y m fun d => f a d fun r => Q r m
 | _, _ => False
theorem SM.of1 {r : V → List V → Hp → VK → Prop} {f : Str → D → (D → Prop) → Prop} (h : ∀ B μ m H a v d (Q : D → Prop) (QV : VK), MemOk X.K B μ m H → okS a = true → Top X.K B H v d → f a d Q →
  (∀ B' H' d z, Stp B μ m H B' μ m H' → MemOk X.K B' μ m H' → Rv X.K B' z d → Q d → QV z H') → r (.str a) [v] H QV) : SM X r (m1 f) := by
 intro B μ m H x xs v vs Q QV M rx rs q k
 unfold m1 at q
 split at q
 ·cases (show Rv X.K B v (.str _) from rx) with
  | str ho =>
   cases rs with
   | cons a t =>
    cases t
    obtain ⟨d, td, q⟩ := aN M a q
    exact h B μ m H _ _ d (fun r => Q r m) QV M ho td q fun B' H' d z s M' rz q' => k B' m H' d z s M' rz q'
 ·exact q.elim
def gU : List D → (List Str → Prop) → Prop
 | [], Q => Q []
 | .str b :: r, Q => gU r fun bs => Q (b :: bs)
 | _ :: _, _ => False
theorem fM {K : Frag} {B : Hp} : ∀ {ds : List D} {vs : List V} {Q : List Str → Prop}, RvL K B vs ds → gU ds Q → ∃ bs, vs = bs.map V.str ∧ (∀ b ∈ bs, okS b = true) ∧ Q bs
 | [], _, _, .nil, q => ⟨[], rfl, by simp, q⟩
 | .str b :: r, _, Q, .cons a t, q => by
  cases a with
  | str hb =>
   obtain ⟨bs, rfl, ho, k⟩ := fM (Q := fun bs => Q (b :: bs)) t q
   exact ⟨b :: bs, rfl, by simp [hb, ho]; exact ho, k⟩
 | .non :: _, _, _, _, q => q.elim
 | .int _ :: _, _, _, _, q => q.elim
 | .bl _ :: _, _, _, _, q => q.elim
 | .ty _ :: _, _, _, _, q => q.elim
 | .fn _ :: _, _, _, _, q => q.elim
 | .tup _ :: _, _, _, _, q => q.elim
 | .lst _ :: _, _, _, _, q => q.elim
 | .dic _ :: _, _, _, _, q => q.elim
 | .obj _ _ :: _, _, _, _, q => q.elim
 | .exc _ _ :: _, _, _, _, q => q.elim
 | .lam _ _ _ :: _, _, _, _, q => q.elim
theorem df : ∀ (sep : Str) (rest : List Str) (acc : Array Nat), (rest.foldl (fun acc p => acc ++ sep.cps ++ p.cps) acc).toList = acc.toList ++ rest.flatMap (fun p => sep.cps.toList ++ p.cps.toList)
 | _, [], acc => by simp
 | sep, p :: rest, acc => by
  rw [List.foldl_cons, df sep rest]
  simp
theorem iU {sep : Str} (h : okS sep = true) : ∀ {zs : List Str}, (∀ z ∈ zs, okS z = true) → okS (Txt.join sep zs) = true
 | [], _ => aO.mpr fun c hc => by
  have hc : c ∈ (#[] : Array Nat).toList := hc
  simp at hc
 | x :: rest, k => by
  refine aO.mpr fun c hc => ?_
  have e : Txt.join sep (x :: rest) = (⟨rest.foldl (fun acc p => acc ++ sep.cps ++ p.cps) x.cps⟩ : Str) := rfl
  rw [e] at hc
  have hc : c ∈ (rest.foldl (fun acc p => acc ++ sep.cps ++ p.cps) x.cps).toList := hc
  rw [df] at hc
  rcases List.mem_append.mp hc with hc | hc
  ·exact aO.mp (k x List.mem_cons_self) c hc
  ·obtain ⟨p, hp, hc⟩ := List.mem_flatMap.mp hc
   rcases List.mem_append.mp hc with hc | hc
   ·exact aO.mp h c hc
   ·exact aO.mp (k p (List.mem_cons_of_mem _ hp)) c hc
def lV : Str → D → (D → Prop) → Prop
 | a, .lst ds, Q => gU ds fun ys => (ys.map (·.length)).sum + ys.length * a.length ≤ 16777216 ∧ Q (.str (Txt.join a ys))
 | _, _, _ => False
theorem kO {o e : Expr} {to : DTE} {ta : DTA} {apos cpos : Pos} (ho : DE X E o to) (ha : DA X E [e] ta)
  (hbase : attributeBase o "join" X.env (eval o X.env) = eval o X.env := by rfl)
  (hfew : ((backTo cpos (starEach [e] X.env)).all (fun x => !x.1) && (backToKw cpos (keywordEach [] X.env)).all (fun x => x.1.isSome)
   && decide ([e].length + ([] : List Keyword).length + (if ([] : List Keyword).isEmpty then 0 else 1) < 30)) = true := by rfl)
  (hline : (apos.endLine == cpos.line) = true := by rfl) (hs : starEach [e] X.env = (false, eval e X.env) :: starEach [] X.env := by rfl) (hplain : (backTo cpos (starEach [] X.env)).any (·.1) = false := by rfl) :
  DE X E (.Call (.Attribute o "join" apos) [e] [] cpos) (tMe kN (m1 lV) to ta) :=
 lC PySem.F.plainAttrs_str PySem.F.slot_str_join PySem.F.type_str_join mt_join (SM.of1 fun B μ m H a v d Q QV M ha td q k => by
  cases d with
  | lst ds =>
   obtain ⟨p, vs, rfl, hp, r⟩ := td
   obtain ⟨bs, rfl, ho, q1, q⟩ := fM r q
   exact ⟨a, p, bs, rfl, rfl, .inl (.inl (.inl hp)), q1, SO.pure M k (.str (iU ha ho)) q⟩
  | _ => exact q.elim) jI ho ha hbase hfew hline hs hplain
inductive DJ (X : Cx) (E : XK) : List Expr → List DTE → Prop where
 | nil : DJ X E [] []
 | cons {e : Expr} {t : DTE} {es : List Expr} {ts : List DTE} (h : DE X E e t) (r : DJ X E es ts) : DJ X E (e :: es) (t :: ts)
def sD : W → (Str → Prop) → Prop
 | .v (.str x), Q => Q x
 | _, _ => False
theorem kh {K : Frag} {B : Hp} {μ : List Addr} {v : V} {x : W} {Q : Str → Prop} (r : RW K B μ v x) (q : sD x Q) : ∃ z, v = .str z ∧ okS z = true ∧ Q z := by
 unfold sD at q
 split at q
 ·cases (show Rv K B v (.str _) from r) with
  | str h => exact ⟨_, rfl, h, q⟩
 ·exact q.elim
def tJo : List DTE → Str → En → Me → (Str → Me → Prop) → QX → Prop
 | [], acc, _, m, Q, _ => Q acc m
 | t :: ts, acc, en, m, Q, Qx => t en m (fun x m1 => sD x fun y => (acc ++ y).length ≤ sizeLine ∧ tJo ts (acc ++ y) en m1 Q Qx) Qx
theorem DJ.pj {es : List Expr} {ts : List DTE} (h : DJ X E es ts) : ∃ us, PJ X es us ∧ ∀ (acc : Str) B μ en m σ H (Q : Str → Me → Prop) (Qx : QX) (QV : Str → Hp → Prop), okS acc = true → Rel X.K B μ en m σ H → ExOf X.K E B μ m H Qx → tJo ts acc en m Q Qx →
  (∀ B' μ' m' H' z, okS z = true → Stp B μ m H B' μ' m' H' → Rel X.K B' μ' en m' σ H' → Q z m' → QV z H') → tJs us acc σ H QV := by
 induction h with
 | nil => exact ⟨[], .nil, fun acc B μ en m σ H Q Qx QV ho R hx T k => k B μ m H acc ho .refl R T⟩
 | cons h r ih =>
  obtain ⟨t1, p1, k1⟩ := h.ex
  obtain ⟨us, p2, k2⟩ := ih
  refine ⟨t1 :: us, .cons p1 p2, fun acc B μ en m σ H Q Qx QV ho R hx T k => ?_⟩
  refine k1 B μ en m σ H _ Qx _ R hx T fun B1 μ1 m1 H1 x v s1 R1 r q => ?_
  obtain ⟨z, rfl, hz, q1, q⟩ := kh r q
  refine ⟨z, rfl, q1, k2 _ B1 μ1 en m1 σ H1 _ Qx _ (eZ ho hz) R1 (hx.step s1 R1.mem R.mem.le) q fun B2 μ2 m2 H2 z2 h2 s2 R2 q2 => ?_⟩
  exact k B2 μ2 m2 H2 z2 h2 (s1.trans R1.mem s2 R.mem.le) R2 q2
def lW (ts : List DTE) : DTE := fun en m Q Qx => tJo ts Str.empty en m (fun z m1 => Q (.v (.str z)) m1) Qx
theorem eF : okS Str.empty = true := aO.mpr fun c hc => by
 have hc : c ∈ (#[] : Array Nat).toList := hc
 simp at hc
theorem iV {v1 v2 : Expr} {rest : List Expr} {ts : List DTE} {pos : Pos} (h : DJ X E (v1 :: v2 :: rest) ts) : DE X E (.JoinedStr (v1 :: v2 :: rest) pos) (lW ts) := by
 obtain ⟨us, p, k⟩ := h.pj
 refine ⟨_, pe_joined p, fun B μ en m σ H Q Qx QV R hx T kk => ?_⟩
 exact k Str.empty B μ en m σ H _ Qx _ eF R hx T fun B' μ' m' H' z hz s R' q => kk B' μ' m' H' (.v (.str z)) _ s R' (RW.d (.str hz)) q
def tFm (te : DTE) : DTE := fun en m Q Qx => te en m (fun x m1 => match x with
 | .v (.str y) => y.length ≤ sizeLine ∧ Q (.v (.str y)) m1
 | .v (.int i) => i.natAbs.log2 < 1920 ∧ Q (.v (.str (toString i))) m1
 | _ => False) Qx
theorem iW {e : Expr} {te : DTE} {pos : Pos} (he : DE X E e te) : DE X E (.FormattedValue e (-1) none pos) (tFm te) := by
 obtain ⟨t1, p1, k1⟩ := he.ex
 refine ⟨_, pe_fmt p1, fun B μ en m σ H Q Qx QV R hx T k => ?_⟩
 refine k1 B μ en m σ H _ Qx _ R hx T fun B1 μ1 m1 H1 x v s1 R1 r q => ?_
 split at q
 ·cases (show Rv X.K B1 v (.str _) from r) with
  | str h => exact .inl ⟨_, rfl, q.1, k B1 μ1 m1 H1 _ _ s1 R1 (RW.d (.str h)) q.2⟩
 ·cases (show Rv X.K B1 v (.int _) from r)
  exact .inr ⟨_, rfl, q.1, k B1 μ1 m1 H1 (.v (.str (toString _))) _ s1 R1 (RW.d (.str (gR _))) q.2⟩
 ·exact q.elim
def jJ : D → Option String
 | .non => some "NoneType" | .bl _ => some "bool" | .int _ => some "int" | .str _ => some "str" | .lst _ => some "list" | .tup _ => some "tuple" | .dic _ => some "dict"
 | _ => none
def gr : Tg → D → Bool
 | .list, .lst _ => true
 | .tuple, .tup _ => true
 | .dict, .dic _ => true
 | .bool, .bl _ => true
 | .int, .bl _ => true
 | .int, .int _ => true
 | .str, .str _ => true
 | _, _ => false
def tgS : String → Option Tg
 | "list" => some .list | "tuple" => some .tuple | "dict" => some .dict | "bool" => some .bool | "int" => some .int | "str" => some .str
 | _ => none
theorem gs {s : String} {t : Tg} (h : tgS s = some t) : s = t.nm := by
 unfold tgS at h
 split at h <;> cases h <;> rfl
theorem ff {d : D} {s : String} (h : jJ d = some s) (t : Tg) : kitB s t.nm = some (gr t d) := by
 cases d <;> cases h <;> cases t <;> simp only [Tg.nm, gr] <;> decide +kernel
theorem Top.ty {K : Frag} {B H : Hp} (le : Le B H) {v : V} {d : D} {s : String} (t : Top K B H v d) (h : jJ d = some s) : TyX K H v (.type s) := by
 cases d with
 | non => cases t; cases h; exact .base .non
 | bl b => cases t; cases h; exact .base (.bl b)
 | int b => cases t; cases h; exact .base (.int b)
 | str b => cases t; cases h; exact .base (.str b)
 | tup _ => obtain ⟨a, vs, rfl, hs, _⟩ := t; cases h; exact SqT.ty (le.tup hs)
 | lst _ => obtain ⟨a, vs, rfl, hs, _⟩ := t; cases h; exact .base (.lst hs)
 | dic _ =>
  obtain ⟨a, vs, rfl, hs, _⟩ := t
  cases h
  rcases hs with hs | ⟨o, hs⟩
  ·exact .base (.dK hs)
  ·exact .fDict hs
 | ty _ => cases h
 | fn _ => cases h
 | obj _ _ => cases h
 | exc _ _ => cases h
 | lam _ _ _ => cases h
def kP : F2 := fun d c Q => match c with
 | .ty n => (match tgS n with
  | some t => (jJ d).isSome = true ∧ Q (.bl (gr t d))
  | none => False)
 | _ => False
theorem lX : SC X (rIsi X.K) (c2 kP) := SC.of2 fun B μ m H v u d e Q QV M td te q k => by
 unfold kP at q
 cases e with
 | ty n =>
  cases te
  cases ht : tgS n with
  | none => simp only [ht] at q
  | some t =>
   simp only [ht] at q
   obtain ⟨s, hs⟩ := Option.isSome_iff_exists.mp q.1
   have en := gs ht
   subst en
   exact ⟨v, _, _, _, _, rfl, .ty _, Top.ty M.le td hs, kit_ty (ff hs t), SO.pure M k (.bl _) q.2⟩
 | _ => exact q.elim
theorem bM {e e2 : Expr} {ta : DTA} {p pos : Pos} (hm : X.mg "isinstance" = none) (ha : DA X E [e, e2] ta) (hg : Gl X "isinstance" := by rfl) (he : starEach [e, e2] X.env = (false, eval e X.env) :: starEach [e2] X.env := by rfl) (hpl : (backTo pos (starEach [e2] X.env)).any (·.1) = false := by rfl) : DE X E (.Call (.Name "isinstance" p) [e, e2] [] pos) (tCa (c2 kP) ta) :=
 gp call_isi lX hm (by decide +kernel) ha hg (by decide) (by decide) he hpl
end
theorem u64 {k : Nat} {A : Around} (r : Room k A) : A.units + 64 < cLine := r.units
theorem u65 {k : Nat} {A : Around} (r : Room k A) : A.units + 65 < cLine := by have := r.un; omega
section
variable {X : Cx} {E : XK}
theorem dv (i : Nat) {x : Str} {pos : Pos} (hN : X.N[i]? = some x := by rfl) (hv : Vis X.env.scope x := by first | exact Or.inl rfl | exact Or.inr (Or.inl rfl) | exact Or.inr (Or.inr rfl)) (hd : (x == ("__debug__" : Str)) = false := by decide)
  (hcd : (x == ("__classdict__" : Str)) = false := by decide) : DE X E (.Name x pos) (tV i) := lt hN hv hd hcd
theorem ki : OpD X (binaryOp .Mult) (oL lI) := by
 refine ⟨_, op_mulW.or op_rep, SO.of fun B μ m H v u dx dy Q QV M tx ty q k => ?_⟩
 unfold lI at q
 split at q
 ·cases tx
  cases ty
  exact .inl ⟨_, _, rfl, rfl, q.1, SO.pure M k (.int _) q.2⟩
 ·obtain ⟨a, vs, rfl, h1, r1⟩ := tx
  cases ty
  obtain ⟨q0, q1, q2, q⟩ := q
  exact .inr ⟨a, _, vs, rfl, rfl, h1, by omega, by omega, by rw [r1.len]; exact q2, fun p np => SO.new M k np (bH M np (r1.rep _)) q⟩
 ·exact q.elim
def mY : F2 := gl fun i j Q => CPow i j ∧ Q (.int (i ^ j.toNat))
theorem lY : OpD X (binaryOp .Pow) (oL mY) := ⟨_, op_pow, SO.of fun B μ m H v u dx dy Q QV M tx ty q k => by
 obtain ⟨i, j, rfl, rfl, q1, q⟩ := cP tx ty q
 exact ⟨_, _, rfl, rfl, q1, SO.pure M k (.int _) q⟩⟩
theorem SE.lc {elt tg iter : Expr} {is : List Nat} {own : List (Str × Nat)} {ti : DTI} {g : DTG} {tt : DTT} {te : DTE} {t0 : TI} (p0 : PI X tg iter t0) (k0 : ∀ B μ en m σ H (Q : List D → Me → Prop) (Qx : QX) (QV : It → Hp → Prop), Rel X.K B μ en m σ H → ExOf X.K E B μ m H Qx → ti en m Q Qx →
  (∀ B' μ' m' H' its J, Stp B μ m H B' μ' m' H' → Rel X.K B' μ' en m' σ H' → cK X.K B' J its → Q its m' → QV J H') → t0 σ H QV) (hv : is.all (fun i => (own.map (·.2)).contains i) = true) :
  SE X E (tLc t0 (Fs.lG X.K is g) (Fs.lT X.K E0 tt) (Fs.lE X.K E0 te) (own.map (·.2))) (kG ti g tt te (own.map (·.2))) := by
 have hv' : ∀ i ∈ is, i ∈ own.map (·.2) := fun i h => List.contains_iff_mem.mp (List.all_eq_true.mp hv i h)
 intro B μ en m σ H Q Qx QV R hx T k
 refine k0 B μ en m σ H _ Qx _ R hx T fun B1 μ1 m1 H1 its J s1 R1 ⟨G, Y, w, hG, hY⟩ q => ?_
 intro L nL
 obtain ⟨nb1, nl1⟩ := R1.mem.none nL
 have Rw := R1.wipe (own.map (·.2))
 generalize hen : bm en (own.map (·.2)) = enw at q Rw
 refine lc_it w (fun i H' => ∃ B' μ' m' vs acc, Stp B1 μ1 m1 H1 B' μ' m' H' ∧ MemOk X.K B' μ' m' H' ∧ B' L = none ∧ ¬ Live μ' m' L ∧ H' L = some (.lst vs) ∧ RvL X.K B' vs acc ∧ lcL g tt te enw (its.drop i) acc m' Q) ?_ (fun i H' _ ⟨B', μ', m', vs, acc, s', M', _⟩ => hG B' μ' m' H' s'.same M') (fun i x H2 H3 hi ⟨B', μ', m', vs, acc, s', M', nb, nl, hL, rv, q'⟩ y => ?_) (fun H' ⟨B', μ', m', vs, acc, s', M', nb, nl, hL, rv, q'⟩ => ?_)
 ·have kp : ∀ b o, b ≠ L → H1 b = some o → upd H1 L (.lst []) b = some o := fun b o c e => by rw [upd_ne c]; exact e
  exact ⟨B1, μ1, m1, [], [], Stp.refl.touch nL kp, R1.mem.touch nb1 nl1 kp, nb1, nl1, upd_same, .nil, q⟩
 ·obtain ⟨B3, d, hd, s3, m3, rd⟩ := hY i B' μ' m' H2 x H3 hi s'.same M' y
  have s13 := s'.trans M' s3 R1.mem.le
  obtain ⟨nb3, nl3⟩ := s3.hid L _ nl hL ⟨(fun _ z => nomatch z), (fun _ z => nomatch z)⟩ nb
  have hL3 := s3.out L _ nl hL (fun _ z => nomatch z)
  have R3 : Rel X.K B3 μ' enw m' (L2.wipe σ (own.map (·.2))) H3 := Rw.stp s13 m3
  rw [List.drop_eq_getElem_cons hi] at q'
  have ed : its[i] = d := by
   rw [List.getElem?_eq_getElem hi] at hd
   exact Option.some.inj hd
  rw [ed] at q'
  refine ⟨B3, μ', enw, m', .v d, _, R3, rd, q', fun B4 μ4 en4 m4 σ4 H4 s4 R4 st4 q4 => ⟨by rw [st4.wipe hv', bB], ?_⟩⟩
  have s14 := s13.trans m3 s4 R1.mem.le
  obtain ⟨nb4, nl4⟩ := s4.hid L _ nl3 hL3 ⟨(fun _ z => nomatch z), (fun _ z => nomatch z)⟩ nb3
  have hL4 := s4.out L _ nl3 hL3 (fun _ z => nomatch z)
  refine ⟨B4, μ4, en4, m4, _, noX, R4, ExOf.no, q4, fun B5 μ5 m5 H5 b s5 R5 q5 => ?_⟩
  have s15 := s14.trans R4.mem s5 R1.mem.le
  obtain ⟨nb5, nl5⟩ := s5.hid L _ nl4 hL4 ⟨(fun _ z => nomatch z), (fun _ z => nomatch z)⟩ nb4
  have hL5 := s5.out L _ nl4 hL4 (fun _ z => nomatch z)
  have rv5 := rv.to ((s3.same.trans s4.same).trans s5.same)
  cases b with
  | false => exact iteF ⟨B5, μ5, m5, vs, acc, s15, R5.mem, nb5, nl5, hL5, rv5, q5⟩
  | true =>
   refine iteT ⟨B5, μ5, en4, m5, _, noX, R5, ExOf.no, q5, fun B6 μ6 m6 H6 y v s6 R6 r6 q6 => ?_⟩
   cases y with
   | loc n => exact q6.elim
   | v dy =>
    obtain ⟨lz, q6⟩ := q6
    have s16 := s15.trans R5.mem s6 R1.mem.le
    obtain ⟨nb6, nl6⟩ := s6.hid L _ nl5 hL5 ⟨(fun _ z => nomatch z), (fun _ z => nomatch z)⟩ nb5
    have hL6 := s6.out L _ nl5 hL5 (fun _ z => nomatch z)
    have rv6 := rv5.to s6.same
    have kp : ∀ b o, b ≠ L → H6 b = some o → upd H6 L (.lst (vs ++ [v])) b = some o := fun b o c e => by rw [upd_ne c]; exact e
    exact ⟨vs, hL6, by rw [rv6.len]; exact lz, B6, μ6, m6, vs ++ [v], acc ++ [dy], s16.touch nL kp, R6.mem.touch nb6 nl6 kp, nb6, nl6, upd_same, rv6.append (.one r6), q6⟩
 ·rw [List.drop_length] at q'
  have same : Same B' (upd B' L (.lst vs)) := av nb _
  have M2 : MemOk X.K (upd B' L (.lst vs)) μ' m' H' := by
   refine ⟨fun a o e => ?_, M'.len, fun a l => ?_, fun n a x e1 e2 e3 => OO.to same (List.prefix_refl _) (fun _ z => z) (M'.at_ n a x e1 e2 e3), M'.inj, fun a ps e => by
    by_cases c : a = L
    ·subst c
     rw [upd_same] at e
     cases e
    ·rw [upd_ne c] at e
     exact M'.ntb a ps e⟩
   ·by_cases c : a = L
    ·subst c
     rw [upd_same] at e
     cases e
     exact hL
    ·rw [upd_ne c] at e
     exact M'.le a o e
   ·have c : a ≠ L := fun z => by
     subst z
     exact nl l
    rw [upd_ne c]
    exact M'.off a l
  have st : Stp B1 μ1 m1 H1 (upd B' L (.lst vs)) μ' m' H' := ⟨s'.same.trans same, s'.pre, s'.out, fun a o n e x b => by
   obtain ⟨h1, h2⟩ := s'.hid a o n e x b
   refine ⟨?_, h2⟩
   rw [upd_ne (ne_of_none e nL)]
   exact h1⟩
  have stt := s1.trans R1.mem st R.mem.le
  exact k _ μ' m' H' _ _ stt (R.stp stt M2) (RW.d (.lst upd_same (rv.to same))) q'
theorem fN {i : Nat} {y : Str} {py : Pos} {elt tg iter : Expr} {ifs : List Expr} {scope : Scope} {own : List (Str × Nat)} {is : List Nat} {pos spos : Pos} {ti : DTI} {g : DTG} {tt : DTT} {te : DTE} (hy : X.N[i]? = some y) (hyl : X.env.scope.names.lookup y = some .local)
  (hsw : swapsWith (.ListComp elt [⟨tg, iter, ifs, 0⟩] scope pos) (some (.Name y py)) spos.line X.env = pure true) (hc : X.calm = true) (hN : X.N.Nodup) (hi : DI X E tg iter ti) (ok : BlkOk X.N X.env.scope scope own)
  (hg : ∀ (s : Shared) (H : Hp) (C : Addr) (cl : List (Str × Addr)) (fp : List Addr), DG (X.blk s H scope (compEnvC scope cl C X.env) fp) tg is g) (ht : ∀ (s : Shared) (H : Hp) (C : Addr) (cl : List (Str × Addr)) (fp : List Addr), DTs (X.blk s H scope (compEnvC scope cl C X.env) fp) E0 ifs tt)
  (he : ∀ (s : Shared) (H : Hp) (C : Addr) (cl : List (Str × Addr)) (fp : List Addr), DE (X.blk s H scope (compEnvC scope cl C X.env) fp) E0 elt te) (hs : ∀ x, foldedSetIterable iter X.env x = pure x := by intro _; rfl) (hv : is.all (fun i => (own.map (·.2)).contains i) = true := by rfl) :
  DS X E (.Assign [.Name y py] (.ListComp elt [⟨tg, iter, ifs, 0⟩] scope pos) spos) (kF i (kG ti g tt te (own.map (·.2)))) := by
 obtain ⟨t0, p0, k0⟩ := hi.ex
 have se := SE.lc (elt := elt) (E := E) (g := g) (tt := tt) (te := te) (own := own) p0 k0 hv
 refine ⟨_, ps_setLc hc hN hy hyl hsw p0 ok (g := lG X.K is g) (tt := lT X.K E0 tt) (te := lE X.K E0 te) (fun s H C cl fp => (hg s H C cl fp).pg) (fun s H C cl fp => (ht s H C cl fp).pts) (fun s H C cl fp => (he s H C cl fp).pe) hs, fun B μ en m σ H N D R hx T e => ?_⟩
 exact se B μ en m σ H _ _ _ R hx T fun B1 μ1 m1 H1 x v s1 R1 r q => e.nx B1 μ1 _ m1 _ H1 s1 (R1.set r) q
def km (s t : String) (d : D) (Q : D → Prop) : Prop := match tgS s, tgS t with
 | some a, some b => (jJ d).isSome = true ∧ Q (.bl (gr a d || gr b d))
 | _, _ => False
def lZ (s t : String) (te : DTE) : DTE := fun en m Q Qx => te en m (fun x m1 => look x m1 fun d => km s t d fun r => Q (.v r) m1) Qx
theorem kQ {e a b : Expr} {te : DTE} {s t : String} {p pos tpos : Pos} {k : Nat} (hm : X.mg "isinstance" = none) (he : DE X E e te) (hpa : PE X a (tC (.ty s))) (hpb : PE X b (tC (.ty t))) (hg : Gl X "isinstance" := by rfl)
  (hst : starEach [e, .Tuple [a, b] k tpos] X.env = (false, eval e X.env) :: starEach [.Tuple [a, b] k tpos] X.env := by rfl) (hst2 : starEach [.Tuple [a, b] k tpos] X.env = (false, eval (.Tuple [a, b] k tpos) X.env) :: starEach [] X.env := by rfl)
  (hpl : (backTo pos (starEach [.Tuple [a, b] k tpos] X.env)).any (·.1) = false := by rfl) (h1 : starEach [a, b] X.env = (false, eval a X.env) :: starEach [b] X.env := by rfl) (h2 : starEach [b] X.env = (false, eval b X.env) :: starEach [] X.env := by rfl) :
  DE X E (.Call (.Name "isinstance" p) [e, .Tuple [a, b] k tpos] [] pos) (lZ s t te) := by
 obtain ⟨t1, p1, k1⟩ := he.ex
 refine ⟨_, pe_callB call_isiT hg hm (by decide +kernel) (pa_cons p1 (pa_cons (pe_tup (pa_cons hpa (pa_cons hpb pa_nil h2) h1)) pa_nil hst2) hst) (by decide) (by decide) hst hpl, fun B μ en m σ H Q Qx QV R hx T k => ?_⟩
 refine k1 B μ en m σ H _ Qx _ R hx T fun B1 μ1 m1 H1 x v s1 R1 r q => ⟨by show 2 ≤ sizeLine; decide, fun p np => ?_⟩
 have sl := Stp.laid R1.mem np (o := .tup [.ty s, .ty t])
 have ml := R1.mem.laid np (o := .tup [.ty s, .ty t])
 obtain ⟨d, td, q2⟩ := aN ml (r.to sl.same sl.pre) q
 unfold km at q2
 split at q2
 ·rename_i a' b' e1 e2
  obtain ⟨ts, hs⟩ := Option.isSome_iff_exists.mp q2.1
  have en1 := gs e1
  have en2 := gs e2
  subst en1 en2
  refine ⟨v, p, [.ty a'.nm, .ty b'.nm], .type ts, [.type a'.nm, .type b'.nm], gr a' d || gr b' d, rfl, upd_same, .cons (.ty _) (.cons (.ty _) .nil), Top.ty ml.le td hs, ?_, ?_⟩
  ·refine kitAny_cons (kit_ty (ff hs a')) (fun e => ?_) (fun e => by rw [e]; rfl)
   rw [e, Bool.false_or]
   refine kitAny_cons (kit_ty (ff hs b')) (fun e => ?_) (fun e => e)
   rw [e]
   rfl
  ·have st := s1.trans R1.mem sl R.mem.le
   exact k _ μ1 m1 _ (.v (.bl _)) _ st (R.stp st ml) (RW.d (.bl _)) q2.2
 ·exact q2.elim
section
variable {CX : CXT} {k : Nat} {x : Str} {ps : List Str} {sp : SpD} {e : Expr} {es : List Expr} {p pos : Pos} {ta : DTA}
structure DK (X : Cx) (E : XK) (kws : List Keyword) (T : DTA) : Prop where
 ex : ∃ t, PK X kws t ∧ SA X E t T
end
end
section
variable {P : Program} {w : World} {K : Frag} {mg : Str → Option Value} {base : Heap} {k : Nat} {x : Str} {ps : List Str}
theorem Gd.up {sp : Sp} (G : Gd P w K mg base CX0 k x ps sp) : Gd P w K mg base (L2.CX P w) k x ps sp := by
 obtain ⟨f, fd, a, b, c, F⟩ := G.ex
 refine ⟨f, fd, a, b, c, F.len, fun A outer s H args us vs Q E hr he hb hv hs => codeAny_mono (F.run A outer s H args us vs Q E hr he hb hv hs) fun r s' h => ?_⟩
 cases r with
 | error e => exact (show False from h).elim
 | ok fl => cases fl <;> exact h
def b8 : SpD := fun ws m Q _ => ∃ n k, ws = [.loc n, .v (.int k)] ∧ m[n]? = some .bag ∧ 0 < k ∧ k < 2 ^ 100 ∧ ∀ r, 0 ≤ r → r < k → Q (.v (.int r)) m
theorem iX {α : Type} {l : List α} {n : Nat} {x : α} (h : l[n]? = some x) : l.set n x = l := by
 apply List.ext_getElem?
 intro i
 by_cases c : i = n
 ·subst c
  rw [List.getElem?_set_self (List.getElem?_eq_some_iff.mp h).1, h]
 ·rw [List.getElem?_set_ne (fun z => c z.symm)]
theorem hW {vs : List V} {H : Hp} {Q : VK} {E E' : XK} (h : af K b8 vs H Q E) : gh vs H Q E' := by
 obtain ⟨B, μ, m, ws, Qd, Qx, M, r, ⟨n, j, rfl, hm, h0, h1, q⟩, hx, hq⟩ := h
 cases r with
 | cons a t =>
  cases t with
  | cons b t =>
   cases t
   cases (show Rv K B _ (.int j) from b)
   obtain ⟨p, rfl, hp⟩ := a
   obtain ⟨l, i, rs, sd, ns, e1, e2, e3⟩ := (show BagB B H p from M.at_ n p _ hp hm rfl).ex
   refine ⟨p, l, j, rfl, ⟨i, rs, sd, ns, e1, M.le _ _ e2, e3⟩, h0, h1, fun z H' z0 z1 sx B' => ?_⟩
   have kp : ∀ b o, b ≠ p → H b = some o → H' b = some o := fun b o c e => sx.at c e
   obtain ⟨i', rs', sd', ns', f1, f2, f3⟩ := B'.ex
   have nl : l ≠ p := fun z => by
    subst z
    rw [M.off l ⟨n, _, hp, hm, rfl⟩] at e2
    cases e2
   have e4 := kp l _ nl (M.le _ _ e2)
   have new : OO K B μ H' p .bag := ⟨l, i', rs', sd', ns, f1, e2, f3⟩
   have M2 := M.store hp hm rfl rfl kp new (m' := .bag)
   have S2 := Stp.store (B := B) (m' := .bag) hp hm rfl kp
   rw [iX hm] at M2 S2
   exact hq B μ m H' (.v (.int z)) _ S2 M2 (.int z) (q z z0 z1)
theorem l5 (G : Gd P w K mg base CX0 k x ps gh) : Gd P w K mg base (L2.CX P w) k x ps (af K b8) := G.up.imp fun _ _ _ _ h => hW h
end
inductive All2 (R : Nat → D → D → Prop) : Nat → List D → List D → Prop
 | nil {i : Nat} : All2 R i [] []
 | cons {i : Nat} {d y : D} {ds ys : List D} : R i d y → All2 R (i + 1) ds ys → All2 R i (d :: ds) (y :: ys)
theorem All2.len {R : Nat → D → D → Prop} {i : Nat} {ds ys : List D} (h : All2 R i ds ys) : ds.length = ys.length := by
 induction h with
 | nil => rfl
 | cons _ _ ih => rw [List.length_cons, List.length_cons, ih]
theorem b9 {g : DTG} {te : DTE} {en : En} {m : Me} (R : Nat → D → D → Prop) : ∀ {its acc : List D} {Q : W → Me → Prop} (i : Nat), acc.length + its.length ≤ sizeLine →
  (∀ j d (Qt : W → Me → Prop), its[j]? = some d → (∀ y, R (i + j) d y → Qt (.v y) m) → g (.v d) en m fun en1 m1 => te en1 m1 Qt noX) → (∀ ys, All2 R i its ys → Q (.v (.lst (acc ++ ys))) m) → lcL g tYs te en its acc m Q
 | [], acc, Q, i, _, _, k => by
  have z := k [] .nil
  rw [List.append_nil] at z
  exact z
 | d :: ds, acc, Q, i, hl, h, k => by
  rw [List.length_cons] at hl
  refine h 0 d _ rfl fun y r => ?_
  refine ⟨by omega, ?_⟩
  refine b9 R (i + 1) (by rw [List.length_append, List.length_singleton]; omega) (fun j e Qt he hq => h (j + 1) e Qt (by simpa using he) fun y r => hq y (by rw [show i + 1 + j = i + (j + 1) by omega]; exact r)) fun ys a => ?_
  rw [List.append_assoc]
  exact k (y :: ys) (.cons r a)
theorem gX {g : DTG} {te : DTE} {en : En} {m : Me} (f : D → D) : ∀ {its acc : List D} {Q : W → Me → Prop}, acc.length + its.length ≤ sizeLine →
  (∀ d (Qt : W → Me → Prop), d ∈ its → Qt (.v (f d)) m → g (.v d) en m fun en1 m1 => te en1 m1 Qt noX) → Q (.v (.lst (acc ++ its.map f))) m → lcL g tYs te en its acc m Q
 | [], acc, Q, _, _, k => by
  rw [List.map_nil, List.append_nil] at k
  exact k
 | d :: ds, acc, Q, hl, h, k => by
  rw [List.length_cons] at hl
  refine h d _ List.mem_cons_self ⟨by omega, ?_⟩
  refine gX f (by rw [List.length_append, List.length_singleton]; omega) (fun e Qt he => h e Qt (List.mem_cons_of_mem _ he)) ?_
  rw [List.append_assoc]
  exact k
theorem fO {g : DTG} {tb : DTS} {N : Dn} (I : Nat → En → Me → Prop) : ∀ {its : List D} {en : En} {m : Me} (i : Nat), I i en m →
  (∀ j d en m (N' : Dn), its[j]? = some d → I (i + j) en m → N'.rt = N.rt → N'.xc = N.xc → N'.bk = N.nx → (∀ en' m', I (i + j + 1) en' m' → N'.nx en' m' ∧ N'.ct en' m') → g (.v d) en m fun en1 m1 => tb en1 m1 N') →
  (∀ en m, I (i + its.length) en m → N.nx en m) → cL g tb its en m N
 | [], en, m, i, h, _, k => k _ _ h
 | d :: ds, en, m, i, h, t, k => by
  have nxt : ∀ en' m', I (i + 1) en' m' → cL g tb ds en' m' N := fun en' m' h' => by
   refine fO I (i + 1) h' (fun j e en m N' he hi r1 r2 r3 hn => t (j + 1) e en m N' (by simpa using he) (by rw [show i + (j + 1) = i + 1 + j by omega]; exact hi) r1 r2 r3 fun en' m' z => hn en' m' (by rw [show i + 1 + j + 1 = i + (j + 1) + 1 by omega]; exact z)) fun en m z => k en m ?_
   rw [List.length_cons, show i + (ds.length + 1) = i + 1 + ds.length by omega]
   exact z
  exact t 0 d en m _ rfl h rfl rfl rfl fun en' m' z => ⟨nxt en' m' z, nxt en' m' z⟩
theorem kn {g : DTG} {tb : DTS} {N : Dn} (I : Nat → En → Me → Prop) {its : List D} {en : En} {m : Me} (h : I 0 en m)
  (t : ∀ j d en m (N' : Dn), its[j]? = some d → I j en m → N'.rt = N.rt → N'.xc = N.xc → N'.bk = N.nx → (∀ en' m', I (j + 1) en' m' → N'.nx en' m' ∧ N'.ct en' m') → g (.v d) en m fun en1 m1 => tb en1 m1 N')
  (k : ∀ en m, I its.length en m → N.nx en m) : cL g tb its en m N :=
 fO I 0 h (fun j d en m N' hd hi r1 r2 r3 hn => t j d en m N' hd (by rw [Nat.zero_add] at hi; exact hi) r1 r2 r3 fun en' m' z => hn en' m' (by rw [Nat.zero_add]; exact z)) fun en m z => k en m (by rw [Nat.zero_add] at z; exact z)
theorem jK {c : DTT} {tb : DTS} {N : Dn} (I : Nat → En → Me → Prop) : ∀ (n : Nat) {en : En} {m : Me}, I n en m →
  (∀ n en m (N' : Dn), I n en m → N'.rt = N.rt → N'.xc = N.xc → N'.bk = N.nx → (∀ k en' m', k < n → I k en' m' → N'.nx en' m' ∧ N'.ct en' m') → c en m (fun b m1 => if b = true then tb en m1 N' else N.nx en m1) N.xc) → sWh c tb en m N := by
 intro n en m h t
 refine ⟨n + 1, ?_⟩
 -- more turns do no harm: by strong induction on the measure, for any number of turns above it
 have key : ∀ (n : Nat) (f : Nat) (en : En) (m : Me), n < f → I n en m → whN c tb f en m N := by
  intro n
  induction n using Nat.strongRecOn with
  | _ n ih =>
   intro f en m hf h
   cases f with
   | zero => omega
   | succ f =>
    refine t n en m { N with nx := fun en2 m2 => whN c tb f en2 m2 N, ct := fun en2 m2 => whN c tb f en2 m2 N, bk := N.nx } h rfl rfl rfl fun k en' m' hk hi => ?_
    have z := ih k hk f en' m' (by omega) hi
    exact ⟨z, z⟩
 exact key n (n + 1) en m (Nat.lt_succ_self n) h
theorem aY (lo : Int) (n : Nat) : (ef lo n).length = n := by unfold ef; rw [List.length_map, List.length_range]
theorem fg {lo : Int} {n j : Nat} {d : D} (h : (ef lo n)[j]? = some d) : d = .int (lo + (j : Nat)) ∧ j < n := by
 unfold ef at h
 rw [List.getElem?_map] at h
 cases q : (List.range n)[j]? with
 | none => rw [q] at h; cases h
 | some i =>
  rw [q] at h
  have l : j < n := by
   have := (List.getElem?_eq_some_iff.mp q).1
   simpa using this
  rw [List.getElem?_range l] at q
  cases q
  cases h
  exact ⟨rfl, l⟩
theorem cA {m : Me} {ds : List D} {Q : List D → Prop} (h : Q ds) : ck (m ++ [.lst ds]) m.length Q := by
 unfold ck
 rw [List.getElem?_append_right (Nat.le_refl _), Nat.sub_self]
 exact h
theorem fP {α : Type} {m : List α} {a b : α} : (m ++ [a]).set m.length b = m ++ [b] := by
 rw [List.set_append_right _ _ (Nat.le_refl _), Nat.sub_self]
 rfl
theorem iY {n : Nat} {d : D} : sbs n d (some (.loc n)) = some (.v d) := by
 show (if n = n then some (W.v d) else some (W.loc n)) = _
 rw [if_pos rfl]
theorem jL {en : En} {i n : Nat} {d : D} (h : En.get en i = some (.loc n)) : En.get (en.map (sbs n d)) i = some (.v d) := by
 have e := En.get_some h
 unfold En.get
 rw [List.getElem?_map, e]
 show sbs n d (some (.loc n)) = _
 exact iY
theorem iZ {i : Nat} {u : DTS} {en : En} {m : Me} {ds : List D} {N : Dn} (h : En.get en i = some (.loc m.length)) (k : u (en.map (sbs m.length (.lst ds))) (m ++ [.gone]) N) : sFz i u en (m ++ [.lst ds]) N := by
 unfold sFz
 rw [h]
 refine cA ?_
 rw [fP]
 exact k
theorem i2 {i : Nat} {en : En} {m : Me} {ds : List D} {N : Dn} (h : En.get en i = some (.loc m.length)) (k : N.rt (.v (.lst ds)) (m ++ [.gone])) : sFz i (kE (tV i)) en (m ++ [.lst ds]) N := by
 refine iZ h ?_
 unfold kE tV
 rw [jL h]
 exact k
section
variable {X : Cx} {E : XK}
theorem i3 : DK X E [] tN := ⟨_, pk_nil, fun B μ en m σ H Q Qx QV R hx T k => k B μ m H [] [] .refl R .nil T⟩
theorem cQ {e : Expr} {nm : Option Str} {kpos : Pos} {kws : List Keyword} {te : DTE} {ta : DTA} (he : DE X E e te) (ha : DK X E kws ta) : DK X E (⟨nm, e, kpos⟩ :: kws) (tCn te ta) := by
 obtain ⟨t1, p1, k1⟩ := he.ex
 obtain ⟨t2, p2, k2⟩ := ha.ex
 refine ⟨_, pk_cons p1 p2, fun B μ en m σ H Q Qx QV R hx T k => ?_⟩
 refine k1 B μ en m σ H _ Qx _ R hx T fun B1 μ1 m1 H1 x v s1 R1 r1 T1 => ?_
 refine k2 B1 μ1 en m1 σ H1 _ Qx _ R1 (hx.step s1 R1.mem R.mem.le) T1 fun B2 μ2 m2 H2 xs vs s2 R2 r2 T2 => ?_
 exact k B2 μ2 m2 H2 _ _ (s1.trans R1.mem s2 R.mem.le) R2 (.cons (r1.to s2.same s2.pre) r2) T2
end
def KwTo {α : Type} (D : Addr) : List (Str × Value) → Sem α → Sem α → Prop
 | [], t, r => t = r
 | q :: l, t, r => ∃ (β γ : Type) (k1 : Option Value → Sem β) (k2 : β → Sem γ) (k3 : γ → Sem α) (a : β), t = ((nsGet D q.1 >>= k1) >>= k2) >>= k3 ∧ k1 (some q.2) = pure a ∧ KwTo D l (k2 a >>= k3) r
theorem KwTo.one {α β γ : Type} {D : Addr} {q : Str × Value} {l : List (Str × Value)} {t r : Sem α} {k1 : Option Value → Sem β} {k2 : β → Sem γ} {k3 : γ → Sem α} {a : β} (h1 : t = ((nsGet D q.1 >>= k1) >>= k2) >>= k3) (h2 : k1 (some q.2) = pure a) (h3 : KwTo D l (k2 a >>= k3) r) : KwTo D (q :: l) t r := ⟨β, γ, k1, k2, k3, a, h1, h2, h3⟩
theorem KwTo.run {α : Type} {K : Frag} {M : Model} {A : Around} {E : Value → Shared → Prop} {s : Shared} {Q : α → Shared → Prop} {D : Addr} (X : K.In s.heap) : ∀ {l : List (Str × Value)} {t r : Sem α}, (∀ q ∈ l, PySem.W.nsIn K D q.1 = some (some q.2)) → KwTo D l t r → wpAny M A r Q E s → wpAny M A t Q E s
 | [], t, r, _, e, h => by
  rw [show t = r from e]
  exact h
 | q :: l, t, r, hl, e, h => by
  obtain ⟨β, γ, k1, k2, k3, a, rfl, e2, e3⟩ := e
  rw [bind_assoc]
  have l1 : PySem.W.Looks M s.heap (nsGet D q.1 >>= k1) a := (PySem.W.looks_nsIn X (hl q List.mem_cons_self)).andThen (PySem.W.Looks.of_pure e2)
  exact wpAny_bind (l1.here (KwTo.run X (fun p hp => hl p (List.mem_cons_of_mem _ hp)) e3 h))
def mZ (P : Program) (w : World) (K : Frag) (mg : Str → Option Value) (base : Heap) (k : Nat) (f : Addr) (ks : List Str) (sp : List V → List V → Hp → VK → Prop) : Prop :=
 ∀ (A : Around) (outer : List Env) (s : Shared) (H : Hp) (us ws : List Value) (vs zs : List V) (Q : VK), Room k A → Env0 P w K mg base A outer s H → Vals vs us → Vals zs ws → zs.length = ks.length → sp vs zs H Q →
  codeAny (model P w) A (.call (.ref f) ⟨us, ks.zip ws⟩) (CR CX0 outer P w H s Q E0) s
section
variable {P : Program} {w : World} {K : Frag} {mg : Str → Option Value} {base : Heap} {x qual : Str} {params : Arguments} {body : List Stmt} {scope : Scope} {kws : List (Str × V)} {f : Addr} {fd : FuncData} {N ps : List Str} {k : Nat}
end
section
variable {X : Cx} {k : Nat} {f : Addr} {x : Str} {ks : List Str} {sp : List V → List V → Hp → VK → Prop} {p pos : Pos}
variable {e : Expr} {es : List Expr} {kws : List Keyword} {t tk : TA}
structure GsK (P : Program) (w : World) (K : Frag) (mg : Str → Option Value) (base : Heap) (k : Nat) (x : Str) (ks : List Str) (sp : List V → List V → Hp → VK → Prop) : Prop where
 ex : ∃ f, mg x = some (.ref f) ∧ PySem.W.keepIn K (.ref f) = true ∧ mZ P w K mg base k f ks sp
end
mutual
def kR (K : Frag) : Nat → Value → D → Bool
 | _, .none, .non => true
 | _, .bool b, .bl c => b == c
 | _, .int i _, .int j => decide (i = j)
 | _, .str x _, .str y => decide (x = y) && okS y
 | n + 1, .ref a, .tup ds => (match K.lookup a with
  | some ⟨.type c, _, .seq its _, _⟩ => decide (c = "tuple") && (decide (its.size ≤ sizeLine) && conUs K n its.toList ds)
  | _ => false)
 | _, _, _ => false
def conUs (K : Frag) : Nat → List Value → List D → Bool
 | _, [], [] => true
 | n, u :: us, d :: ds => kR K n u d && conUs K n us ds
 | _, _, _ => false
end
mutual
theorem jM {K : Frag} : ∀ {n : Nat} {d : D} {u : Value}, kR K n u d = true → ∃ v, RelV v u ∧ ∀ B, Rv K B v d
  | n, .non, u, h => by
    cases u <;> first | exact ⟨.non, rfl, fun _ => .non⟩ | (exfalso; cases n <;> cases h)
  | n, .bl c, u, h => by
    cases u <;> first
      | (have h : (_ == c) = true := h
         exact ⟨.bl c, by rw [eq_of_beq h]; rfl, fun _ => .bl c⟩)
      | (exfalso; cases n <;> cases h)
  | n, .int j, u, h => by
    cases u <;> first
      | (have h := of_decide_eq_true (show decide (_ = j) = true from h)
         exact ⟨.int j, by rw [h]; exact ⟨_, rfl⟩, fun _ => .int j⟩)
      | (exfalso; cases n <;> cases h)
  | n, .str y, u, h => by
    cases u <;> first
      | (have h := Bool.and_eq_true_iff.mp (show (decide (_ = y) && okS y) = true from h)
         exact ⟨.str y, by rw [of_decide_eq_true h.1]; exact ⟨_, rfl⟩, fun _ => .str h.2⟩)
      | (exfalso; cases n <;> cases h)
  | n + 1, .tup ds, u, h => by
    cases u with
    | ref a =>
      have h : (match K.lookup a with
        | some ⟨.type c, _, .seq its _, _⟩ => decide (c = "tuple") && (decide (its.size ≤ sizeLine) && conUs K n its.toList ds)
        | _ => false) = true := h
      cases q : K.lookup a with
      | none =>
        rw [q] at h
        cases h
      | some o =>
        obtain ⟨oc, od, dt, osl⟩ := o
        rw [q] at h
        cases oc with
        | type c =>
          cases dt with
          | seq its k =>
            have h := Bool.and_eq_true_iff.mp (show (decide (c = "tuple") && (decide (its.size ≤ sizeLine) && conUs K n its.toList ds)) = true from h)
            have h2 := Bool.and_eq_true_iff.mp h.2
            obtain ⟨vs, r, hv⟩ := conUs_ok h2.2
            exact ⟨.ref a, rfl, fun B => .tup (.inr ⟨_, its, k, q, congrArg Value.type (of_decide_eq_true h.1), rfl, of_decide_eq_true h2.1, r⟩) (hv B)⟩
          | _ => cases h
        | _ => cases dt <;> cases h
    | _ => cases h
  | 0, .tup ds, u, h => by cases u <;> cases h
  | n, .ty _, u, h => by cases u <;> cases n <;> cases h
  | n, .fn _, u, h => by cases u <;> cases n <;> cases h
  | n, .lst _, u, h => by cases u <;> cases n <;> cases h
  | n, .dic _, u, h => by cases u <;> cases n <;> cases h
  | n, .obj _ _, u, h => by cases u <;> cases n <;> cases h
  | n, .exc _ _, u, h => by cases u <;> cases n <;> cases h
  | n, .lam _ _ _, u, h => by cases u <;> cases n <;> cases h
theorem conUs_ok {K : Frag} : ∀ {n : Nat} {ds : List D} {us : List Value}, conUs K n us ds = true → ∃ vs, Vals vs us ∧ ∀ B, RvL K B vs ds
 | _, [], [], _ => ⟨[], .nil, fun _ => .nil⟩
 | _, [], _ :: _, h => by cases h
 | _, _ :: _, [], h => by cases h
 | n, d :: ds, u :: us, h => by
  have h := Bool.and_eq_true_iff.mp (show (kR K n u d && conUs K n us ds) = true from h)
  obtain ⟨v, r, hv⟩ := jM h.1
  obtain ⟨vs, rs, hvs⟩ := conUs_ok h.2
  exact ⟨v :: vs, .cons r rs, fun B => .cons (hv B) (hvs B)⟩
end
section
variable {X : Cx} {E : XK}
end
theorem RWs.append {K : Frag} {B : Hp} {μ : List Addr} {vs us : List V} {xs ys : List W} (a : RWs K B μ vs xs) (b : RWs K B μ us ys) : RWs K B μ (vs ++ us) (xs ++ ys) := by
 induction a with
 | nil => exact b
 | cons h _ ih => exact .cons h ih
section
variable {P : Program} {w : World} {K : Frag} {mg : Str → Option Value} {base : Heap} {x : Str} {st : Stmt} {kwd : List (Str × V)} {f : Addr} {fd : FuncData} {N ps : List Str} {k : Nat} {sp : SpD}
end
section
variable {X : Cx} {E : XK} {k : Nat} {x : Str} {ks : List Str} {sp : SpD} {gW : List W → List W} {e : Expr} {es : List Expr} {kws : List Keyword} {ta tk : DTA} {p pos : Pos}
end
section
variable {X : Cx} {E : XK}
end
section
variable {X : Cx} {E : XK} {a b : Expr} {ta tb : DTE} {pos : Pos}
end
section
variable {X : Cx} {E : XK} {o e : Expr} {to : DTE} {ta : DTA} {apos cpos : Pos}
end
section
variable {X : Cx} {E : XK} {o e : Expr} {to : DTE} {ta : DTA} {apos cpos : Pos}
end
theorem cb (z : Str) (lo hi : Option Int) : (Txt.slice z lo hi).length ≤ z.length := by
 rw [← C8.cutS_slice]
 unfold cutS
 show (List.take _ (List.drop _ z.cps.toList)).toArray.size ≤ z.cps.size
 rw [List.size_toArray, List.length_take, List.length_drop, Array.length_toList]
 omega
abbrev ce : Stmt := top 8
abbrev hZ : List Str := ["_law_bag_here", "_law_things"]
abbrev cf : List Str := ["_law_bag_here", "_law_things"]
theorem gt : FnScope hZ cf (defScope ce) := ⟨rfl, rfl, rfl, by decide +kernel, rfl, by decide +kernel, by decide +kernel⟩
section
variable {P : Program} {w : World} {K : Frag} {mg : Str → Option Value} {base : Heap}
def i4 : SpD := fun ws m Q _ => ∃ n x ds, ws = [.loc n, .v x] ∧ m[n]? = some .bag ∧ (x = .lst ds ∨ x = .tup ds) ∧ ds ≠ [] ∧ ds.length < 2 ^ 64 ∧ ∀ d ∈ ds, Q (.v d) m
theorem gu (G : Gs K mg "_law_of" ce) (g__law_pull : Gd P w K mg base (L2.CX P w) 1 "_law_pull" aU (af K b8)) (m_len : mg "len" = none) : Gd P w K mg base (L2.CX P w) 2 "_law_of" cf (af K i4) := by
 refine Fo.gd (iI gt (fun ws m Q Qx h => ?_) (fun f cdv A outer s H E hr => ⟨_, (ad (az (du (dv 1) (aA g__law_pull (hr.mono (by omega)) (bj (takes_of rfl rfl rfl rfl)) (aa (dv 0) (aa (dn m_len (aa (dv 1) ab)) ab)))))), fun ws m Qd Qx h => ?_⟩) [] []) G (fun _ _ _ _ _ _ us hl => match us, hl with | [_, _], _ => rfl)
 ·obtain ⟨n, x, ds, rfl, _⟩ := h
  rfl
 ·obtain ⟨n, x, ds, rfl, hm, hx, h0, h1, q⟩ := h
  have hl : 0 < ds.length := List.length_pos_iff.mpr h0
  rcases hx with rfl | rfl
  ·refine ⟨n, ds.length, rfl, hm, by omega, by omega, fun r r0 r1 => ?_⟩
   have z := eB (xs := ds) r0 (by omega)
   exact ⟨_, z, List.prefix_refl _, q _ (b7 z)⟩
  ·refine ⟨n, ds.length, rfl, hm, by omega, by omega, fun r r0 r1 => ?_⟩
   have z := eB (xs := ds) r0 (by omega)
   exact ⟨_, z, List.prefix_refl _, q _ (b7 z)⟩
end
def abc : Str := "abcdefghijklmnopqrstuvwxyz"
theorem gY : abc.cps.toList.length = 26 := by decide +kernel
def fQ (i : Nat) : Str := ⟨#[abc.cps.toList.getD i 0]⟩
def fh : List Str := ["gap", "pad", "row", "pile", "grid", "clip", "hole", "room", "one", "and", "or"]
def fi (stem : Str) (first at_ k : Nat) : Str := (Txt.slice stem none (some (at_ : Int)) ++ fQ ((first + 5 * k) % 26)) ++ Txt.slice stem (some (at_ : Int)) none
def dT (stem : Str) (first at_ k : Nat) : Str := if fh.any (fun y => y == fi stem first at_ k) = true then ("z" ++ fQ k) ++ "q" else fi stem first at_ k
def dH (z : Str) : Prop := ∀ c ∈ z.cps.toList, c ∈ abc.cps.toList
theorem i5 {i : Nat} (h : i < 26) : atI abc.cps.toList (i : Int) = some (abc.cps.toList.getD i 0) := by
 have hk : i < abc.cps.toList.length := by rw [gY]; exact h
 have z := atI_nat (xs := abc.cps.toList) (j := i) (List.getElem?_eq_getElem hk)
 rw [z, List.getD_eq_getElem?_getD, List.getElem?_eq_getElem hk]
 rfl
theorem fR : ∀ zs : List Str, (Txt.join "" zs).cps.toList = zs.flatMap (·.cps.toList)
 | [] => rfl
 | x :: rest => by
  have e : Txt.join "" (x :: rest) = (⟨rest.foldl (fun acc p => acc ++ ("" : Str).cps ++ p.cps) x.cps⟩ : Str) := rfl
  rw [e]
  show (rest.foldl (fun acc p => acc ++ ("" : Str).cps ++ p.cps) x.cps).toList = _
  rw [df]
  simp
  rfl
theorem cR : ∀ (ys : List Str), (∀ y ∈ ys, y.length = 1) → (ys.map (·.length)).sum = ys.length
 | [], _ => rfl
 | y :: ys, h => by
  rw [List.map_cons, List.sum_cons, cR ys fun z hz => h z (List.mem_cons_of_mem _ hz), h y List.mem_cons_self, List.length_cons]
  omega
def cB (stem : Str) (first at_ m : Nat) : List Str := (List.range m).map (dT stem first at_)
def fS : SpD := fun ws m Q _ => ∃ n k, ws = [.loc n, .v (.int (k : Nat))] ∧ m[n]? = some .bag ∧ k ≤ 26 ∧ ∀ stem first at_, stem.length ≤ 3 → dH stem → first < 26 → at_ ≤ stem.length → Q (.v (.lst ((cB stem first at_ k).map .str))) m
abbrev aZ : Stmt := top 12
abbrev cS : List Str := ["_law_bag_here", "_law_many", "_law_letters", "_law_first", "_law_long", "_law_stem", "_law_at", "_law_found", "_law_k", "_law_name"]
abbrev bI : List Str := ["_law_bag_here", "_law_many"]
abbrev bQ : List (Str × Nat) := [("_law_k", 8)]
theorem ag : FnScope cS bI (defScope aZ) := ⟨rfl, rfl, rfl, by decide +kernel, rfl, by decide +kernel, by decide +kernel⟩
section
variable {P : Program} {w : World} {K : Frag} {mg : Str → Option Value} {base : Heap}
theorem eh (G : Gs K mg "_law_names" aZ) (g__law_pull : Gd P w K mg base (L2.CX P w) 1 "_law_pull" aU (af K b8)) (m_range : mg "range" = none) (m_int : mg "int" = none) : Gd P w K mg base (L2.CX P w) 2 "_law_names" bI (af K fS) := by
 refine Fo.gd (iI ag (fun ws m Q Qx h => ?_) (fun f cdv A outer s H E hr => ⟨_, (ac (bb (i := 2) ag.nd rfl (.inr rfl) am)
  (ac (de (i := 3) (j := 4) rfl ag.nd rfl rfl (by decide) rfl rfl (aa (aA g__law_pull (hr.mono (by omega)) (bj (takes_of rfl rfl rfl rfl)) (aa (dv 0) (aa aq ab))) (aa (aA g__law_pull (hr.mono (by omega)) (bj (takes_of rfl rfl rfl rfl)) (aa (dv 0) (aa aq ab))) ab)) (by rfl))
  (ac (bb (i := 5) ag.nd rfl (.inl rfl) (kO am (aa (iE (own := bQ) rfl ag.nd (bi m_range (aa (dv 4) ab)) (blkOk_by (own := bQ) (N := cS) (sc := defScope aZ) (by decide +kernel)) (fun _ _ _ _ _ => (aX (i := 8) ag.nd rfl (.inl rfl))) (fun _ _ _ _ _ => bg) (fun _ _ _ _ _ => (du (dv 2) (aA g__law_pull (hr.mono (by omega)) aB (aa (dv 0) (aa aq ab)))))) ab)))
  (ac (bb (i := 6) ag.nd rfl (.inl rfl) (aA g__law_pull (hr.mono (by omega)) (bj (takes_of rfl rfl rfl rfl)) (aa (dv 0) (aa (aT aQ (dv 4) aq) ab))))
  (ac (bb (i := 7) ag.nd rfl (.inl rfl) (kH ab))
  (ac (iB (passes_of rfl) rfl (bi m_range (aa (dv 1) ab)) (aX (i := 8) ag.nd rfl (.inl rfl))
   (ac (bb (i := 9) ag.nd rfl (.inl rfl) (aT aQ (aT aQ (gQ (dv 5) gO (gP (dv 6))) (du (dv 2) (aT j8 (jG m_int (aa (aT aQ (dv 3) (aT ki aq (dv 8))) ab)) aq))) (gQ (dv 5) (gP (dv 6)) gO)))
   (ad (dG (iJ (dv 7) (aa (mL (bA (jF (u65 hr)) (dv 9) (a7 (aa am (aa am (aa am (aa am (aa am (aa am (aa am (aa am (aa am (aa am (aa am ab)))))))))))) (by rfl)) (dv 9) (aT aQ (aT aQ am (du (dv 2) (dv 8))) am)) ab))))))
  (kJ 7 (ad (az (dv 7)))))))))), fun ws m Qd Qx h => ?_⟩) [] []) G (fun _ _ _ _ _ _ us hl => match us, hl with | [_, _], _ => rfl)
 ·obtain ⟨_, _, rfl, _⟩ := h
  rfl
 ·obtain ⟨n, k, rfl, hm, hk, q⟩ := h
  refine ⟨n, 26, rfl, hm, by decide, by decide, fun first f0 f1 => ?_⟩
  refine ⟨n, 4, rfl, hm, by decide, by decide, fun lg l0 l1 => ?_⟩
  refine ⟨trivial, ⟨by omega, by omega, ?_⟩⟩
  have el : ∀ r : Int, 0 ≤ r → r < 26 → ∃ c, atI abc.cps.toList r = some c ∧ c ∈ abc.cps.toList := fun r r0 r1 => by
   have z := eB (xs := abc.cps.toList) r0 (by rw [gY]; omega)
   exact ⟨_, z, b7 z⟩
  refine b9 (fun _ _ y => ∃ z, y = .str z ∧ z.length = 1 ∧ dH z) 0 (by rw [aY, sizeLine_eq]; show 0 + _ ≤ _; omega) (fun j d Qt hd hq => ?_) fun ys hys => ?_
  ·refine ⟨n, 26, rfl, hm, by decide, by decide, fun r r0 r1 => ?_⟩
   obtain ⟨c, hc, hm2⟩ := el r r0 r1
   refine ⟨by decide +kernel, c, hc, hq _ ⟨_, rfl, rfl, fun c' h' => ?_⟩⟩
   have e : c' = c := by simpa using h'
   rw [e]
   exact hm2
  obtain ⟨zs, rfl, hz⟩ : ∃ zs : List Str, ys = zs.map .str ∧ ∀ z ∈ zs, z.length = 1 ∧ dH z := by
   clear q
   generalize ef 0 lg.toNat = its at hys
   generalize 0 = i0 at hys
   induction hys with
   | nil => exact ⟨[], rfl, by simp⟩
   | cons r _ ih =>
    obtain ⟨z, rfl, h1⟩ := r
    obtain ⟨zs, rfl, h2⟩ := ih
    exact ⟨z :: zs, rfl, fun u hu => by
     rcases List.mem_cons.mp hu with rfl | hu
     ·exact h1
     ·exact h2 _ hu⟩
  have hzl : zs.length = lg.toNat := by
   have z := hys.len
   rw [aY, List.length_map] at z
   exact z.symm
  have tx : ∀ (zs : List Str) (Q : List Str → Prop), Q zs → gU (zs.map D.str) Q := by
   intro zs
   induction zs with
   | nil => exact fun Q h => h
   | cons z zs ih => exact fun Q h => ih (fun bs => Q (z :: bs)) h
  refine tx zs _ ⟨?_, ?_⟩
  ·rw [cR zs fun z h => (hz z h).1]
   show zs.length + zs.length * 0 ≤ _
   omega
  obtain ⟨W, eW, hj⟩ : ∃ W : Str, W = Txt.join "" zs ∧ W.length ≤ lg.toNat := ⟨_, rfl, by
   have z := StrLaws.join_length_le "" zs
   rw [← PySem.StrLaws.glued_eq_join, cR zs fun z h => (hz z h).1] at z
   have z2 : (Txt.join "" zs).length ≤ zs.length + zs.length * 0 := z
   omega⟩
  have hWL : dH W := fun c hc => by
   rw [eW, fR] at hc
   obtain ⟨z, hz1, hc⟩ := List.mem_flatMap.mp hc
   exact (hz z hz1).2 c hc
  have hjl : W.length = lg.toNat := by
   have z : (Txt.join "" zs).cps.toList.length = zs.length := by
    rw [fR, List.length_flatMap]
    exact cR zs fun z h => (hz z h).1
   rw [Array.length_toList] at z
   rw [eW, ← hzl]
   exact z
  rw [← eW]
  refine ⟨n, lg + 1, rfl, hm, by omega, by omega, fun at0 a0 a1 => ?_⟩
  obtain ⟨fn, rfl⟩ : ∃ n : Nat, first = n := ⟨first.toNat, by omega⟩
  obtain ⟨an, rfl⟩ : ∃ n : Nat, at0 = n := ⟨at0.toNat, by omega⟩
  have W3 : W.length ≤ 3 := by omega
  refine ⟨by decide, by omega, by omega, ?_⟩
  refine kn (fun i en m' => ∃ v8 v9, en = [some (.loc n), some (.v (.int k)), some (.v (.str abc)), some (.v (.int fn)), some (.v (.int lg)), some (.v (.str W)), some (.v (.int an)), some (.loc m.length), v8, v9] ∧ m' = m ++ [.lst ((cB W fn an i).map .str)]) ⟨none, none, rfl, rfl⟩ ?_ ?_
  ·rintro j d en m' N' hd ⟨v8, v9, rfl, rfl⟩ r1 r2 r3 hn
   obtain ⟨rfl, hj2⟩ := fg hd
   have hi26 : j < 26 := by omega
   have l1' := cb W none (some (an : Int))
   have l2 := cb W (some (an : Int)) none
   have la1 : ∀ j, (fQ j).length = 1 := fun _ => rfl
   have e1 : ((fn : Int) + 5 * (0 + (j : Int))) % 26 = (((fn + 5 * j) % 26 : Nat) : Int) := by omega
   have ln := sizeLine_eq
   refine ⟨by omega, ?_⟩
   refine ⟨wide_mul (a := 10) (b := 10) (by decide) (by omega) (by omega) (by omega) (by omega), by decide, by decide +kernel, _, (by rw [e1]; exact i5 (Nat.mod_lt _ (by decide))), ?_⟩
   refine ⟨by show _ + 1 ≤ sizeLine; omega, by omega, ?_⟩
   refine ⟨by rw [Str.length_append]; show _ + 1 + _ ≤ sizeLine; omega, ?_⟩
   refine ⟨cA trivial, ?_⟩
   have raw : (Txt.slice W none (some (an : Int)) ++ (⟨#[abc.cps.toList.getD ((fn + 5 * j) % 26) 0]⟩ : Str)) ++ Txt.slice W (some (an : Int)) none = fi W fn an j := rfl
   have done : ∀ z, z = dT W fn an j → ck (m ++ [.lst ((cB W fn an j).map .str)]) m.length fun ds => ds.length < sizeLine ∧ N'.nx [some (.loc n), some (.v (.int k)), some (.v (.str abc)), some (.v (.int fn)), some (.v (.int lg)), some (.v (.str W)), some (.v (.int an)), some (.loc m.length), some (.v (.int (0 + (j : Nat)))), some (.v (.str (fi W fn an j)))] ((m ++ [MO.lst ((cB W fn an j).map D.str)]).set m.length (MO.lst (ds ++ [D.str z]))) := by
    intro z hz
    subst hz
    refine cA ⟨?_, ?_⟩
    ·rw [List.length_map]
     unfold cB
     rw [List.length_map, List.length_range]
     omega
    ·rw [fP]
     refine (hn _ _ ⟨_, _, rfl, ?_⟩).1
     unfold cB
     rw [List.range_succ, List.map_append, List.map_append]
     rfl
   have ew : ([D.str "gap", .str "pad", .str "row", .str "pile", .str "grid", .str "clip", .str "hole", .str "room", .str "one", .str "and", .str "or"].any fun y => deq y (.str (fi W fn an j))) = fh.any (fun y => y == fi W fn an j) := rfl
   refine ⟨by show 11 ≤ sizeLine; omega, rfl, rfl, Nat.zero_le _, by decide, ?_⟩
   refine ls (fun c => ?_) (fun c => ?_)
   ·refine done _ ?_
    have c : (!fh.any (fun y => y == fi W fn an j)) = true := c
    unfold dT
    rw [if_neg (by rw [Bool.not_eq_true'] at c; rw [c]; decide)]
    rfl
   ·have c : (!fh.any (fun y => y == fi W fn an j)) = false := c
    refine ⟨by decide +kernel, _, (by rw [Int.zero_add]; exact i5 hi26), by show _ + 1 ≤ sizeLine; have : ("z" : Str).length = 1 := rfl; omega, by rw [Str.length_append]; show 1 + 1 + 1 ≤ sizeLine; omega, done _ ?_⟩
    unfold dT
    rw [if_pos (by simpa using c)]
    rfl
  ·rintro en m' ⟨v8, v9, rfl, rfl⟩
   rw [aY]
   have ek : ((k : Nat) : Int).toNat = k := by omega
   rw [ek]
   dsimp only
   refine i2 rfl ?_
   exact ⟨List.prefix_append _ _, q W fn an W3 hWL (by omega) (by omega)⟩
end
def fzV (Q : VK) : VK := fun v H => ∃ a kvs, v = .ref a ∧ H a = some (.dK kvs) ∧ ∀ od, Q v (upd H a (.frz od (.dK kvs)))
theorem kS {X : Cx} {pins : List (Addr × Obj)} {σ : L2.St} {Q : VK} {u : Value} {s : Shared} (h : EP X pins σ (fzV Q) u s) : EP X pins σ Q u s := by
 obtain ⟨v, H', I, r, a, kvs, rfl, e, q⟩ := h
 obtain ⟨od, J⟩ := I.lock e trivial
 exact ⟨_, _, J, r, q od⟩
theorem kT {X : Cx} {f : Value} {r : List V → Hp → VK → Prop} (h : CallR X f r) : CallR X f (fun xs H Q => r xs H (fzV Q)) :=
 fun pins s σ H xs us Q I rx q => wpAny_mono (h pins s σ H xs us _ I rx q) (fun _ _ z => kS z) fun _ _ z => z
def dg (kvs : List (Key × D)) (k : Key) : Option D := (kvs.find? fun kv => decide (kv.1 = k)).map (·.2)
def eG (kvs : List (Key × D)) (k : Key) (v : D) : List (Key × D) :=
 if (kvs.any fun kv => decide (kv.1 = k)) = true then kvs.map (fun kv => if kv.1 = k then (kv.1, v) else kv) else kvs ++ [(k, v)]
theorem RvK.keys {K : Frag} {B : Hp} : ∀ {vs : List (Key × V)} {ds : List (Key × D)}, RvK K B vs ds → vs.map (·.1) = ds.map (·.1)
 | _, _, .nil => rfl
 | _, _, .cons _ _ t => by rw [List.map_cons, List.map_cons, t.keys]
theorem RvK.any {K : Frag} {B : Hp} (k : Key) : ∀ {vs : List (Key × V)} {ds : List (Key × D)}, RvK K B vs ds → (vs.any fun kv => decide (kv.1 = k)) = (ds.any fun kv => decide (kv.1 = k))
 | _, _, .nil => rfl
 | _, _, .cons _ _ t => by rw [List.any_cons, List.any_cons, t.any k]
theorem RvK.val {K : Frag} {B : Hp} (k : Key) : ∀ {vs : List (Key × V)} {ds : List (Key × D)}, RvK K B vs ds → (valV vs k = none ∧ dg ds k = none) ∨ ∃ v d, valV vs k = some v ∧ dg ds k = some d ∧ Rv K B v d
 | _, _, .nil => .inl ⟨rfl, rfl⟩
 | _, _, .cons (k := k0) (v := v) (vs := vs) (d := d) (ds := ds) _ r t => by
  by_cases c : k0 = k
  ·refine .inr ⟨v, d, by rw [valV_pos c], ?_, r⟩
   simp [dg, List.find?_cons, c]
  ·rw [valV_neg (p := (k0, v)) c]
   have z : dg ((k0, d) :: ds) k = dg ds k := by simp [dg, List.find?_cons, c]
   rw [z]
   exact t.val k
theorem RvK.app {K : Frag} {B : Hp} : ∀ {vs us : List (Key × V)} {ds es : List (Key × D)}, RvK K B vs ds → RvK K B us es → RvK K B (vs ++ us) (ds ++ es)
 | _, _, _, _, .nil, r => r
 | _, _, _, _, .cons k h t, r => .cons k h (t.app r)
theorem RvK.mapput {K : Frag} {B : Hp} {k : Key} {v : V} {d : D} (h : Rv K B v d) : ∀ {vs : List (Key × V)} {ds : List (Key × D)}, RvK K B vs ds → RvK K B (vs.map fun kv => if kv.1 = k then (kv.1, v) else kv) (ds.map fun kv => if kv.1 = k then (kv.1, d) else kv)
 | _, _, .nil => .nil
 | _, _, .cons (k := k0) ko h0 t => by
  rw [List.map_cons, List.map_cons]
  by_cases c : k0 = k
  ·rw [if_pos c, if_pos c]
   exact .cons ko h (t.mapput h)
  ·rw [if_neg c, if_neg c]
   exact .cons ko h0 (t.mapput h)
theorem RvK.put {K : Frag} {B : Hp} {k : Key} {v : V} {d : D} {vs : List (Key × V)} {ds : List (Key × D)} (r : RvK K B vs ds) (ko : fG k) (h : Rv K B v d) : RvK K B (putK vs k v) (eG ds k d) := by
 unfold putK eG
 rw [r.any k]
 split
 ·exact r.mapput h
 ·exact r.app (.cons ko h .nil)
section
variable {X : Cx} {E : XK}
def i6 : D → (Key → Prop) → Prop
 | .str x, Q => Q (.inr x)
 | .int i, Q => Q (.inl i)
 | _, _ => False
theorem fj {K : Frag} {B H : Hp} {v : V} {d : D} {Q : Key → Prop} (t : Top K B H v d) (q : i6 d Q) : ∃ k, v = kV k ∧ fG k ∧ Q k := by
 cases d with
 | str x => cases (show Rv K B v (.str x) from t) with | str h => exact ⟨.inr x, rfl, h, q⟩
 | int i => cases (show Rv K B v (.int i) from t); exact ⟨.inl i, rfl, trivial, q⟩
 | _ => exact q.elim
def jN : D → (List (Key × D) → Prop) → Prop
 | .dic kvs, Q => Q kvs
 | _, _ => False
theorem fk {K : Frag} {B H : Hp} {v : V} {d : D} {Q : List (Key × D) → Prop} (t : Top K B H v d) (q : jN d Q) : ∃ a vs kvs, v = .ref a ∧ Rd H a (.dK vs) ∧ RvK K B vs kvs ∧ Q kvs := by
 cases d with
 | dic kvs => obtain ⟨a, vs, rfl, h, r⟩ := t; exact ⟨a, vs, kvs, rfl, h, r, q⟩
 | _ => exact q.elim
def tDk (td ty : DTE) : DTE := fun en m Q Qx => td en m (fun x m1 => ty en m1 (fun y m2 => look x m2 fun dx => look y m2 fun dy => jN dx fun kvs => i6 dy fun k => ∃ d, dg kvs k = some d ∧ Q (.v d) m2) Qx) Qx
theorem l6 {o i : Expr} {td ty : DTE} {pos : Pos} (hu : X.A.units + 65 < cLine) (ho : DE X E o td) (hi : DE X E i ty) (hs : NoSl i := by exact fun _ _ => rfl) : DE X E (.Subscript o i pos) (tDk td ty) := by
 obtain ⟨t1, p1, k1⟩ := ho.ex
 obtain ⟨t2, p2, k2⟩ := hi.ex
 refine ⟨_, pe_dget (by omega) p1 p2 hs, fun B μ en m σ H Q Qx QV R hx T k => ?_⟩
 refine k1 B μ en m σ H _ Qx _ R hx T fun B1 μ1 m1 H1 x v s1 R1 r1 T1 => ?_
 refine k2 B1 μ1 en m1 σ H1 _ Qx _ R1 (hx.step s1 R1.mem R.mem.le) T1 fun B2 μ2 m2 H2 y u s2 R2 r2 T2 => ?_
 have s12 := s1.trans R1.mem s2 R.mem.le
 obtain ⟨dx, tx, T3⟩ := aN R2.mem (r1.to s2.same s2.pre) T2
 obtain ⟨dy, ty', T4⟩ := aN R2.mem r2 T3
 obtain ⟨a, vs, kvs, rfl, hd, rk, T5⟩ := fk tx T4
 obtain ⟨kk, rfl, ko, d, hv, q⟩ := fj ty' T5
 rcases rk.val kk with ⟨_, z⟩ | ⟨v, d', z1, z2, rv⟩
 ·rw [z] at hv
  cases hv
 ·rw [z2] at hv
  cases hv
  exact ⟨a, v, rfl, .inl ⟨vs, kk, hd, rfl, z1.symm⟩, k B2 μ2 m2 H2 (.v d) v s12 R2 (RW.d rv) q⟩
def l7 : D → (D → Prop) → Prop := fun d Q => jN d fun kvs => Q (.dic kvs)
theorem kU : SC X (fun xs H Q => ∃ (a : Addr) (kvs : List (Key × V)), xs = [.ref a] ∧ Rd H a (.dK kvs) ∧ ∀ p, H p = none → fzV Q (.ref p) (upd H p (.dK kvs))) (c1 l7) := SC.of1 fun B μ m H v d Q QV M td q k => by
 obtain ⟨a, vs, kvs, rfl, hd, rk, q⟩ := fk td q
 refine ⟨a, vs, rfl, hd, fun p np => ⟨p, vs, rfl, upd_same, fun od => ?_⟩⟩
 rw [upd_upd]
 exact SO.new M k (o := .frz od (.dK vs)) np (.dic upd_same (rk.to (dc M np))) q
theorem gv {e : Expr} {ta : DTA} {p pos : Pos} (hm : X.mg "dict" = none) (ha : DA X E [e] ta) (hg : Gl X "dict" := by rfl) (he : starEach [e] X.env = (false, eval e X.env) :: starEach [] X.env := by rfl) (hpl : (backTo pos (starEach [] X.env)).any (·.1) = false := by rfl) : DE X E (.Call (.Name "dict" p) [e] [] pos) (tCa (c1 l7) ta) :=
 eD (kT call_dictD) kU hm (by decide +kernel) ha hg (by decide) (by decide) he hpl
def kW : List D → (List Str → Prop) → Prop
 | [], Q => Q []
 | .str x :: r, Q => kW r fun xs => Q (x :: xs)
 | _ :: _, _ => False
def gZ : List (Key × D) → (List Str → Prop) → Prop
 | [], Q => Q []
 | (.inr x, _) :: r, Q => gZ r fun xs => Q (x :: xs)
 | (.inl _, _) :: _, _ => False
def l8 : D → (D → Prop) → Prop
 | .lst ds, Q => kW ds fun xs => xs.length < 64 ∧ ∀ ys : List Str, ys.Perm xs → sortedS ys = true → Q (.lst (ys.map .str))
 | .dic kvs, Q => gZ kvs fun xs => xs.length < 64 ∧ ∀ ys : List Str, ys.Perm xs → sortedS ys = true → Q (.lst (ys.map .str))
 | _, _ => False
end
section
variable {X : Cx} {E : XK}
def eH (m : Me) (n : Nat) (Q : List (Key × D) → Prop) : Prop := match m[n]? with
 | some (.dic kvs) => Q kvs
 | _ => False
theorem fT {m : Me} {n : Nat} {Q : List (Key × D) → Prop} (h : eH m n Q) : ∃ kvs, m[n]? = some (.dic kvs) ∧ Q kvs := by
 unfold eH at h
 split at h
 ·rename_i kvs e
  exact ⟨kvs, e, h⟩
 ·exact h.elim
def l9 (td ty tv : DTE) : DTS := fun en m N => tv en m (fun z m1 => td en m1 (fun x m2 => ty en m2 (fun y m3 => match x with
 | .loc n => eH m3 n fun kvs => oD z fun dz => look y m3 fun dy => i6 dy fun k => kvs.length < sizeLine ∧ N.nx en (m3.set n (.dic (eG kvs k dz)))
 | _ => False) N.xc) N.xc) N.xc
theorem kX {o i value : Expr} {td ty tv : DTE} {pos pos' : Pos} (hu : X.A.units + 65 < cLine) (ho : DE X E o td) (hi : DE X E i ty) (hv : DE X E value tv) (hs : swapsWith value (some (.Subscript o i pos')) pos.line X.env = pure false := by rfl) :
  DS X E (.Assign [.Subscript o i pos'] value pos) (l9 td ty tv) := by
 obtain ⟨t1, p1, k1⟩ := ho.ex
 obtain ⟨t2, p2, k2⟩ := hi.ex
 obtain ⟨t3, p3, k3⟩ := hv.ex
 refine ⟨_, ps_dput (by omega) p1 p2 p3 hs, fun B μ en m σ H N D R hx T e => ?_⟩
 refine k3 B μ en m σ H _ _ _ R hx T fun B1 μ1 m1 H1 z w s1 R1 r1 T1 => ?_
 refine k1 B1 μ1 en m1 σ H1 _ _ _ R1 (hx.step s1 R1.mem R.mem.le) T1 fun B2 μ2 m2 H2 x v s2 R2 r2 T2 => ?_
 have s12 := s1.trans R1.mem s2 R.mem.le
 refine k2 B2 μ2 en m2 σ H2 _ _ _ R2 (hx.step s12 R2.mem R.mem.le) T2 fun B3 μ3 m3 H3 y u s3 R3 r3 T3 => ?_
 have s13 := s12.trans R2.mem s3 R.mem.le
 cases x with
 | v d => exact T3.elim
 | loc n =>
  obtain ⟨kvs, hm, T3⟩ := fT T3
  cases z with
  | loc _ => exact T3.elim
  | v dz =>
   obtain ⟨dy, ty', T4⟩ := aN R3.mem r3 T3
   obtain ⟨kk, rfl, ko, hl, q⟩ := fj ty' T4
   obtain ⟨a, rfl, ha2⟩ := r2
   have ha := bG s3.pre ha2
   obtain ⟨vs, hv, rk⟩ := R3.mem.at_ n a _ ha hm rfl
   have rz : Rv X.K B3 w dz := Rv.to (s2.trans R2.mem s3 R1.mem.le).same r1
   have kp : ∀ b o, b ≠ a → H3 b = some o → upd H3 a (.dK (putK vs kk w)) b = some o := fun b o c e => by rw [upd_ne c]; exact e
   have sS := Stp.store (H' := upd H3 a (.dK (putK vs kk w))) (m' := .dic (eG kvs kk dz)) (B := B3) ha hm rfl kp
   have mS := R3.mem.store (m' := .dic (eG kvs kk dz)) ha hm rfl rfl kp ⟨_, upd_same, rk.put ko rz⟩
   have st := s13.trans R3.mem sS R.mem.le
   have rl : vs.length = kvs.length := rk.len
   exact ⟨a, _, rfl, .inl ⟨vs, kk, hv, rfl, by omega, rfl⟩, e.nx _ _ _ _ _ _ st (R.stp st mS) q⟩
end
section
variable {X : Cx} {E : XK}
end
theorem fU {K : Frag} {B : Hp} : ∀ {vs : List (Key × V)} {kvs : List (Key × D)} {Q : List Str → Prop}, RvK K B vs kvs → gZ kvs Q → ∃ xs : List Str, vs.map (·.1) = xs.map Sum.inr ∧ (∀ x ∈ xs, okS x = true) ∧ Q xs
 | _, _, Q, .nil, q => ⟨[], rfl, (fun _ h => nomatch h), q⟩
 | _, _, Q, .cons (k := .inr x) (vs := vs) (ds := ds) ko _ t, q => by
  obtain ⟨xs, h1, h2, h3⟩ := fU (Q := fun xs => Q (x :: xs)) t q
  refine ⟨x :: xs, by rw [List.map_cons, List.map_cons, h1], fun y hy => ?_, h3⟩
  rcases List.mem_cons.mp hy with rfl | hy
  ·exact ko
  ·exact h2 y hy
 | _, _, Q, .cons (k := .inl i) _ _ _, q => q.elim
theorem g0 {K : Frag} {B : Hp} : ∀ {vs : List V} {ds : List D} {Q : List Str → Prop}, RvL K B vs ds → kW ds Q → ∃ xs : List Str, vs = xs.map V.str ∧ (∀ x ∈ xs, okS x = true) ∧ Q xs
 | _, _, Q, .nil, q => ⟨[], rfl, (fun _ h => nomatch h), q⟩
 | _, _, Q, .cons (d := d) r t, q => by
  cases d with
  | str x =>
   cases r with
   | str hx =>
    obtain ⟨xs, h1, h2, h3⟩ := g0 (Q := fun xs => Q (x :: xs)) t q
    refine ⟨x :: xs, by rw [List.map_cons, h1], fun y hy => ?_, h3⟩
    rcases List.mem_cons.mp hy with rfl | hy
    ·exact hx
    ·exact h2 y hy
  | _ => exact q.elim
theorem dU {K : Frag} {B : Hp} : ∀ {ys : List Str}, (∀ y ∈ ys, okS y = true) → RvL K B (ys.map V.str) (ys.map D.str)
 | [], _ => .nil
 | y :: ys, h => .cons (.str (h y (List.mem_cons_self ..))) (dU fun z hz => h z (List.mem_cons_of_mem _ hz))
section
variable {X : Cx} {E : XK}
theorem md : SC X (fun xs H Q => (∃ (a : Addr) (kvs : List (Key × V)) (ks : List Str), xs = [.ref a] ∧ Rd H a (.dK kvs) ∧ kvs.map (·.1) = ks.map Sum.inr ∧ ks.length < 64 ∧
  ∀ ys p, ys.Perm ks → sortedS ys = true → H p = none → Q (.ref p) (upd H p (.lst (ys.map V.str)))) ∨ rSortedS X.K xs H Q) (c1 l8) := SC.of1 fun B μ m H v d Q QV M td q k => by
 cases d with
 | dic kvs =>
  obtain ⟨a, vs, rfl, hd, rk⟩ := td
  obtain ⟨xs, e1, e2, hl, q⟩ := fU rk q
  refine .inl ⟨a, vs, xs, rfl, hd, e1, hl, fun ys p hp hs np => ?_⟩
  have oy : ∀ y ∈ ys, okS y = true := fun y hy => e2 y (hp.mem_iff.mp hy)
  exact SO.new M k np (bH M np (dU oy)) (q ys hp hs)
 | lst ds =>
  obtain ⟨a, vs, rfl, hv, rl⟩ := td
  obtain ⟨xs, rfl, e2, hl, q⟩ := g0 rl q
  refine .inr ⟨a, xs, rfl, .inl (.inl hv), hl, fun ys p hp hs np => ?_⟩
  have oy : ∀ y ∈ ys, okS y = true := fun y hy => e2 y (hp.mem_iff.mp hy)
  exact SO.new M k np (bH M np (dU oy)) (q ys hp hs)
 | _ => exact q.elim
theorem kq {e : Expr} {ta : DTA} {p pos : Pos} (hc : X.calm = true) (hm : X.mg "sorted" = none) (ha : DA X E [e] ta) (hg : Gl X "sorted" := by rfl) (he : starEach [e] X.env = (false, eval e X.env) :: starEach [] X.env := by rfl) (hpl : (backTo pos (starEach [] X.env)).any (·.1) = false := by rfl) : DE X E (.Call (.Name "sorted" p) [e] [] pos) (tCa (c1 l8) ta) :=
 gp ((call_sortedD hc).or cr_sortedS) md hm (by decide +kernel) ha hg (by decide) (by decide) he hpl
end
section
variable {X : Cx} {E : XK}
end
section
variable {P : Program} {w : World} {K : Frag} {mg : Str → Option Value} {base : Heap} {name qual : Str} {st : Stmt} {N ps : List Str} {k : Nat} {sp : SpD} {f : Addr} {fd : FuncData}
theorem ia (D : FunD K name qual (defArgs st) (defBody st) (defScope st) [] [] f fd) (S : FnScope N ps (defScope st)) (ar : ∀ ws m Q Qx, sp ws m Q Qx → ws.length = ps.length)
  (hbody : ∀ (cdv : Value) (A : Around) (outer : List Env) (s : Shared) (H : Hp) (E : XK), Room k (A.deeper (envOfC qual (defScope st) s.heap.objs.size f cdv)) →
   ∃ T, DSs (cxOf (L2.CX P w) P w K mg base N qual (defScope st) f cdv A outer s H E) E (defBody st) T ∧ ∀ ws m Qd Qx, sp ws m Qd Qx → T (bn N ws) m (jB m Qd Qx)) : FnOk P w K mg base (L2.CX P w) (k + 1) f fd ps (af K sp) := by
 refine D.ok S (fun vs H Q E ⟨B, μ, m, ws, Qd, Qx, M, r, hs, _⟩ => by rw [r.len]; exact ar _ _ _ _ hs) fun cdv A outer s H vs Q E hr h => ?_
 obtain ⟨T, hd, hT⟩ := hbody cdv A outer s H E hr
 obtain ⟨t, hp, hs⟩ := hd.ex
 exact ⟨t, hp, hs.def_ hT h⟩
theorem kY (D : FunD K name qual (defArgs st) (defBody st) (defScope st) [] [] f fd) (S : FnScope N ps (defScope st)) (ar : ∀ ws m Q Qx, sp ws m Q Qx → ws.length = ps.length)
  (hbody : ∀ (cdv : Value) (A : Around) (outer : List Env) (s : Shared) (H : Hp) (E : XK), Room k (A.deeper (envOfC qual (defScope st) s.heap.objs.size f cdv)) →
   ∃ T, DSs (cxOf (L2.CX P w) P w K mg base N qual (defScope st) f cdv A outer s H E) E (defBody st) T ∧ ∀ ws m Qd Qx, sp ws m Qd Qx → T (bn N ws) m (iG Qd Qx)) : FnOk P w K mg base (L2.CX P w) (k + 1) f fd ps (af K sp) := by
 refine D.ok S (fun vs H Q E ⟨B, μ, m, ws, Qd, Qx, M, r, hs, _⟩ => by rw [r.len]; exact ar _ _ _ _ hs) fun cdv A outer s H vs Q E hr h => ?_
 obtain ⟨T, hd, hT⟩ := hbody cdv A outer s H E hr
 obtain ⟨t, hp, hs⟩ := hd.ex
 exact ⟨t, hp, hs.defo hT h⟩
structure GmC (P : Program) (w : World) (K : Frag) (mg : Str → Option Value) (base : Heap) (k : Nat) (x : Str) (C : Addr) (sp : SpD) : Prop where
 ex : ∃ f fd ps, mg x = some (.ref C) ∧ Mk K C f ∧ Binds K fd ps [] ∧ FnOk P w K mg base (L2.CX P w) k f fd ps (af K sp)
structure GmM (P : Program) (w : World) (K : Frag) (mg : Str → Option Value) (base : Heap) (k : Nat) (C : Addr) (m : Str) (sp : SpD) : Prop where
 cls : Cls K C
 ex : ∃ f fd ps, Meth K C m f ∧ Binds K fd ps [] ∧ FnOk P w K mg base (L2.CX P w) k f fd ps (af K sp)
end
abbrev i7 (ds : List (Str × D)) : List (Str × W) := ds.map fun p => (p.1, .v p.2)
theorem g2 {K : Frag} {B : Hp} {μ : List Addr} : ∀ {vs : List (Str × V)} {ds : List (Str × D)}, RWf K B μ vs (i7 ds) → RvF K B vs ds
 | [], [], _ => .nil
 | (_, _) :: _, [], h => by cases h
 | [], (_, _) :: _, h => by cases h
 | (k, v) :: vs, (k2, d) :: ds, h => by
  cases h with
  | cons a t => exact .cons a (g2 t)
theorem Stp.cut {B B' : Hp} {μ μ' : List Addr} {m more : Me} {H H' : Hp} (s : Stp B μ m H B' μ' (m ++ more) H') : Stp B μ m H B' μ m H' :=
 ⟨s.same, List.prefix_refl _, s.out, fun a o n e x b => ⟨(s.hid a o n e x b).1, n⟩⟩
section
variable {X : Cx} {E : XK} {x : Str} {C : Addr} {k : Nat} {sp : SpD} {e o : Expr} {es : List Expr} {ta : DTA} {p pos apos : Pos}
def mkD (C : Addr) (sp : SpD) (xs : List W) (m : Me) (Q : W → Me → Prop) (Qx : QX) : Prop := sp (.loc m.length :: xs) (m ++ [.ins C []]) (fun r m2 => r = .v .non ∧ ∃ ds, m2 = m ++ [.ins C (i7 ds)] ∧ Q (.v (.obj C ds)) m) (fun er m2 => m <+: m2 ∧ Qx er m)
theorem gw {K : Frag} {B : Hp} {μ : List Addr} {m : Me} {H : Hp} {vs : List V} {xs : List W} {Q : W → Me → Prop} {Qx : QX} {QV : VK} (M : MemOk K B μ m H) (r : RWs K B μ vs xs) (h : mkD C sp xs m Q Qx) (hx : ExOf K E B μ m H Qx)
  (kk : ∀ B' H' v d, Stp B μ m H B' μ m H' → MemOk K B' μ m H' → Rv K B' v d → Q (.v d) m → QV v H') :
  ∀ a dx, H a = none → H dx = none → dx ≠ a → af K sp (.ref a :: vs) (upd (upd H dx (.own a)) a (.ins C dx [])) (fun v H2 => v = .non ∧ QV (.ref a) H2) E := by
 intro a dx na nd da
 unfold mkD at h
 obtain ⟨nbd, nld⟩ := M.none nd
 have kp0 : ∀ b o, b ≠ dx → H b = some o → upd H dx (.own a) b = some o := fun b o c e => by rw [upd_ne c]; exact e
 have s0 : Stp B μ m H B μ m (upd H dx (.own a)) := Stp.refl.touch nd kp0
 have M0 := M.touch nbd nld kp0
 have na0 : upd H dx (.own a) a = none := by rw [upd_ne da.symm]; exact na
 have kp : ∀ b o, b ≠ a → upd H dx (.own a) b = some o → upd (upd H dx (.own a)) a (.ins C dx []) b = some o := fun b o c e => by rw [upd_ne c]; exact e
 have s1 := Stp.push M0 na0 (m := .ins C []) kp
 have M1 := M0.push na0 (m := .ins C []) (fun b o e => kp b o (ne_of_none (M0.le b o e) na0) (M0.le b o e)) kp ⟨dx, [], upd_same, .nil⟩
 have s01 := s0.trans M0 s1 M.le
 have ha : (μ ++ [a])[m.length]? = some a := by rw [← M.len]; simp
 refine ⟨B, μ ++ [a], m ++ [.ins C []], .loc m.length :: xs, _, _, M1, .cons ⟨a, rfl, ha⟩ (r.to (Same.refl _) (List.prefix_append _ _)), h, ?_, fun B' μ' m' H' y v s' M' ry q => ?_⟩
 ·intro B' μ' m' H' er d fvs s' M' hd rf q
  obtain ⟨⟨more, rfl⟩, q⟩ := q
  have st := s01.trans M1 s' M.le
  have pm : m ++ more = m ++ more := rfl
  exact hx B' μ m H' er d fvs (Stp.cut st) (MemOk.drop M ((List.prefix_append _ _).trans s'.pre) M') hd rf q
 ·obtain ⟨rfl, ds, rfl, q⟩ := q
  cases (show Rv K B' v .non from ry)
  have ha' := bG s'.pre ha
  have hm : (m ++ [MO.ins C (i7 ds)])[m.length]? = some (.ins C (i7 ds)) := by simp
  obtain ⟨dx', vs', hv, rf⟩ := M'.at_ _ a _ ha' hm rfl
  have nb := M'.off a ⟨_, _, ha', hm, rfl⟩
  have sf := Stp.freeze (H := H') (o := .ins C dx' vs') ha' hm rfl nb
  have Mf := M'.freeze (o := .ins C dx' vs') ha' hm rfl hv
  have es : (m ++ [MO.ins C (i7 ds)]).set m.length .gone = m ++ [.gone] := by simp
  rw [es] at sf Mf
  have st := (s01.trans M1 s' M.le).trans M' sf M.le
  exact ⟨rfl, kk _ H' _ _ (Stp.cut st) (MemOk.drop M ((List.prefix_append _ _).trans s'.pre) Mf) (.obj upd_same ((g2 rf).to sf.same)) q⟩
def tMk (C : Addr) (sp : SpD) (ta : DTA) : DTE := fun en m Q Qx => ta en m (fun xs m1 => mkD C sp xs m1 Q Qx) Qx
theorem me (G : GmC X.prog X.w X.K X.mg X.base k x C sp) (hr : Room (k + 1) X.A) (hx : Passes (L2.CX X.prog X.w) X E) (ha : DA X E (e :: es) ta) (hg : Gl X x := by rfl) (hdb : (x == ("__debug__" : Str)) = false := by decide)
  (he : starEach (e :: es) X.env = (false, eval e X.env) :: starEach es X.env := by rfl) (hpl : (backTo pos (starEach es X.env)).any (·.1) = false := by rfl) : DE X E (.Call (.Name x p) (e :: es) [] pos) (tMk C sp ta) := by
 obtain ⟨t1, p1, k1⟩ := ha.ex
 obtain ⟨f, fd, ps, hm, M, hb, F⟩ := G.ex
 refine ⟨_, pe_make M F hr hg hm hb .nil hx p1 hdb he hpl, fun B μ en m σ H Q Qx QV R hx' T kk => ?_⟩
 refine k1 B μ en m σ H _ Qx _ R hx' T fun B1 μ1 m1 H1 xs vs s1 R1 r q => ?_
 have z := gw (QV := QV) R1.mem r q (hx'.step s1 R1.mem R.mem.le) fun B' H' v d st M' rv qd => kk B' μ1 m1 H' (.v d) v (s1.trans R1.mem st R.mem.le) (R1.stp st M' |> fun y => by exact y) (RW.d rv) qd
 intro a dx na nd da
 rw [List.append_nil]
 exact z a dx na nd da
def m7 (C : Addr) (mn : Str) (sp : SpD) (to : DTE) (ta : DTA) : DTE := fun en m Q Qx => to en m (fun x m1 => ∃ fs, x = .v (.obj C fs) ∧ fs.lookup mn = none ∧ ta en m1 (fun xs m2 => sp (x :: xs) m2 Q Qx) Qx) Qx
theorem RvF.look_none {K : Frag} {H : Hp} {f : Str} {vs : List (Str × V)} {ds : List (Str × D)} (h : RvF K H vs ds) (e : ds.lookup f = none) : vs.lookup f = none := by
 cases q : vs.lookup f with
 | none => rfl
 | some v =>
  exfalso
  have key : ∀ {vs : List (Str × V)} {ds : List (Str × D)}, RvF K H vs ds → vs.map (·.1) = ds.map (·.1) := by
   intro vs
   induction vs with
   | nil => intro ds h; cases h; rfl
   | cons p vs ih =>
    intro ds h
    cases h with
    | cons a t => rw [List.map_cons, List.map_cons, ih t]
  have l1 : ∀ {α : Type} {l : List (Str × α)}, l.lookup f = none ↔ f ∉ l.map (·.1) := by
   intro α l
   induction l with
   | nil => simp
   | cons p l ih =>
    obtain ⟨g, y⟩ := p
    rw [List.lookup_cons]
    by_cases c : f = g
    ·subst c
     simp
    ·have : (f == g) = false := by simpa using c
     rw [this, List.map_cons, List.mem_cons]
     simp only [ih]
     exact ⟨fun h z => z.elim c h, fun h z => h (.inr z)⟩
  have z1 := l1.mp e
  rw [← key h] at z1
  have z2 := l1.mpr z1
  rw [q] at z2
  cases z2
theorem bJ {mn : Str} {to : DTE} {pl : Sem Bool} (G : GmM X.prog X.w X.K X.mg X.base k C mn sp) (hr : Room k X.A) (hx : Passes (L2.CX X.prog X.w) X E) (ho : DE X E o to)
  (ht : eval (.Call (.Attribute o mn apos) [] [] pos) X.env = (do
   let ov ← eval o X.env
   standAt apos.atName
   let (f, first) ← holding [ov] (getMethod ov mn pl)
   callWith pos f first (backTo pos (starEach [] X.env)) (backToKw pos (keywordEach [] X.env))) := by rfl) : DE X E (.Call (.Attribute o mn apos) [] [] pos) (m7 C mn sp to tN) := by
 obtain ⟨t1, p1, k1⟩ := ho.ex
 obtain ⟨f, fd, ps, hm, hb, F⟩ := G.ex
 refine ⟨_, pe_meth0 p1 G.cls hm F hr hb .nil hx ht, fun B μ en m σ H Q Qx QV R hx' T kk => ?_⟩
 refine k1 B μ en m σ H _ Qx _ R hx' T fun B1 μ1 m1 H1 y v s1 R1 r q => ?_
 obtain ⟨fs, rfl, nl, q⟩ := q
 cases (show Rv X.K B1 v (.obj C fs) from r) with
 | obj hv rf =>
  refine ⟨_, _, _, rfl, R1.mem.le _ _ hv, rf.look_none nl, B1, μ1, m1, _, _, Qx, R1.mem, .cons r .nil, q, hx'.step s1 R1.mem R.mem.le, fun B2 μ2 m2 H2 z u s2 M2 rz qz => ?_⟩
  have st := s1.trans R1.mem s2 R.mem.le
  exact kk B2 μ2 m2 H2 z u st (R.stp st M2) rz qz
end
open PySem.W in
structure GmS (P : Program) (w : World) (K : Frag) (mg : Str → Option Value) (base : Heap) (k : Nat) (C : Addr) (m : Str) (sp : SpD) : Prop where
 ex : ∃ f fd ps, PySem.W.findIn K (.ref C) m = some (some (.ref f)) ∧ PySem.W.isFn K (.ref f) = true ∧ Binds K fd ps [] ∧ FnOk P w K mg base (L2.CX P w) k f fd ps (af K sp)
section
variable {X : Cx} {E : XK} {C : Addr} {k : Nat} {sp : SpD}
theorem i8 {pins : List (Addr × Obj)} {σ : L2.St} {H : Hp} {s : Shared} {a dx : Addr} {fs : List (Str × V)} (I : Inv X pins σ H s) (h : H a = some (.ins C dx fs)) : ∃ od, PySem.W.InstAt s.heap a (PySem.W.instObj C dx) C (some od) := by
 obtain ⟨mA, O, _⟩ := ins_get I.hok h
 obtain ⟨od, J, _⟩ := O.look
 exact ⟨od, J⟩
theorem fV {A : Around} {pins : List (Addr × Obj)} {σ : L2.St} {H : Hp} {s : Shared} {Q : VK} {us : List Value} {vs : List V} {f : Addr} {fd : FuncData} {ps : List Str} (F : FnOk X.prog X.w X.K X.mg X.base (L2.CX X.prog X.w) k f fd ps (af X.K sp)) (hr : Room k A) (e0 : Env0 X.prog X.w X.K X.mg X.base A X.stack s H) (hb : Binds X.K fd ps []) (I : Inv X pins σ H s) (r : Vals vs us) (h : af X.K sp vs H Q E0) :
  wpAny (model X.prog X.w) A (call (.ref f) us) (EP X pins σ Q) X.xe s := by
 have hl : us.length = ps.length := by
  rw [← r.length]
  exact F.len _ _ _ _ h
 have bt := hb s us I.kIn (by rw [List.append_nil]; exact hl)
 rw [List.append_nil] at bt
 refine wpAny_call (codeAny_mono (F.run A X.stack s H ⟨us, []⟩ us vs Q E0 hr e0 bt r h) fun r s' z => ?_)
 cases r with
 | error e => exact aB pins σ H s e s' I z
 | ok fl =>
  cases fl with
  | ret u => exact I.after z
  | next => exact (show False from z).elim
  | brk => exact (show False from z).elim
  | cont => exact (show False from z).elim
def kr (sp : SpD) (xs : List W) (m : Me) (Q : D → Prop) : Prop := sp xs m (fun r m' => m' = m ∧ oD r Q) noX
theorem fW {B : Hp} {μ : List Addr} {m : Me} {H : Hp} {vs : List V} {xs : List W} {Q : D → Prop} {QV : VK} (M : MemOk X.K B μ m H) (r : RWs X.K B μ vs xs) (h : kr sp xs m Q) (k : ∀ B' H' d z, Stp B μ m H B' μ m H' → MemOk X.K B' μ m H' → Rv X.K B' z d → Q d → QV z H') : af X.K sp vs H QV E0 := by
 refine ⟨B, μ, m, xs, _, _, M, r, h, ExOf.no, fun B' μ' m' H' x v s M' rv q => ?_⟩
 obtain ⟨rfl, q⟩ := q
 have e : μ = μ' := s.pre.eq_of_length (by rw [M.len, M'.len])
 subst e
 cases x with
 | loc n => exact q.elim
 | v d => exact k B' H' d v s M' rv q
structure BinT (K : Frag) (C : Addr) (op : Operator) : Prop where
 sf : PySem.W.selfFirst K C = true
 rf : PySem.W.findIn K (.ref C) (PySem.dunderR op.info.2) = some none
 b1 : ∃ fo, PySem.W.findIn K (.type "tuple") (PySem.dunder op.info.2) = some fo
 b2 : ∃ ro, PySem.W.findIn K (.type "tuple") (PySem.dunderR op.info.2) = some ro
 sb : PySem.W.subIn K (.type "tuple") (.ref C) = some false
def jO (K : Frag) (C : Addr) (sp : SpD) : List V → Hp → VK → Prop := fun xs H Q => ∃ a dx fs, xs = [.ref a] ∧ H a = some (.ins C dx fs) ∧ af K sp [.ref a] H Q E0
theorem jP (G : GmS X.prog X.w X.K X.mg X.base k C "__len__" sp) (hr : Room (k + 1) X.A) : CallR X (.builtin "len") (fun xs H Q => jO X.K C sp xs H (fun v H' => ∃ i : Int, v = .int i ∧ 0 ≤ i ∧ i < 2 ^ 63 ∧ Q v H')) := by
 obtain ⟨f, fd, ps, at_, fn, hb, F⟩ := G.ex
 intro pins s σ H xs us Q I r ⟨a, dx, fs, e1, ha, h⟩
 subst e1
 obtain ⟨u, eu, rx⟩ := vals1 r
 subst eu
 cases (show u = Value.ref a from rx)
 obtain ⟨oda, Ja⟩ := i8 I ha
 obtain ⟨m, fr⟩ := I.fr
 refine PySem.W.len_K fr I.ok.mod.kin Ja at_ fn (wpAny_mono (fV (us := [.ref a]) (vs := [.ref a]) F (Room.in1 hr) I.env0.in1 hb I (.cons rfl .nil) h) (fun w s' z => ?_) fun _ _ z => z)
 obtain ⟨z, H', I', rz, i, rfl, i0, i1, q⟩ := z
 obtain ⟨t, rfl⟩ := (show ∃ t, w = Value.int i t from rz)
 exact ⟨⟨i0, i1⟩, .int i, H', I'.tok _, ⟨_, rfl⟩, q⟩
def jQ (C : Addr) (sp : SpD) (g : D → Prop) : DCa := fun xs m Q => ∃ fs, xs = [.v (.obj C fs)] ∧ kr sp xs m fun d => g d ∧ Q d
def i9 : D → Prop
 | .int i => 0 ≤ i ∧ i < 2 ^ 63
 | _ => False
theorem kZ : SC X (fun xs H Q => jO X.K C sp xs H (fun v H' => ∃ i : Int, v = .int i ∧ 0 ≤ i ∧ i < 2 ^ 63 ∧ Q v H')) (jQ C sp i9) := by
 intro B μ m H xs vs Q QV M r q kk
 obtain ⟨fs, rfl, q⟩ := q
 cases r with
 | cons a t =>
  cases t
  cases (show Rv X.K B _ (.obj C fs) from a) with
  | obj ha rf =>
   refine ⟨_, _, _, rfl, M.le _ _ ha, fW M (.cons a .nil) q fun B' H' d z s M' rz qd => ?_⟩
   obtain ⟨g, qd⟩ := qd
   cases d with
   | int i => cases (show Rv X.K B' z (.int i) from rz); exact ⟨i, rfl, g.1, g.2, kk B' H' _ _ s M' (.int i) qd⟩
   | _ => exact g.elim
theorem k7 {e : Expr} {ta : DTA} {p pos : Pos} (G : GmS X.prog X.w X.K X.mg X.base k C "__len__" sp) (hr : Room (k + 1) X.A) (hm : X.mg "len" = none) (ha : DA X E [e] ta) (hg : Gl X "len" := by rfl) (he : starEach [e] X.env = (false, eval e X.env) :: starEach [] X.env := by rfl) (hpl : (backTo pos (starEach [] X.env)).any (·.1) = false := by rfl) : DE X E (.Call (.Name "len" p) [e] [] pos) (tCa (jQ C sp i9) ta) :=
 gp (jP G hr) kZ hm PySem.boot_len ha hg (by decide) (by decide) he hpl
def tOf (K : Frag) (f : Str) (te : DTE) : DTE := fun en m Q Qx => te en m (fun x m1 => ∃ C fs d, x = .v (.obj C fs) ∧ Cls K C ∧ NoAttr K C f ∧ fs.lookup f = some d ∧ Q (.v d) m1) Qx
theorem m8 {f : Str} {e : Expr} {te : DTE} {pos : Pos} (he : DE X E e te) (hb : attributeBase e f X.env (eval e X.env) = eval e X.env := by rfl) : DE X E (.Attribute e f pos) (tOf X.K f te) := by
 obtain ⟨t1, p1, k1⟩ := he.ex
 refine ⟨_, pe_fld p1 hb, fun B μ en m σ H Q Qx QV R hx T kk => ?_⟩
 refine k1 B μ en m σ H _ Qx _ R hx T fun B1 μ1 m1 H1 x v s1 R1 r q => ?_
 obtain ⟨C, fs, d, rfl, cl, na, hl, q⟩ := q
 cases (show Rv X.K B1 v (.obj C fs) from r) with
 | obj ha rf =>
  obtain ⟨u, hu, ru⟩ := rf.look hl
  exact ⟨_, C, _, _, u, rfl, R1.mem.le _ _ ha, cl, na, hu, kk B1 μ1 m1 H1 (.v d) u s1 R1 (RW.d ru) q⟩
def gx (f : Str) (v : W) : List (Str × W) → List (Str × W)
 | [] => [(f, v)]
 | (g, x) :: r => if g = f then (g, v) :: r else (g, x) :: gx f v r
theorem RWf.put {K : Frag} {B : Hp} {μ : List Addr} {f : Str} {v : V} {w : W} (r : RW K B μ v w) : ∀ {vs : List (Str × V)} {ws : List (Str × W)}, RWf K B μ vs ws → RWf K B μ (putF f v vs) (gx f w ws)
 | _, _, .nil => .cons r .nil
 | _, _, .cons (k := g) h t => by
  unfold putF gx
  by_cases c : g = f
  ·rw [if_pos c, if_pos c]
   exact .cons r t
  ·rw [if_neg c, if_neg c]
   exact .cons h (RWf.put r t)
theorem RWf.len {K : Frag} {B : Hp} {μ : List Addr} : ∀ {vs : List (Str × V)} {ws : List (Str × W)}, RWf K B μ vs ws → vs.length = ws.length
 | _, _, .nil => rfl
 | _, _, .cons _ t => congrArg Nat.succ (RWf.len t)
def cn (m : Me) (n : Nat) (Q : Addr → List (Str × W) → Prop) : Prop := match m[n]? with
 | some (.ins C fs) => Q C fs
 | _ => False
def m9 (K : Frag) (f : Str) (to te : DTE) : DTS := fun en m N => te en m (fun y m1 => to en m1 (fun x m2 => match x with
 | .loc n => cn m2 n fun C fs => Cls K C ∧ NoAttr K C f ∧ fs.length < 1000 ∧ N.nx en (m2.set n (.ins C (gx f y fs)))
 | _ => False) N.xc) N.xc
theorem dW {f : Str} {o e : Expr} {to te : DTE} {pos pos' : Pos} (ho : DE X E o to) (he : DE X E e te) (hs : swapsWith e (some (.Attribute o f pos')) pos.line X.env = pure false := by rfl) : DS X E (.Assign [.Attribute o f pos'] e pos) (m9 X.K f to te) := by
 obtain ⟨t1, p1, k1⟩ := ho.ex
 obtain ⟨t2, p2, k2⟩ := he.ex
 refine ⟨_, ps_fld p1 p2 hs, fun B μ en m σ H N D R hx T e => ?_⟩
 refine k2 B μ en m σ H _ _ _ R hx T fun B1 μ1 m1 H1 y w s1 R1 r1 T1 => ?_
 refine k1 B1 μ1 en m1 σ H1 _ _ _ R1 (hx.step s1 R1.mem R.mem.le) T1 fun B2 μ2 m2 H2 x v s2 R2 r2 q => ?_
 have s12 := s1.trans R1.mem s2 R.mem.le
 cases x with
 | v d => exact q.elim
 | loc n =>
  have q : cn m2 n _ := q
  unfold cn at q
  split at q
  ·rename_i C fs hm
   obtain ⟨cl, na, hl, q⟩ := q
   obtain ⟨a, rfl, ha⟩ := r2
   obtain ⟨dx, vs, hv, rf⟩ := R2.mem.at_ n a _ ha hm rfl
   have ry : RW X.K B2 μ2 w y := r1.to s2.same s2.pre
   have kp : ∀ b o, b ≠ a → H2 b = some o → upd H2 a (.ins C dx (putF f w vs)) b = some o := fun b o c e => by rw [upd_ne c]; exact e
   have sS := Stp.store (H' := upd H2 a (.ins C dx (putF f w vs))) (m' := .ins C (gx f y fs)) (B := B2) ha hm rfl kp
   have mS := R2.mem.store (m' := .ins C (gx f y fs)) ha hm rfl rfl kp ⟨dx, _, upd_same, RWf.put ry rf⟩
   have st := s12.trans R2.mem sS R.mem.le
   exact ⟨a, C, dx, vs, rfl, hv, cl, na, by rw [RWf.len rf]; exact hl, e.nx _ _ _ _ _ _ st (R.stp st mS) q⟩
  ·exact q.elim
end
theorem ja {a n : Nat} (h : n ≠ 0) : Nat.gcd n (a % n) = Nat.gcd a n := by
 rw [Nat.gcd_comm n, ← Nat.gcd_rec, Nat.gcd_comm]
section
variable {P : Program} {w : World} {K : Frag} {mg : Str → Option Value} {base : Heap}
abbrev bK : Stmt := top 10
abbrev gy : List Str := ["_law_top", "_law_bottom", "_law_one", "_law_other"]
abbrev cC : List Str := ["_law_top", "_law_bottom"]
theorem bv : FnScope gy cC (defScope bK) := ⟨rfl, rfl, rfl, by decide +kernel, rfl, by decide +kernel, by decide +kernel⟩
def fm (t b : Int) : Int × Int := let g : Int := if b < 0 then -((Int.gcd t b : Nat) : Int) else ((Int.gcd t b : Nat) : Int)
 (t / g, b / g)
abbrev frD (p : Int × Int) : D := .tup [.int p.1, .int p.2]
theorem fX {t b : Int} (hb : 0 < b) : ∃ k : Nat, (fm t b).2 = k ∧ 0 < k ∧ Int.gcd (fm t b).1 k = 1 ∧ (fm t b).1.natAbs ≤ t.natAbs ∧ k ≤ b.natAbs := by
 have hg : 0 < Int.gcd t b := Int.gcd_pos_of_ne_zero_right _ (by omega)
 have e : fm t b = (t / ((Int.gcd t b : Nat) : Int), b / ((Int.gcd t b : Nat) : Int)) := by
  unfold fm
  rw [if_neg (by omega)]
 rw [e]
 obtain ⟨q, hq⟩ := Int.gcd_dvd_right (a := t) (b := b)
 have q0 : 0 < q := by
  rcases Int.lt_trichotomy q 0 with z | z | z
  ·have := Int.mul_neg_of_pos_of_neg (show (0 : Int) < ((Int.gcd t b : Nat) : Int) by omega) z
   omega
  ·subst z
   rw [Int.mul_zero] at hq
   omega
  ·exact z
 have e2 : b / ((Int.gcd t b : Nat) : Int) = q := by
  conv => lhs; lhs; rw [hq]
  exact Int.mul_ediv_cancel_left _ (by omega)
 have g1 := Int.gcd_ediv_gcd_ediv_gcd hg
 refine ⟨q.toNat, by show b / _ = _; rw [e2]; omega, by omega, ?_, ?_, ?_⟩
 ·rw [e2] at g1
  rw [Int.toNat_of_nonneg (by omega)]
  exact g1
 ·show (t / ((Int.gcd t b : Nat) : Int)).natAbs ≤ _
  obtain ⟨r, hr⟩ := Int.gcd_dvd_left (a := t) (b := b)
  have : t / ((Int.gcd t b : Nat) : Int) = r := by
   conv => lhs; lhs; rw [hr]
   exact Int.mul_ediv_cancel_left _ (by omega)
  rw [this]
  conv => rhs; rw [hr]
  rw [Int.natAbs_mul]
  exact Nat.le_mul_of_pos_left _ (by omega)
 ·conv => rhs; rw [hq]
  rw [Int.natAbs_mul]
  have : q.toNat = q.natAbs := by omega
  rw [this]
  exact Nat.le_mul_of_pos_left _ (by omega)
def jb : SpD := fun ws m Q _ => ∃ i j : Int, ws = [.v (.int i), .v (.int j)] ∧ 0 < j ∧ j.natAbs.log2 < 9000 ∧ Q (.v (frD (fm i j))) m
theorem log2_lt {i : Int} {k : Nat} (h : i.natAbs < 10 ^ k) (k0 : 4 * k < 1920 := by decide) : i.natAbs.log2 < 1920 := by
 by_cases e : i.natAbs = 0
 ·rw [e]
  decide
 ·rw [Nat.log2_lt e]
  have z1 : (10 : Nat) ^ k ≤ 16 ^ k := Nat.pow_le_pow_left (by decide) k
  have z2 : (16 : Nat) ^ k = 2 ^ (4 * k) := by rw [show (16 : Nat) = 2 ^ 4 by decide, ← Nat.pow_mul]
  have z3 : (2 : Nat) ^ (4 * k) ≤ 2 ^ 1920 := Nat.pow_le_pow_right (by decide) (by omega)
  omega
theorem jR {n k : Nat} (h : n ≤ k) : n.log2 ≤ k.log2 := by
 by_cases e : n = 0
 ·subst e
  exact Nat.zero_le _
 ·exact (Nat.le_log2 (by omega)).mpr (Nat.le_trans (Nat.log2_self_le e) h)
theorem fY (G : Gs K mg "_law_low" bK) (m_abs : mg "abs" = none) : Gd P w K mg base (L2.CX P w) 1 "_law_low" cC (af K jb) := by
 refine Fo.gd (iI bv (fun ws m Q Qx h => ?_) (fun f cdv A outer s H E hr => ⟨_, (ac (de (i := 2) (j := 3) rfl bv.nd rfl rfl (by decide) rfl rfl (aa (kd m_abs (aa (dv 0) ab)) (aa (kd m_abs (aa (dv 1) ab)) ab)) (by rfl))
  (ac (iC (passes_of rfl) (bA (hJ (u64 hr)) (dv 3) aq (nomark _))
   (ad (de (i := 2) (j := 3) rfl bv.nd rfl rfl (by decide) rfl rfl (aa (dv 3) (aa (aT j8 (dv 2) (dv 3)) ab)) (by rfl))))
  (ac (ci (bA mQ (dv 1) aq (nomark _))
   (ad (bb (i := 2) bv.nd rfl (.inl rfl) (aT iK aq (dv 2))))
   aM)
  (ad (az (cN (aa (aT iL (dv 0) (dv 2)) (aa (aT iL (dv 1) (dv 2)) ab)))))))), fun ws m Qd Qx h => ?_⟩) [] []) G (fun _ _ _ _ _ _ us hl => match us, hl with | [_, _], _ => rfl)
 ·obtain ⟨_, _, rfl, _⟩ := h
  rfl
 ·obtain ⟨i, j, rfl, hj, hl, q⟩ := h
  refine jK (fun n en m' => m' = m ∧ ∃ a : Nat, en = [some (.v (.int i)), some (.v (.int j)), some (.v (.int a)), some (.v (.int n))] ∧ Nat.gcd a n = Int.gcd i j) j.natAbs ⟨rfl, i.natAbs, rfl, rfl⟩ ?_
  rintro n en m' N' ⟨rfl, a, rfl, hg⟩ r1 r2 r3 hn
  refine ⟨rfl, rfl, Nat.zero_le _, Nat.zero_le _, ls (fun c => ?_) (fun c => ?_)⟩
  ·have hz : n ≠ 0 := by
    intro z
    subst z
    cases c
   have z := Nat.mod_lt a (Nat.pos_of_ne_zero hz)
   exact ⟨by omega, (hn (a % n) _ _ z ⟨rfl, n, rfl, by rw [ja hz]; exact hg⟩).1⟩
  ·have hz : n = 0 := by
    have c : (!((n : Int) == 0)) = false := c
    have c : ((n : Int) == 0) = true := by simpa using c
    have c : (n : Int) = 0 := by simpa using c
    omega
   subst hz
   rw [Nat.gcd_zero_right] at hg
   subst hg
   refine kC (decide_eq_false (by omega)) ?_
   have hp : 0 < Int.gcd i j := Int.gcd_pos_of_ne_zero_right _ (by omega)
   have hle : Int.gcd i j ≤ j.natAbs := Nat.le_of_dvd (by omega) (Nat.gcd_dvd_right _ _)
   have h9 : ((Int.gcd i j : Nat) : Int).natAbs.log2 < 9000 := Nat.lt_of_le_of_lt (jR (by omega)) hl
   refine ⟨by omega, h9, by omega, h9, (by show 2 ≤ sizeLine; decide), List.prefix_refl _, ?_⟩
   have z : fm i j = (i / ((Int.gcd i j : Nat) : Int), j / ((Int.gcd i j : Nat) : Int)) := by
    unfold fm
    rw [if_neg (by omega)]
   rw [z] at q
   exact q
end
section
variable {P : Program} {w : World} {K : Frag} {mg : Str → Option Value} {base : Heap}
def gz (p : Int × Int) : Prop := p.1.natAbs < 10 ^ 40 ∧ p.2.natAbs < 10 ^ 40
theorem jc {i j : Int} (h1 : i.natAbs < 10 ^ 40) (h2 : j.natAbs < 10 ^ 40) : CMulW i j := by
 have z1 := log2_lt (k := 40) h1
 have z2 := log2_lt (k := 40) h2
 show _ + _ < 1000000
 omega
def szF (e : Nat) (p : Int × Int) : Prop := p.1.natAbs < 2 ^ e ∧ p.2.natAbs < 2 ^ e
def mf : Nat := 4000
theorem g3 {a b : Nat} (h : a ≤ b) : 2 ^ a ≤ 2 ^ b := Nat.pow_le_pow_right (by decide) h
theorem szF.mono {a b : Nat} {p : Int × Int} (h : szF a p) (l : a ≤ b) : szF b p := ⟨Nat.lt_of_lt_of_le h.1 (g3 l), Nat.lt_of_lt_of_le h.2 (g3 l)⟩
theorem fZ {p : Int × Int} (h : gz p) : szF 133 p := by
 have z : (10 : Nat) ^ 40 ≤ 2 ^ 133 := by decide
 exact ⟨Nat.lt_of_lt_of_le h.1 z, Nat.lt_of_lt_of_le h.2 z⟩
end
section
variable {X : Cx} {E : XK}
structure GmK (P : Program) (w : World) (K : Frag) (mg : Str → Option Value) (base : Heap) (k : Nat) (x : Str) (C : Addr) (ks : List Str) (sp : SpD) : Prop where
 ex : ∃ f fd ps g, mg x = some (.ref C) ∧ Mk K C f ∧ KBn K fd ps 1 ks g (fun vs zs => vs ++ zs) ∧ FnOk P w K mg base (L2.CX P w) k f fd ps (af K sp)
def nf (C : Addr) (n : Nat) (sp : SpD) (tk : DTA) : DTE := fun en m Q Qx => tk en m (fun zs m1 => zs.length = n ∧ mkD C sp zs m1 Q Qx) Qx
theorem mh {x : Str} {C : Addr} {k : Nat} {sp : SpD} {ks : List Str} {kws : List Keyword} {Tk : DTA} {p pos : Pos} (G : GmK X.prog X.w X.K X.mg X.base k x C ks sp) (hr : Room (k + 1) X.A) (hx : Passes (L2.CX X.prog X.w) X E) (hkw : DK X E kws Tk) (hg : Gl X x := by rfl)
  (hall : (backToKw pos (keywordEach kws X.env)).all (·.1.isSome) = true := by rfl) (hks : (backToKw pos (keywordEach kws X.env)).filterMap (·.1) = ks := by rfl) (hdb : (x == ("__debug__" : Str)) = false := by decide)
  (hpl : ((backTo pos (starEach [] X.env)).any (·.1) || (backToKw pos (keywordEach kws X.env)).any (·.1.isNone)) = false := by rfl) : DE X E (.Call (.Name x p) [] kws pos) (nf C ks.length sp Tk) := by
 obtain ⟨t2, p2, k2⟩ := hkw.ex
 obtain ⟨f, fd, ps, g, hm, M, hb, F⟩ := G.ex
 have pe : PE X (.Call (.Name x p) [] kws pos) (fun σ H Q => t2 σ H fun zs H2 => zs.length = ks.length ∧ ∀ a dx, H2 a = none → H2 dx = none → dx ≠ a → af X.K sp (.ref a :: zs) (upd (upd H2 dx (.own a)) a (.ins C dx [])) (fun v H3 => v = .non ∧ Q (.ref a) H3) E) := by
  constructor
  intro pins s σ H Q I h
  refine wpAny_Call_Name_kw (ld_glob I hg hm ?_ hdb)
  refine PySem.W.callWith_KW0 (h₀ := X.base) I.ok.mod.kin M.kp hall ?_ hpl
  refine thn (p2.run pos pins s σ H _ I h) ?_
  rintro ws s2 ⟨zs, H2, I2, rz, l2, q2⟩
  refine ⟨I2.kIn, ?_⟩
  rw [hks]
  exact run_makeN (n := 0) (us := []) (vs := []) M F hr hb hx I2 .nil rz rfl l2 q2
 refine ⟨_, pe, fun B μ en m σ H Q Qx QV R hx' T kk => ?_⟩
 refine k2 B μ en m σ H _ Qx _ R hx' T fun B1 μ1 m1 H1 xs vs s1 R1 r q => ?_
 refine ⟨by rw [r.len]; exact q.1, ?_⟩
 exact gw (QV := QV) R1.mem r q.2 (hx'.step s1 R1.mem R.mem.le) fun B' H' v d st M' rv qd => kk B' μ1 m1 H' (.v d) v (s1.trans R1.mem st R.mem.le) (R1.stp st M') (RW.d rv) qd
structure GmF (P : Program) (w : World) (K : Frag) (mg : Str → Option Value) (base : Heap) (k : Nat) (C : Addr) (mn : Str) (sp : SpD) : Prop where
 ex : ∃ p g fd ps mc, ClX.CRead K C mc ∧ ClX.CMet K C mc mn p g ∧ Binds K fd ps [] ∧ FnOk P w K mg base (L2.CX P w) k g fd ps (af K sp)
def ng (te : DTE) : DTE := fun en m Q Qx => te en m (fun x m1 => match x with
 | .loc n => eH m1 n fun _ => Q (.v .non) (m1.set n (.dic []))
 | _ => False) Qx
theorem mi {o : Expr} {te : DTE} {apos cpos : Pos} (ho : DE X E o te) (hbase : attributeBase o "clear" X.env (eval o X.env) = eval o X.env := by rfl) (hline : (apos.endLine == cpos.line) = true := by rfl) : DE X E (.Call (.Attribute o "clear" apos) [] [] cpos) (ng te) := by
 obtain ⟨t1, p1, k1⟩ := ho.ex
 refine ⟨_, pe_dclear p1 hbase hline, fun B μ en m σ H Q Qx QV R hx T kk => ?_⟩
 refine k1 B μ en m σ H _ Qx _ R hx T fun B1 μ1 m1 H1 x v s1 R1 r q => ?_
 cases x with
 | v d => exact q.elim
 | loc n =>
  obtain ⟨kvs, hm, q⟩ := fT q
  obtain ⟨a, rfl, ha⟩ := r
  obtain ⟨vs, hv, rk⟩ := R1.mem.at_ n a _ ha hm rfl
  have kp : ∀ b o, b ≠ a → H1 b = some o → upd H1 a (.dK []) b = some o := fun b o c e => by rw [upd_ne c]; exact e
  have sS := Stp.store (H' := upd H1 a (.dK [])) (m' := .dic []) (B := B1) ha hm rfl kp
  have mS := R1.mem.store (m' := .dic []) ha hm rfl rfl kp ⟨_, upd_same, .nil⟩
  have st := s1.trans R1.mem sS R.mem.le
  exact ⟨.inr (.inr (.inl ⟨rfl, .inl ⟨vs, hv⟩⟩)), a, vs, rfl, rfl, hv, kk B1 μ1 _ _ (.v .non) .non st (R.stp st mS) (RW.d .non) q⟩
end
def leS (a b : Str) : Prop := a.cps.toList ≤ b.cps.toList
theorem k8 {a b : Str} (h : ltCps b.cps.toList a.cps.toList = false) : leS a b := by
 rw [PyProof.Rows.ltCps_eq] at h
 exact List.not_lt.mp (of_decide_eq_false h)
theorem ib {a b c : Str} (h : leS a b) (k : leS b c) : leS a c := List.le_trans h k
theorem jd {a b : Str} (h : leS a b) (k : leS b a) : a = b := by
 have z : a.cps.toList = b.cps.toList := List.le_antisymm h k
 cases a with | mk x => cases b with | mk y => exact congrArg Str.mk (Array.toList_inj.mp z)
theorem eI : ∀ (l : List Str) (p : Str), risingS p l = true → (∀ x ∈ l, leS p x) ∧ l.Pairwise leS
 | [], p, _ => ⟨(fun _ h => nomatch h), List.Pairwise.nil⟩
 | x :: r, p, h => by
  have h : (!ltCps x.cps.toList p.cps.toList && risingS x r) = true := h
  simp only [Bool.and_eq_true, Bool.not_eq_true'] at h
  have px : leS p x := k8 h.1
  obtain ⟨h1, h2⟩ := eI r x h.2
  refine ⟨fun y hy => ?_, List.pairwise_cons.mpr ⟨h1, h2⟩⟩
  rcases List.mem_cons.mp hy with rfl | hy
  ·exact px
  ·exact ib px (h1 y hy)
theorem eJ : ∀ {l : List Str}, sortedS l = true → l.Pairwise leS
 | [], _ => List.Pairwise.nil
 | x :: r, h => List.pairwise_cons.mpr (eI r x h)
theorem eL : ∀ {xs ys : List Str}, xs.Pairwise leS → ys.Pairwise leS → xs.Nodup → ys.Nodup → (∀ x, x ∈ xs ↔ x ∈ ys) → xs = ys
 | [], [], _, _, _, _, _ => rfl
 | [], y :: ys, _, _, _, _, h => nomatch (h y).mpr (List.mem_cons_self ..)
 | x :: xs, [], _, _, _, _, h => nomatch (h x).mp (List.mem_cons_self ..)
 | x :: xs, y :: ys, px, py, nx, ny, h => by
  obtain ⟨p1, p2⟩ := List.pairwise_cons.mp px
  obtain ⟨q1, q2⟩ := List.pairwise_cons.mp py
  obtain ⟨n1, n2⟩ := List.nodup_cons.mp nx
  obtain ⟨m1, m2⟩ := List.nodup_cons.mp ny
  have e : x = y := by
   rcases List.mem_cons.mp ((h x).mp (List.mem_cons_self ..)) with z | z
   ·exact z
   ·rcases List.mem_cons.mp ((h y).mpr (List.mem_cons_self ..)) with w | w
    ·exact w.symm
    ·exact jd (p1 y w) (q1 x z)
  subst e
  congr 1
  refine eL p2 q2 n2 m2 fun z => ⟨fun hz => ?_, fun hz => ?_⟩
  ·rcases List.mem_cons.mp ((h z).mp (List.mem_cons_of_mem _ hz)) with e | e
   ·subst e
    exact absurd hz n1
   ·exact e
  ·rcases List.mem_cons.mp ((h z).mpr (List.mem_cons_of_mem _ hz)) with e | e
   ·subst e
    exact absurd hz m1
   ·exact e
theorem ei {xs ys : List Str} (h1 : sortedS xs = true) (h2 : sortedS ys = true) (n1 : xs.Nodup) (n2 : ys.Nodup) (h : ∀ x, x ∈ xs ↔ x ∈ ys) : xs = ys := eL (eJ h1) (eJ h2) n1 n2 h
abbrev FT := List (Str × (Int × Int))
abbrev kvF (l : FT) : List (Key × D) := l.map fun p => (.inr p.1, frD p.2)
def bR (l : FT) : List Str := l.map (·.1)
structure Tab (l : FT) (f : Str → Option (Int × Int)) : Prop where
 pw : (bR l).Pairwise leS
 nd : (bR l).Nodup
 eq : ∀ k, l.lookup k = f k
theorem je {l : FT} {k : Str} : (l.lookup k).isSome = true ↔ k ∈ bR l := by
 induction l with
 | nil => simp [bR]
 | cons p l ih =>
  obtain ⟨g, v⟩ := p
  rw [List.lookup_cons]
  by_cases c : k = g
  ·subst c
   simp [bR]
  ·have e : (k == g) = false := by simpa using c
   rw [e]
   show (l.lookup k).isSome = true ↔ k ∈ g :: bR l
   rw [ih, List.mem_cons]
   exact ⟨.inr, fun z => z.elim (fun y => absurd y c) id⟩
def ie (f : Str → Option (Int × Int)) (k : Str) : Int × Int := (f k).getD (0, 1)
def gA (p : Int × Int) : Prop := 0 < p.2 ∧ Int.gcd p.1 p.2 = 1
theorem ig {t b : Int} (h : 0 < b) : gA (fm t b) := by
 obtain ⟨k, e, hk, g, _⟩ := fX (t := t) h
 exact ⟨by rw [e]; omega, by rw [e]; exact g⟩
theorem jf : gA (0, 1) := ⟨by decide, by decide⟩
abbrev lk (l : FT) : Str → Option (Int × Int) := fun k => l.lookup k
theorem jg {x : W} {m : Me} {P Q : D → Prop} (h : look x m P) (k : ∀ d, P d → Q d) : look x m Q := by
 cases x with
 | v d => exact k d h
 | loc n =>
  have h : cO m[n]? P := h
  show cO m[n]? Q
  generalize m[n]? = o at h ⊢
  cases o with
  | none => exact h.elim
  | some mo => cases mo <;> first | exact k _ h | exact h.elim
theorem f5 {k : Str} : ∀ {l : FT}, dg (kvF l) (.inr k) = (l.lookup k).map frD
 | [] => rfl
 | (g, v) :: l => by
  rw [List.lookup_cons]
  by_cases c : k = g
  ·subst c
   simp [dg, kvF, List.find?_cons]
  ·have e : (k == g) = false := by simpa using c
   rw [e]
   have z : dg (kvF ((g, v) :: l)) (.inr k) = dg (kvF l) (.inr k) := by
    have ne : ¬ (Sum.inr g : Key) = .inr k := fun z => c (Sum.inr.inj z).symm
    simp [dg, kvF, List.find?_cons, ne]
   rw [z, f5]
section
theorem dh : ∀ {l : FT} {Q : List Str → Prop}, Q (bR l) → gZ (kvF l) Q
 | [], _, h => h
 | p :: l, Q, h => dh (l := l) (Q := fun xs => Q (p.1 :: xs)) h
end
section
variable {X : Cx} {E : XK}
theorem bS (K : Frag) (i : Nat) {x f : Str} {p pos : Pos} (hN : X.N[i]? = some x := by rfl) (hv : Vis X.env.scope x := by first | exact Or.inl rfl | exact Or.inr (Or.inl rfl) | exact Or.inr (Or.inr rfl)) (hd : (x == ("__debug__" : Str)) = false := by decide) (hcd : (x == ("__classdict__" : Str)) = false := by decide)
  (hb : attributeBase (.Name x p) f X.env (eval (.Name x p) X.env) = eval (.Name x p) X.env := by rfl) (hK : X.K = K := by rfl) : DE X E (.Attribute (.Name x p) f pos) (tOf K f (tV i)) := hK ▸ m8 (dv i hN hv hd hcd) hb
theorem jS {e : Expr} {te : DTE} {p pos : Pos} (hm : X.mg "dict" = none) (he : DE X E e te) (hg : Gl X "dict" := by rfl) (hs : starEach [e] X.env = (false, eval e X.env) :: starEach [] X.env := by rfl) (hpl : (backTo pos (starEach [] X.env)).any (·.1) = false := by rfl) :
  DE X E (.Call (.Name "dict" p) [e] [] pos) (fun en m Q Qx => te en m (fun x m1 => look x m1 fun d => jN d fun kvs => Q (.loc m1.length) (m1 ++ [.dic kvs])) Qx) := by
 obtain ⟨t1, p1, k1⟩ := he.ex
 refine ⟨_, pe_callTy call_dictD hg hm (by decide +kernel) (pa_cons p1 pa_nil hs) (by decide) (by decide) hs hpl, fun B μ en m σ H Q Qx QV R hx T k => ?_⟩
 refine k1 B μ en m σ H _ Qx _ R hx T fun B1 μ1 m1 H1 x v s1 R1 r q => ?_
 obtain ⟨d, td, q⟩ := aN R1.mem r q
 obtain ⟨a, vs, kvs, rfl, hd, rk, q⟩ := fk td q
 refine ⟨a, vs, rfl, hd, fun p np => ?_⟩
 have kp : ∀ b o, b ≠ p → H1 b = some o → upd H1 p (.dK vs) b = some o := fun b o c e => by rw [upd_ne c]; exact e
 have sl := Stp.push R1.mem np (m := .dic kvs) kp
 have st := s1.trans R1.mem sl R.mem.le
 have mo := R1.mem.push np (m := .dic kvs) (fun a o e => kp a o (ne_of_none (R1.mem.le a o e) np) (R1.mem.le a o e)) kp ⟨vs, upd_same, rk⟩
 refine k _ _ _ _ (.loc m1.length) _ st (R.stp st mo) ⟨p, rfl, ?_⟩ q
 rw [← R1.mem.len]
 simp
end
theorem jh (l : FT) : (kvF l).map (fun kv => kD kv.1) = (bR l).map D.str := by
 unfold kvF bR
 rw [List.map_map, List.map_map]
 rfl
theorem Tab.congr {l : FT} {f g : Str → Option (Int × Int)} (h : Tab l f) (e : ∀ k, f k = g k) : Tab l g := ⟨h.pw, h.nd, fun k => (h.eq k).trans (e k)⟩
structure OkT (l : FT) : Prop where
 nd : (bR l).Nodup
 low : ∀ k p, l.lookup k = some p → gA p
 sm : ∀ k p, l.lookup k = some p → gz p
theorem OkT.get {l : FT} (h : OkT l) (k : Str) : gA (ie (lk l) k) ∧ gz (ie (lk l) k) := by
 unfold ie
 cases e : lk l k with
 | none => exact ⟨jf, by decide, by decide⟩
 | some p => exact ⟨h.low k p e, h.sm k p e⟩
structure OkB (l : FT) : Prop where
 nd : (bR l).Nodup
 low : ∀ k p, l.lookup k = some p → gA p
 sz : ∀ k p, l.lookup k = some p → szF mf p
theorem OkT.b {l : FT} (h : OkT l) : OkB l := ⟨h.nd, h.low, fun k p e => (fZ (h.sm k p e)).mono (by decide)⟩
theorem OkB.get {l : FT} (h : OkB l) (k : Str) : gA (ie (lk l) k) ∧ szF mf (ie (lk l) k) := by
 unfold ie
 cases e : lk l k with
 | none => exact ⟨jf, (fZ (p := (0, 1)) ⟨by decide, by decide⟩).mono (by decide)⟩
 | some p => exact ⟨h.low k p e, h.sz k p e⟩
section
variable {X : Cx} {E : XK} {C : Addr} {k : Nat}
structure GmMk (P : Program) (w : World) (K : Frag) (mg : Str → Option Value) (base : Heap) (k : Nat) (C : Addr) (m : Str) (ks : List Str) (sp : SpD) : Prop where
 cls : Cls K C
 ex : ∃ f fd ps g, Meth K C m f ∧ KBn K fd ps 1 ks g (fun vs zs => vs ++ zs) ∧ FnOk P w K mg base (L2.CX P w) k f fd ps (af K sp)
end
def RWps (K : Frag) (B : Hp) (μ : List Addr) : List (V × V) → List (W × W) → Prop
 | [], [] => True
 | p :: ps, z :: zs => (RW K B μ p.1 z.1 ∧ RW K B μ p.2 z.2) ∧ RWps K B μ ps zs
 | _, _ => False
theorem RWps.to {K : Frag} {B B' : Hp} {μ μ' : List Addr} (s : Same B B') (p : μ <+: μ') : ∀ {ps : List (V × V)} {zs : List (W × W)}, RWps K B μ ps zs → RWps K B' μ' ps zs
 | [], [], _ => trivial
 | _ :: _, _ :: _, h => ⟨⟨RW.to s p h.1.1, RW.to s p h.1.2⟩, RWps.to s p h.2⟩
 | [], _ :: _, h => h
 | _ :: _, [], h => h
abbrev DTP := En → Me → (List (W × W) → Me → Prop) → QX → Prop
section
variable {X : Cx} {E : XK}
structure DPs (X : Cx) (E : XK) (pos : Pos) (keys : List (Option Expr)) (values : List Expr) (T : DTP) : Prop where
 ex : ∃ trs, PPs X pos keys values trs ∧ trs.length = keys.length ∧ ∀ B μ en m σ H (Q : List (W × W) → Me → Prop) (Qx : QX) (QV : List (V × V) → Hp → Prop), Rel X.K B μ en m σ H → ExOf X.K E B μ m H Qx → T en m Q Qx →
  (∀ B' μ' m' H' zs ps, Stp B μ m H B' μ' m' H' → Rel X.K B' μ' en m' σ H' → RWps X.K B' μ' ps zs → ps.length = keys.length → Q zs m' → QV ps H') → tPairs trs σ H QV
end
section
variable {P : Program} {w : World} {K : Frag} {mg : Str → Option Value} {base : Heap}
end
section
variable {P : Program} {w : World} {K : Frag} {mg : Str → Option Value} {base : Heap}
end
section
variable {P : Program} {w : World} {K : Frag} {mg : Str → Option Value} {base : Heap}
def mj (p : Int × Int) : Prop := p.1.natAbs ≤ 10 ^ 12 ∧ p.2.natAbs ≤ 10 ^ 12
def ji : SpD := fun ws m Q _ => ∃ n, ws = [.loc n] ∧ m[n]? = some .bag ∧ ∀ p : Int × Int, gA p → mj p → Q (.v (frD p)) m
abbrev bh : Stmt := top 11
abbrev fq : List Str := ["_law_bag_here", "_law_size"]
abbrev bL : List Str := ["_law_bag_here"]
theorem cp : FnScope fq bL (defScope bh) := ⟨rfl, rfl, rfl, by decide +kernel, rfl, by decide +kernel, by decide +kernel⟩
theorem ej (G : Gs K mg "_law_ratio" bh) (g__law_of : Gd P w K mg base (L2.CX P w) 2 "_law_of" cf (af K i4)) (g__law_pull : Gd P w K mg base (L2.CX P w) 1 "_law_pull" aU (af K b8)) (g__law_low : Gd P w K mg base (L2.CX P w) 1 "_law_low" cC (af K jb)) : Gd P w K mg base (L2.CX P w) 3 "_law_ratio" bL (af K ji) := by
 refine Fo.gd (iI cp (fun ws m Q Qx h => ?_) (fun f cdv A outer s H E hr => ⟨_, (ac (bb (i := 1) cp.nd rfl (.inl rfl) (aA g__law_of (hr.mono (by omega)) (bj (takes_of rfl rfl rfl rfl)) (aa (dv 0) (aa (a7 (aa aq (aa aq (aa aq (aa (aT iK (aT lY aq aq) aq) ab))))) ab))))
  (ad (az (aA g__law_low (hr.mono (by omega)) (bj (takes_of rfl rfl rfl rfl)) (aa (aT iK (aA g__law_pull (hr.mono (by omega)) (bj (takes_of rfl rfl rfl rfl)) (aa (dv 0) (aa (aT aQ (aT ki aq (dv 1)) aq) ab))) (dv 1)) (aa (aT aQ aq (aA g__law_pull (hr.mono (by omega)) (bj (takes_of rfl rfl rfl rfl)) (aa (dv 0) (aa (aA g__law_of (hr.mono (by omega)) (bj (takes_of rfl rfl rfl rfl)) (aa (dv 0) (aa (a7 (aa aq (aa aq (aa (dv 1) ab)))) ab))) ab)))) ab)))))), fun ws m Qd Qx h => ?_⟩) [] []) G (fun _ _ _ _ _ _ us hl => match us, hl with | [_], _ => rfl)
 ·obtain ⟨_, rfl, _⟩ := h
  rfl
 obtain ⟨n, rfl, hm, q⟩ := h
 have ln := sizeLine_eq
 refine ⟨⟨by decide, by decide, by decide⟩, ?_⟩
 refine ⟨by show 4 ≤ sizeLine; omega, n, _, [.int 4, .int 12, .int 1000, .int (10 ^ 12 - 1)], rfl, hm, .inl rfl, by simp, Nat.lt_of_le_of_lt (show 4 ≤ 4 by decide) (by decide), fun d hd => ?_⟩
 obtain ⟨z, rfl, z1, z2⟩ : ∃ z : Int, d = .int z ∧ 1 ≤ z ∧ z < 10 ^ 12 := by
  simp only [List.mem_cons, List.not_mem_nil, or_false] at hd
  rcases hd with rfl | rfl | rfl | rfl
  ·exact ⟨_, rfl, by decide, by decide⟩
  ·exact ⟨_, rfl, by decide, by decide⟩
  ·exact ⟨_, rfl, by decide, by decide⟩
  ·exact ⟨_, rfl, by decide, by decide⟩
 have zs : z.natAbs < 10 ^ 40 := by omega
 refine ⟨jc (by decide) zs, ?_⟩
 refine ⟨n, _, rfl, hm, by omega, by omega, fun a a0 a1 => ?_⟩
 refine ⟨by show 3 ≤ sizeLine; omega, n, _, [.int 1, .int 6, .int z], rfl, hm, .inl rfl, by simp, Nat.lt_of_le_of_lt (show 3 ≤ 3 by decide) (by decide), fun d hd => ?_⟩
 obtain ⟨y, rfl, y1, y2⟩ : ∃ z : Int, d = .int z ∧ 1 ≤ z ∧ z < 10 ^ 12 := by
  simp only [List.mem_cons, List.not_mem_nil, or_false] at hd
  rcases hd with rfl | rfl | rfl
  ·exact ⟨_, rfl, by decide, by decide⟩
  ·exact ⟨_, rfl, by decide, by decide⟩
  ·exact ⟨_, rfl, z1, z2⟩
 refine ⟨n, _, rfl, hm, by omega, by omega, fun b b0 b1 => ?_⟩
 have e0 : 0 < 1 + b := by omega
 have lg := log2_lt (i := 1 + b) (k := 13) (by omega)
 refine ⟨a - z, 1 + b, rfl, e0, by omega, List.prefix_refl _, q _ (ig e0) ?_⟩
 obtain ⟨k, hk, k0, kg, kt, kb⟩ := fX (t := a - z) e0
 exact ⟨by omega, by rw [hk]; omega⟩
end
abbrev k9 : Str := "parts"
structure InsC (K : Frag) (C : Addr) : Prop where
 cl : Cls K C
 ha : PySem.W.findIn K (.ref C) "__class__" = some (some (.builtin "object.__class__"))
 hn : PySem.W.specialIn K (.builtin "object.__class__") "__get__" = some (some (.builtin "getset_descriptor.__get__"))
 ht : PySem.W.takesIn K (.builtin "object.__class__") = some true
 hm : PySem.W.mroIn K C (.type "object") = some true
def lb (K : Frag) : F2 := fun x c Q => match x, c with
 | .obj C _, .fn T => ∃ b, InsC K C ∧ PySem.W.kitOne K (.ref C) (.ref T) = some b ∧ Q (.bl b)
 | .dic _, .fn T => ∃ b, PySem.W.kitOne K (.type "dict") (.ref T) = some b ∧ Q (.bl b)
 | _, _ => False
section
variable {X : Cx} {E : XK}
theorem mq : SC X (rIsi X.K) (c2 (lb X.K)) := SC.of2 fun B μ m H v u d e Q QV M td te q k => by
 cases d with
 | obj C fs =>
  cases e with
  | fn T =>
   obtain ⟨a, dx, vs, rfl, hi, _⟩ := td
   cases (show Rv X.K B u (.fn T) from te)
   obtain ⟨b, ic, hk, q⟩ := q
   exact ⟨.ref a, .ref T, .ref C, .ref T, b, rfl, .own T, .base (.ins hi ic.cl ic.ha ic.hn ic.ht ic.hm), hk, SO.pure M k (.bl _) q⟩
  | _ => exact q.elim
 | dic kvs =>
  cases e with
  | fn T =>
   have ty := Top.ty M.le td (s := "dict") rfl
   cases (show Rv X.K B u (.fn T) from te)
   obtain ⟨b, hk, q⟩ := q
   exact ⟨v, .ref T, _, .ref T, b, rfl, .own T, ty, hk, SO.pure M k (.bl _) q⟩
  | _ => exact q.elim
 | _ => exact q.elim
theorem mr {e e2 : Expr} {ta : DTA} {p pos : Pos} (hm : X.mg "isinstance" = none) (ha : DA X E [e, e2] ta) (hg : Gl X "isinstance" := by rfl) (he : starEach [e, e2] X.env = (false, eval e X.env) :: starEach [e2] X.env := by rfl) (hpl : (backTo pos (starEach [e2] X.env)).any (·.1) = false := by rfl) : DE X E (.Call (.Name "isinstance" p) [e, e2] [] pos) (tCa (c2 (lb X.K)) ta) :=
 gp call_isi mq hm (by decide +kernel) ha hg (by decide) (by decide) he hpl
end
section
variable {P : Program} {w : World} {K : Frag} {mg : Str → Option Value} {base : Heap} {C f : Addr} {fd : FuncData} {q : Str}
end
structure SuScope (N P : List Str) (sc : Scope) : Prop where
 kind : sc.kind = .function
 co : sc.isCoroutine = false
 gen : sc.isGenerator = false
 nd : N.Nodup
 pre : N.take P.length = P
 par : ∀ x ∈ P, sc.names.lookup x = some .local
 nocell : ∀ y ∈ sc.names, y.2 ≠ .cell
 free : ∀ y ∈ sc.names, y.2 = .free → y.1 = "__class__"
 sup : sc.names.lookup ("super" : Str) = some .globalImplicit
 cls : sc.names.lookup ("__class__" : Str) = some .free
def cxS (CX : CXT) (P : Program) (w : World) (K : Frag) (mg : Str → Option Value) (base : Heap) (N : List Str) (qual : Str) (scope : Scope) (f : Addr) (cd : Value) (cc : Addr) (A : Around) (outer : List Env) (s : Shared) (H : Hp) (E : XK) : Cx where
 prog := P
 w := w
 K := K
 mg := mg
 base := base
 A := A.deeper (PySem.W.ksEnv qual scope s.heap.objs.size f cd cc)
 N := N
 s_0 := s
 H_0 := H
 env := PySem.W.ksEnv qual scope s.heap.objs.size f cd cc
 outer := outer
 stack := PySem.W.ksEnv qual scope s.heap.objs.size f cd cc :: outer
 ex := []
 calm := true
 fn := fun _ => false
 pn := []
 xe := fun e s' => wpAny (model P w) (A.deeper (PySem.W.ksEnv qual scope s.heap.objs.size f cd cc)) (leaving (PySem.W.ksEnv qual scope s.heap.objs.size f cd cc) e) (fun _ s'' => CX outer H s E e s'') (fun e' s'' => CX outer H s E e' s'') s'
theorem gB {α β : Type} [BEq α] [LawfulBEq α] {k : α} {v : β} {l : List (α × β)} (nd : (l.map (·.1)).Nodup) (h : (k, v) ∈ l) : l.reverse.lookup k = some v := by
 have nd2 : (l.reverse.map (·.1)).Nodup := by rw [List.map_reverse]; exact List.pairwise_reverse.mpr (nd.imp fun h z => h z.symm)
 have h2 : (k, v) ∈ l.reverse := List.mem_reverse.mpr h
 generalize l.reverse = r at nd2 h2
 induction r with
 | nil => cases h2
 | cons p r ih =>
  obtain ⟨a, b⟩ := p
  rw [List.map_cons, List.nodup_cons] at nd2
  rw [List.lookup_cons]
  rcases List.mem_cons.mp h2 with e | e
  ·cases e
   rw [BEq.rfl]
  ·have c : (k == a) = false := by
    rw [beq_eq_false_iff_ne]
    rintro rfl
    exact nd2.1 (List.mem_map.mpr ⟨_, e, rfl⟩)
   rw [c]
   exact ih nd2.2 e
section
variable {CX : CXT} {P : Program} {w : World} {K : Frag} {mg : Str → Option Value} {base : Heap} {N ps : List Str} {qual : Str} {scope : Scope} {f cc : Addr} {cd : Value} {A : Around} {outer : List Env} {s : Shared} {H : Hp} {E : XK} {us : List Value} {vs : List V}
theorem gC {h1 : Heap} {tk : Nat} (S : SuScope N ps scope) (hd : A.handled = none) (e0 : Env0 P w K mg base A outer s H) (hl : vs.length = ps.length) (r : Vals vs us) (hcc : ∃ o, K.lookup cc = some o ∧ ∃ v, o.data = .cell v)
  (hns : h1.Ns s.heap.objs.size (fun x => (ps.zip us).reverse.lookup x)) (hk : ∀ b o, s.heap.get? b = some o → h1.get? b = some o) :
  Inv (cxS CX P w K mg base N qual scope f cd cc A outer s H E) [] (L2.start N vs) H { s with heap := h1, toks := tk } := by
 obtain ⟨oc, hoc, vc, hdc⟩ := hcc
 have bc := e0.mod.kin _ _ hoc
 have cells : ∀ {x : Str} {c : Addr}, ([("__class__", cc)] : List (Str × Addr)).lookup x = some c → x = "__class__" ∧ c = cc := fun {x c} h => by
  rw [List.lookup_cons] at h
  split at h
  ·rename_i z
   exact ⟨by simpa using z, (Option.some.inj h).symm⟩
  ·cases h
 have noA : ∀ b : Addr, b ∉ (cxS CX P w K mg base N qual scope f cd cc A outer s H E).ex := fun b z => absurd (show b ∈ ([] : List Addr) from z) (by simp)
 refine ⟨⟨e0.mod, S.kind, rfl, rfl, Nat.le_refl _, fun y z c h1 h2 => (cells h1).1.trans (cells h2).1.symm, fun y hy => ?_, fun y c z h => (nomatch z), fun _ => hd, Around.frames_deeper e0.frames, .inr ⟨rfl, rfl⟩, fun b z => absurd z (noA b), e0.bs, e0.bsz, fun b _ _ => noA b, fun b z => absurd z (noA b), e0.funs, e0.frf⟩,
  rfl, e0.bare, Un.kept hk, ⟨_, hns, fun i y v h1 h2 h3 => ?_⟩, fun y c h => ?_, e0.hok.fresh (Nat.le_refl _), fun y c h => ?_, fun p hp => absurd (show p ∈ ([] : List (Addr × Obj)) from hp) (by simp), e0.hok.kept hk, ?_⟩
 ·have hy : scope.names.lookup y = some .cell ∨ scope.names.lookup y = some .free := hy
  rcases hy with hy | hy
  ·exact absurd rfl (S.nocell _ (PySem.mem_of_lookup hy))
  ·have e : y = "__class__" := S.free _ (PySem.mem_of_lookup hy) rfl
   subst e
   exact ⟨cc, rfl⟩
 ·have hi : i < vs.length := by
   unfold L2.start at h2
   by_cases hi : i < vs.length
   ·exact hi
   ·rw [List.getElem?_append_right (by simpa using hi)] at h2
    rw [List.getElem?_replicate] at h2
    split at h2 <;> cases h2
  have ha : vs[i]? = some v := by
   unfold L2.start at h2
   rw [List.getElem?_append_left (by simpa using hi), List.getElem?_map] at h2
   cases e : vs[i]? with
   | none => rw [e] at h2; cases h2
   | some a => rw [e] at h2; cases h2; rfl
  obtain ⟨u, hu, rv⟩ := r.get ha
  have hp : ps[i]? = some y := by
   rw [← S.pre, List.getElem?_take_of_lt (by omega)]; exact h1
  have ndP : ps.Nodup := by rw [← S.pre]; exact S.nd.sublist (List.take_sublist _ _)
  have hlen : us.length = ps.length := by rw [← r.length, hl]
  refine ⟨u, rv, .inl ⟨S.par y (List.mem_of_getElem? hp), ?_⟩⟩
  refine gB ?_ (List.mem_of_getElem? (i := i) ?_)
  ·rw [List.map_fst_zip (by omega)]
   exact ndP
  ·rw [List.getElem?_zip_eq_some]
   exact ⟨hp, hu⟩
 ·obtain ⟨_, rfl⟩ := cells h
  exact ⟨vc, oc, hk _ _ (e0.bs _ _ bc).1, hdc⟩
 ·obtain ⟨_, rfl⟩ := cells h
  exact (e0.bs _ _ bc).2
 ·unfold L2.start
  show _ = N.length
  have hpl : ps.length ≤ N.length := by have := congrArg List.length S.pre; rw [List.length_take] at this; omega
  rw [List.length_append, List.length_map, List.length_replicate]
  omega
end
structure PAt (X : Cx) (body : List Stmt) (st : Stmt) (t : TS) : Prop where
 run : ∀ (pins : List (Addr × Obj)) (s : Shared) (σ : L2.St) (H : Hp) (D : Ends), Inv X pins σ H s → t D σ H → _root_.PySem.wpAt (model X.prog X.w) X.A (.func body X.env) (exec st X.env) (SP X pins D) X.xe s
theorem jj {CX : CXT} {P : Program} {w : World} {K : Frag} {mg : Str → Option Value} {base : Heap} {k : Nat} {f cc : Addr} {name qual : Str} {params : Arguments} {st0 : Stmt} {rest : List Stmt} {scope : Scope} {dV kV doc pm cdv ct oc : Value} {an od : Option Addr}
  {osl : Array (Option Value)} {N ps : List Str} {sp : Sp} (lk : K.lookup f = some ⟨oc, od, .func (PySem.W.ksFn name qual params (st0 :: rest) scope dV kV doc pm an cdv ct cc), osl⟩) (hcd : PySem.W.codeIn K cdv qual = true) (S : SuScope N ps scope)
  (hcc : ∃ o, K.lookup cc = some o ∧ ∃ v, o.data = .cell v) (len : ∀ vs H Q E, sp vs H Q E → vs.length = ps.length)
  (hbody : ∀ (A : Around) (outer : List Env) (s : Shared) (H : Hp) (vs : List V) (Q : VK) (E : XK), Room k (A.deeper (PySem.W.ksEnv qual scope s.heap.objs.size f cdv cc)) → sp vs H Q E →
   ∃ t u, PAt (cxS CX P w K mg base N qual scope f cdv cc A outer s H E) (st0 :: rest) st0 t ∧ PSs (cxS CX P w K mg base N qual scope f cdv cc A outer s H E) rest u ∧ tSeq t u { nx := fun _ H' => Q .non H', rt := Q } (L2.start N vs) H) :
  FnOk P w K mg base CX (k + 1) f (PySem.W.ksFn name qual params (st0 :: rest) scope dV kV doc pm an cdv ct cc) ps sp := by
 refine ⟨len, fun A outer s H args us vs Q E hr e0 hb r hsp => ?_⟩
 have hl := len _ _ _ _ hsp
 have KX : K.In s.heap := e0.mod.kin.keeps fun b o e => (e0.bs b o e).1
 have lim : s.heap.NoLimit := e0.mod.nolimit.keeps fun b o e => (e0.bs b o e).1
 refine ks_codeAny_call_defAt hr.depth (KX _ _ lk) rfl lim (PySem.W.codeRec_of KX hcd) rfl hb S.nocell (fun y hy => S.par _ (List.of_mem_zip (a := y.1) (b := y.2) hy).1) (fun h1 hns hk => ?_) S.co S.gen S.kind
 obtain ⟨t, u, ht, hu, hq⟩ := hbody A outer s H vs Q E (hr.deeper _) hsp
 have I : Inv (cxS CX P w K mg base N qual scope f cdv cc A outer s H E) [] (L2.start N vs) H { s with heap := h1, toks := s.toks + (ps.zip us).length } := gC S hr.hd e0 hl r hcc hns hk
 have fin : ∀ {σ' : L2.St} {H' : Hp} {v : V} {u : Value} {s' : Shared}, Inv (cxS CX P w K mg base N qual scope f cdv cc A outer s H E) [] σ' H' s' → RelV v u → Q v H' → CE outer P w H s Q u s' :=
  fun {σ' H' v u s'} J rv q => ⟨v, H', J.os, J.bare, J.base, J.hok, rv, q⟩
 have done : ∀ (fl : Flow) (s' : Shared), SP (cxS CX P w K mg base N qual scope f cdv cc A outer s H E) [] { nx := fun _ H' => Q .non H', rt := Q } fl s' → CR CX outer P w H s Q E (.ok (.ret (match fl with | .ret v => v | _ => .none))) s' := fun fl s' hs => by
  cases fl with
  | ret u =>
   obtain ⟨v, σ', H', J, rv, q⟩ := hs
   exact fin J rv q
  | next =>
   obtain ⟨σ', H', J, q⟩ := hs
   exact fin (v := V.non) (u := Value.none) J rfl q
  | brk => obtain ⟨_, _, _, q⟩ := hs; exact q.elim
  | cont => obtain ⟨_, _, _, q⟩ := hs; exact q.elim
 refine ks_wpAt_execs_cons (ks_wpAt_mono (ht.run [] _ (L2.start N vs) H _ I hq) (fun fl s' hs => ?_) fun e s' hs => hs)
 cases fl with
 | next =>
  obtain ⟨σ', H', J, q⟩ := hs
  exact wpAt_of_wpAny (wpAny_mono (hu.run [] s' σ' H' _ J q) (fun fl s' hs => done fl s' hs) fun e s' hs => hs)
 | ret u => exact done (.ret u) s' hs
 | brk => exact done .brk s' hs
 | cont => exact done .cont s' hs
structure FunS (K : Frag) (file : Str) (x qual : Str) (params : Arguments) (body : List Stmt) (scope : Scope) (D : Addr) (f cda cc : Addr) (fd : FuncData) : Prop where
 ex : ∃ (oc : Value) (od : Option Addr) (kV doc pm : Value) (an : Option Addr) (ct : Value) (osl : Array (Option Value)),
  fd = PySem.W.ksFn x qual params body scope .none kV doc pm an (.ref cda) ct cc ∧ K.lookup f = some ⟨oc, od, .func fd, osl⟩
 code : PySem.W.codeIn K (.ref cda) qual = true
 cell : ∃ cl cld csl, K.lookup cc = some ⟨cl, cld, .cell (some (.ref D)), csl⟩
 file : ∃ ccl cdd vs ccs tf, K.lookup cda = some ⟨ccl, cdd, .fields vs, ccs⟩ ∧ vs[2]? = some (.str file tf)
 cls : ∃ cdD, PySem.W.clsIn K D = some cdD
 kp : PySem.W.keepIn K (.ref f) = true
theorem FunS.bindsN {K : Frag} {file x qual : Str} {params : Arguments} {body : List Stmt} {scope : Scope} {D f cda cc : Addr} {fd : FuncData} {ps : List Str} (F : FunS K file x qual params body scope D f cda cc fd)
  (h : ∀ (kV doc pm : Value) (an : Option Addr) (ct : Value) (us : List Value), us.length = ps.length → bindArgs (PySem.W.ksFn x qual params body scope .none kV doc pm an (.ref cda) ct cc) ⟨us, []⟩ = pure (ps.zip us)) : Binds K fd ps [] := by
 obtain ⟨oc, od, kV, doc, pm, an, ct, osl, rfl, lk⟩ := F.ex
 exact .all (h kV doc pm an ct)
structure SupM (K : Frag) (C D : Addr) (m : Str) (f2 : Addr) : Prop where
 st : PySem.W.nsIn K PySem.cStatics "thirdparty.any" = some none
 sub : PySem.W.mroIn K C (.ref D) = some true
 at_ : PySem.W.ks_superIn K C D m = some (some (.ref f2))
 fn : PySem.W.fnIn K f2 = true
 ty : PySem.W.typeIn K (.ref f2) = some (.type "function")
def kw (C : Addr) (sp : Sp) (E : XK) (t : TA) : TS := fun D σ H => ∃ x dx fs, σ[0]? = some (some (.ref x)) ∧ H x = some (.ins C dx fs) ∧ t σ H fun vs H1 => sp (.ref x :: vs) H1 (fun _ H2 => D.nx σ H2) E
section
open PySem.W
variable {CX : CXT} {P : Program} {w : World} {K : Frag} {mg : Str → Option Value} {base : Heap} {N ps : List Str} {name qual file : Str} {params : Arguments} {body : List Stmt} {scope : Scope} {C D f f2 cda cc : Addr} {A : Around} {outer : List Env} {s0 : Shared} {H0 : Hp} {E0 E : XK} {fd fd2 : FuncData} {ps2 : List Str} {sp2 : Sp} {k : Nat} {m : Str} {ar : Arg}
theorem ft {p0 p1 ap pos pos2 : Pos} {e : Expr} {es : List Expr} {t : TA} (S : SuScope N ps scope) (FS : FunS K file name qual params body scope D f cda cc fd) (hp : (params.posonlyargs ++ params.args).head? = some ar) (hN : N[0]? = some ar.arg) (hka : scope.names.lookup ar.arg = some .local)
  (M : SupM K C D m f2) (F2 : FnOk P w K mg base CX k f2 fd2 ps2 sp2) (hb : Binds K fd2 ps2 []) (hr : Room k (A.deeper (ksEnv qual scope s0.heap.objs.size f (.ref cda) cc))) (hx : Passes CX (cxS CX P w K mg base N qual scope f (.ref cda) cc A outer s0 H0 E0) E)
  (ha : PA (cxS CX P w K mg base N qual scope f (.ref cda) cc A outer s0 H0 E0) (e :: es) t) (hm : mg "super" = none) (hfile : ((P.main.file : Str) == file) = true) (htop : (P.main.scope.names.lookup ("super" : Str)).isSome = false) (hat : (m == ("__class__" : Str)) = false)
  (hst : starEach (e :: es) (ksEnv qual scope s0.heap.objs.size f (.ref cda) cc) = (false, eval e (ksEnv qual scope s0.heap.objs.size f (.ref cda) cc)) :: starEach es (ksEnv qual scope s0.heap.objs.size f (.ref cda) cc) := by rfl)
  (hpl : (backTo pos (starEach es (ksEnv qual scope s0.heap.objs.size f (.ref cda) cc))).any (·.1) = false := by rfl)
  (hi : interactive (ksEnv qual scope s0.heap.objs.size f (.ref cda) cc) = false := by rfl) (hsw : swapsWith (.Call (.Attribute (.Call (.Name "super" p0) [] [] p1) m ap) (e :: es) [] pos) none pos2.line (ksEnv qual scope s0.heap.objs.size f (.ref cda) cc) = pure false := by rfl)
  {pl : Sem Bool} (he : eval (.Call (.Attribute (.Call (.Name "super" p0) [] [] p1) m ap) (e :: es) [] pos) (ksEnv qual scope s0.heap.objs.size f (.ref cda) cc) = (do
   let ov ← attributeBase (.Call (.Name "super" p0) [] [] p1) m (ksEnv qual scope s0.heap.objs.size f (.ref cda) cc) (eval (.Call (.Name "super" p0) [] [] p1) (ksEnv qual scope s0.heap.objs.size f (.ref cda) cc))
   standAt ap.atName
   let (g, first) ← holding [ov] (getMethod ov m pl)
   callWith pos g first (backTo pos (starEach (e :: es) (ksEnv qual scope s0.heap.objs.size f (.ref cda) cc))) []) := by rfl) :
  PAt (cxS CX P w K mg base N qual scope f (.ref cda) cc A outer s0 H0 E0) body (.Expr (.Call (.Attribute (.Call (.Name "super" p0) [] [] p1) m ap) (e :: es) [] pos) pos2) (kw C sp2 E t) := by
 obtain ⟨oc, od, kV, doc, pm, an, ct, osl, rfl, lkf⟩ := FS.ex
 obtain ⟨cl, cld, csl, hcell⟩ := FS.cell
 obtain ⟨ccl, cdd, cvs, ccs, tf, hcode, hvs⟩ := FS.file
 obtain ⟨cdD, hD⟩ := FS.cls
 generalize hX : cxS CX P w K mg base N qual scope f (.ref cda) cc A outer s0 H0 E0 = X at ha hx
 have eE : X.env = ksEnv qual scope s0.heap.objs.size f (.ref cda) cc := by rw [← hX]; rfl
 have eA : X.A = A.deeper (ksEnv qual scope s0.heap.objs.size f (.ref cda) cc) := by rw [← hX]; rfl
 have eP : X.prog = P := by rw [← hX]; rfl
 have ew : X.w = w := by rw [← hX]; rfl
 have eK : X.K = K := by rw [← hX]; rfl
 have eN : X.N = N := by rw [← hX]; rfl
 have em : X.mg = mg := by rw [← hX]; rfl
 have eb : X.base = base := by rw [← hX]; rfl
 clear hX
 subst eP ew eK eN em eb
 rw [← eE] at hst hpl hi hsw he
 rw [← eA] at hr
 have hks : X.env.kindOf "super" = some .globalImplicit := by rw [eE]; exact S.sup
 have hkc : X.env.kindOf "__class__" = some .free := by rw [eE]; exact S.cls
 have hkl : X.env.kindOf ar.arg = some .local := by rw [eE]; exact hka
 have efn : X.env.func = some f := by rw [eE]
 have eco : X.env.code = .ref cda := by rw [eE]
 have ecl : X.env.cells.lookup ("__class__" : Str) = some cc := by rw [eE]; rfl
 clear eE eA
 refine ⟨fun pins s σ H DD I ⟨x, dx, fs, h0, hxx, q⟩ => ?_⟩
 obtain ⟨oD, hD1, hD2⟩ : ∃ oD, s.heap.get? D = some oD ∧ oD.data = .cls cdD := by
  unfold clsIn at hD
  split at hD
  ·rename_i c d cd' sl ho
   cases hD
   exact ⟨_, I.kIn _ _ ho, rfl⟩
  ·cases hD
 refine ks_wpAt_Expr_any (ks_wpAt_MethodCall (pl := pl) ?_ he) hi hsw
 refine ks_wpAt_super_base (env := X.env) hks hkc hat efn (I.kIn _ _ lkf) rfl hp eco (I.kIn _ _ hcode) rfl hvs hfile htop ?_
 obtain ⟨mb, hb1, hb2⟩ := I.mod.blt
 refine ks_loadName_global I.ok.kind hks (Calls.loadGlobal_builtin (by rw [I.ok.glob]; exact I.mod.glob.keeps I.bk) hm (by rw [I.ok.blt]; exact hb1.keeps I.bk) ((hb2 "super" (by decide)).trans (show bootBuiltins "super" = some (.type "super") by decide +kernel)) ⟨rfl, ?_⟩)
 refine wpAny_loadName_free I.ok.kind hkc ecl ⟨_, I.kIn _ _ hcell, rfl⟩ ?_
 obtain ⟨mm, hns, hloc⟩ := I.loc
 obtain ⟨u, ru, lk⟩ := hloc 0 ar.arg (.ref x) hN h0 (.inl hkl)
 obtain rfl : u = .ref x := ru
 have hv : mm ar.arg = some (.ref x) := by
  rcases lk with ⟨_, z⟩ | ⟨z, _⟩
  ·exact z
  ·rw [hkl] at z
   rcases z with z | z <;> cases z
 refine wpAny_loadName_local I.ok.kind hkl hns hv ?_
 refine ks_wpAny_isType_cls hD1 hD2 ⟨rfl, ?_⟩
 obtain ⟨mA, O, _⟩ := ins_get I.hok hxx
 obtain ⟨od2, J, hl⟩ := O.look
 obtain ⟨hh, g, d, tk, os⟩ := s
 refine ks_wpAny_call_super hD1 hD2 J.at_ J.cls (fun c e => ?_) (looks_mroIn I.kIn M.sub) (fun h' e1 k1 => ?_)
 ·have z := J.no
  unfold notCls at z
  rw [e] at z
  exact Bool.noConfusion z
 have I1 : Inv X pins σ H ⟨h', g, d, tk, os⟩ := I.kept (t' := tk) k1
 cases hc : clsIn X.K C with
 | none =>
  have z := M.at_
  unfold ks_superIn at z
  rw [hc] at z
  cases z
 | some cd =>
 have hat2 := M.at_
 unfold ks_superIn at hat2
 rw [hc] at hat2
 obtain ⟨of, hof, hofc⟩ : ∃ of, h'.get? f2 = some of ∧ of.cls = .type "function" := by
  have ht' : (X.K.lookup f2).map (·.cls) = some (.type "function") := M.ty
  cases z : X.K.lookup f2 with
  | none => rw [z] at ht'; cases ht'
  | some of => rw [z] at ht'; exact ⟨of, I1.kIn _ _ z, Option.some.inj ht'⟩
 refine ks_wpAny_getMethod_super e1 (looks_opaque I1.kIn M.st) (l₀ := cd.mro) ?_ rfl I1.kIn hat2 hof hofc (ks_ne I.kIn J hc) hat ?_
 ·exact fun A Q E s k q => wpAny_bind ((looks_clsIn I1.kIn hc) A _ E s k (wpAny_pure q))
 have I2 : Inv X pins σ H ⟨h'.push { cls := .type "method", data := .fields #[.ref f2, .ref x] }, g, d, tk + 1, os⟩ := I1.kept (t' := tk + 1) fun b o e => Heap.get?_push_of_some _ e
 have hq : (h'.push { cls := .type "method", data := .fields #[.ref f2, .ref x] }).get? h'.objs.size = some (methodObj (.ref f2) (.ref x)) := Heap.get?_push_at rfl rfl
 have hf1 : FpOk X pins H h'.objs.size := I1.fpOk (Nat.le_refl _) (I1.hok.fresh (Nat.le_refl _))
 have I3 := I2.pinned (fp := [h'.objs.size]) (fun b hb => by rw [List.mem_singleton.mp hb]; exact hf1) (fun b hb => by rw [List.mem_singleton.mp hb]; exact ⟨_, hq, fun v z => by cases z⟩)
 have pinq := mem_pinsAt (List.mem_singleton.mpr rfl) hq
 show wpAny _ _ (callWith pos (.ref h'.objs.size) [] (backTo pos (starEach (e :: es) X.env)) []) _ _ _
 rw [hst]
 refine callWith_of (P := MethP X.K h'.objs.size f2 (.ref x)) (by show ((false || (backTo pos (starEach es X.env)).any (·.1)) || false) = false; rw [hpl]; rfl) (keeps_M M.fn) (Calls.evalArgs_plain ?_)
 have w1 := ha.run pos _ _ σ H _ I3 q
 rw [hst] at w1
 refine thn w1 fun us s4 ⟨vs, H4, I4, r, q4⟩ => ?_
 have p4 := (I4.pin _ (List.mem_append_right _ (List.mem_append_right _ pinq))).1
 refine ⟨⟨p4, I4.kIn⟩, ?_⟩
 have r2 : Vals (.ref x :: vs) (.ref x :: us) := .cons rfl r
 have hl2 : (.ref x :: us).length = ps2.length := by rw [← r2.length]; exact F2.len _ _ _ _ q4
 refine wpAny_call (ks_codeAny_call_bound p4 (codeAny_mono (F2.run X.A X.stack s4 H4 ⟨.ref x :: us, []⟩ (.ref x :: us) (.ref x :: vs) _ E hr I4.env0 (by
  have z := hb s4 (.ref x :: us) I4.kIn (by rw [List.append_nil]; exact hl2)
  rw [List.append_nil] at z
  exact z) r2 q4) fun r s' hq => ?_))
 cases r with
 | error e => exact hx _ σ H4 s4 e s' I4 hq
 | ok fl =>
  cases fl with
  | ret u =>
   obtain ⟨v, H5, I5, _, q5⟩ := I4.after hq
   exact ⟨σ, H5, I5.unpinned, q5⟩
  | next => exact False.elim hq
  | brk => exact False.elim hq
  | cont => exact False.elim hq
end
def nh (C : Addr) (sp : SpD) (ta : DTA) : DTS := fun en m N => ∃ n fs, En.get en 0 = some (.loc n) ∧ m[n]? = some (.ins C fs) ∧ ta en m (fun xs m1 => sp (.loc n :: xs) m1 (fun _ m2 => N.nx en m2) N.xc) N.xc
theorem gD {X : Cx} {E : XK} {C : Addr} {sp : SpD} {ta : DTA} {es : List Expr} (ha : DA X E es ta) : ∃ t, PA X es t ∧ SS X E (kw C (af X.K sp) E t) (nh C sp ta) := by
 obtain ⟨t2, p2, k2⟩ := ha.ex
 refine ⟨t2, p2, fun B μ en m σ H N D R hx T ends => ?_⟩
 obtain ⟨n, fs, he, hm, T⟩ := T
 obtain ⟨v, hv, a, rfl, ha⟩ := R.env 0 _ (En.get_some he)
 obtain ⟨dx, vs, hH, rf⟩ := R.mem.at_ n a _ ha hm rfl
 refine ⟨a, dx, vs, hv, hH, ?_⟩
 refine k2 B μ en m σ H _ N.xc _ R hx T fun B2 μ2 m2 H2 xs us s2 R2 r2 q2 => ?_
 exact ⟨B2, μ2, m2, .loc n :: xs, _, N.xc, R2.mem, .cons ⟨a, rfl, bG s2.pre ha⟩ r2, q2, hx.step s2 R2.mem R.mem.le, fun B3 μ3 m3 H3 z u s3 M3 rz qz => ends.nx B3 μ3 en m3 σ H3 (s2.trans R2.mem s3 R.mem.le) ((R.stp (s2.trans R2.mem s3 R.mem.le) M3)) qz⟩
section
variable {K : Frag} {B : Hp} {μ : List Addr}
theorem RWf.look {f : Str} {y : W} : ∀ {vs : List (Str × V)} {ws : List (Str × W)}, RWf K B μ vs ws → ws.lookup f = some y → ∃ u, vs.lookup f = some u ∧ RW K B μ u y
 | _, _, .nil, h => by cases h
 | _, _, .cons (k := g) (v := v) (vs := vs) r t, h => by
  rw [List.lookup_cons] at h ⊢
  by_cases c : (f == g) = true
  ·rw [c] at h ⊢
   cases h
   exact ⟨_, rfl, r⟩
  ·have c : (f == g) = false := by simpa using c
   rw [c] at h ⊢
   exact RWf.look t h
theorem RWf.look_none {f : Str} : ∀ {vs : List (Str × V)} {ws : List (Str × W)}, RWf K B μ vs ws → ws.lookup f = none → vs.lookup f = none
 | _, _, .nil, h => rfl
 | _, _, .cons (k := g) (v := v) (vs := vs) r t, h => by
  rw [List.lookup_cons] at h ⊢
  by_cases c : (f == g) = true
  ·rw [c] at h
   cases h
  ·have c : (f == g) = false := by simpa using c
   rw [c] at h ⊢
   exact RWf.look_none t h
end
structure GmD (P : Program) (w : World) (K : Frag) (mg : Str → Option Value) (base : Heap) (k : Nat) (C : Addr) (m : Str) (dv : List D) (sp : SpD) : Prop where
 cls : Cls K C
 ex : ∃ f fd ps dvs ds, Meth K C m f ∧ Vals dvs ds ∧ (∀ B : Hp, RvL K B dvs dv) ∧ Binds K fd ps ds ∧ FnOk P w K mg base (L2.CX P w) k f fd ps (af K sp)
theorem RWs.app {K : Frag} {B : Hp} {μ : List Addr} : ∀ {vs us : List V} {xs ys : List W}, RWs K B μ vs xs → RWs K B μ us ys → RWs K B μ (vs ++ us) (xs ++ ys)
 | _, _, _, _, .nil, h => h
 | _, _, _, _, .cons r t, h => .cons r (RWs.app t h)
section
variable {X : Cx} {E : XK} {x : Str} {C : Addr} {k : Nat} {sp : SpD} {e o : Expr} {es : List Expr} {ta : DTA} {p pos apos : Pos}
theorem GmM.d {P : Program} {w : World} {K : Frag} {mg : Str → Option Value} {base : Heap} {mn : Str} (G : GmM P w K mg base k C mn sp) : GmD P w K mg base k C mn [] sp :=
 ⟨G.cls, let ⟨f, fd, ps, a, b, c⟩ := G.ex; ⟨f, fd, ps, [], [], a, .nil, fun _ => .nil, b, c⟩⟩
end
section
variable {P : Program} {w : World} {K : Frag} {mg : Str → Option Value} {base : Heap} {name qual file : Str} {st st0 : Stmt} {rest : List Stmt} {N ps : List Str} {k : Nat} {sp : SpD} {D f cda cc : Addr} {fd : FuncData}
theorem di (FS : FunS K file name qual (defArgs st) (defBody st) (defScope st) D f cda cc fd) (hbd : defBody st = st0 :: rest) (S : SuScope N ps (defScope st)) (ar : ∀ ws m Q Qx, sp ws m Q Qx → ws.length = ps.length)
  (hbody : ∀ (A : Around) (outer : List Env) (s : Shared) (H : Hp) (E : XK), Room k (A.deeper (PySem.W.ksEnv qual (defScope st) s.heap.objs.size f (.ref cda) cc)) →
   ∃ t T0 T1, PAt (cxS (L2.CX P w) P w K mg base N qual (defScope st) f (.ref cda) cc A outer s H E) (defBody st) st0 t ∧ SS (cxS (L2.CX P w) P w K mg base N qual (defScope st) f (.ref cda) cc A outer s H E) E t T0 ∧
    DSs (cxS (L2.CX P w) P w K mg base N qual (defScope st) f (.ref cda) cc A outer s H E) E rest T1 ∧ ∀ ws m Qd Qx, sp ws m Qd Qx → jA T0 T1 (bn N ws) m (iG Qd Qx)) : FnOk P w K mg base (L2.CX P w) (k + 1) f fd ps (af K sp) := by
 obtain ⟨oc, od, kV, doc, pm, an, ct, osl, rfl, lk⟩ := FS.ex
 obtain ⟨cl, cld, csl, hcell⟩ := FS.cell
 have code := FS.code
 clear FS
 revert hbody lk
 rw [hbd]
 intro hbody lk
 refine jj lk code S ⟨_, hcell, _, rfl⟩ (fun vs H Q E ⟨B, μ, m, ws, Qd, Qx, M, r, hs, _⟩ => by rw [r.len]; exact ar _ _ _ _ hs) fun A outer s H vs Q E hr h => ?_
 obtain ⟨t, T0, T1, hp, hs, hd, hT⟩ := hbody A outer s H E hr
 obtain ⟨u, pu, ku⟩ := hd.ex
 exact ⟨t, u, hp, pu, SS.defo (hs.seq ku) hT h⟩
end
theorem jk {K : Frag} {B1 B' : Hp} {μ1 μ' : List Addr} {m1 m' : Me} {H1 H' : Hp} {L : Addr} {vs : List (Key × V)} {acc : List (Key × D)} (M1 : MemOk K B1 μ1 m1 H1) (nL : H1 L = none) (s' : Stp B1 μ1 m1 H1 B' μ' m' H') (M' : MemOk K B' μ' m' H') (nb : B' L = none) (nl : ¬ Live μ' m' L) (hL : H' L = some (.dK vs)) (rv : RvK K B' vs acc) :
  Stp B1 μ1 m1 H1 B' (μ' ++ [L]) (m' ++ [.dic acc]) H' ∧ MemOk K B' (μ' ++ [L]) (m' ++ [.dic acc]) H' := by
 have at1 : ∀ {n : Nat} {a : Addr} {x : MO}, (μ' ++ [L])[n]? = some a → (m' ++ [MO.dic acc])[n]? = some x → (μ'[n]? = some a ∧ m'[n]? = some x) ∨ (n = m'.length ∧ a = L ∧ x = .dic acc) := fun {n a x} e1 e2 => by
  by_cases c : n < m'.length
  ·rw [List.getElem?_append_left (by rw [M'.len]; exact c)] at e1
   rw [List.getElem?_append_left c] at e2
   exact .inl ⟨e1, e2⟩
  ·have hn := (List.getElem?_eq_some_iff.mp e2).1
   rw [List.length_append, List.length_singleton] at hn
   have en : n = m'.length := by omega
   subst en
   rw [List.getElem?_append_right (by omega), Nat.sub_self] at e2
   rw [List.getElem?_append_right (by rw [M'.len]; omega), M'.len, Nat.sub_self] at e1
   cases e1
   cases e2
   exact .inr ⟨rfl, rfl, rfl⟩
 refine ⟨⟨s'.same, s'.pre.trans (List.prefix_append _ _), s'.out, fun a o n e x b => ?_⟩, ⟨M'.le, by simp [M'.len], fun a l => ?_, fun n a x e1 e2 e3 => ?_, fun n k a x y e1 e2 e3 e4 l1 l2 => ?_, M'.ntb⟩⟩
 ·obtain ⟨h1, h2⟩ := s'.hid a o n e x b
  refine ⟨h1, fun ⟨k, y, e1, e2, e3⟩ => ?_⟩
  rcases at1 e1 e2 with ⟨e1, e2⟩ | ⟨_, rfl, _⟩
  ·exact h2 ⟨k, y, e1, e2, e3⟩
  ·rw [nL] at e
   cases e
 ·obtain ⟨k, y, e1, e2, e3⟩ := l
  rcases at1 e1 e2 with ⟨e1, e2⟩ | ⟨_, rfl, _⟩
  ·exact M'.off a ⟨k, y, e1, e2, e3⟩
  ·exact nb
 ·rcases at1 e1 e2 with ⟨e1, e2⟩ | ⟨_, rfl, rfl⟩
  ·exact OO.to (Same.refl _) (List.prefix_append _ _) (fun _ z => z) (M'.at_ n a x e1 e2 e3)
  ·exact ⟨vs, hL, rv⟩
 ·rcases at1 e1 e3 with ⟨f1, f3⟩ | ⟨z1, h1, _⟩
  ·rcases at1 e2 e4 with ⟨f2, f4⟩ | ⟨z2, h2, _⟩
   ·exact M'.inj n k a x y f1 f2 f3 f4 l1 l2
   ·rw [h2] at f1
    exact (nl ⟨n, x, f1, f3, l1⟩).elim
  ·rcases at1 e2 e4 with ⟨f2, f4⟩ | ⟨z2, _, _⟩
   ·rw [h1] at f2
    exact (nl ⟨k, y, f2, f4, l2⟩).elim
   ·omega
section
variable {X : Cx} {E : XK}
end
section
open PySem.W
theorem f6 {prog : Program} {w : World} {a : Addr} : MeetsIn prog w (Builtin.«bool.__new__» ⟨[.type "bool", .ref a], []⟩) (fun A R s => wpAny (model prog w) A.in1 (truthy (.ref a)) (fun b s' => R (.ok (.ret (.bool b))) s') (fun e s' => R (.error e) s') s) :=
 .of_wp fun A R s h => by
  have f1 := F.conv_sub_bool
  obtain ⟨hp, g, d, tk, os⟩ := s
  have go : wpAny (model prog w) A.in1 (truthy (.ref a)) (fun b s' => ∃ v, Fin.done (.ret (.bool b)) = Fin.done (.ret v) ∧ R (.ok (.ret v)) s') (fun e s' => R (.error e) s') ⟨hp, g, d, tk, os⟩ := wpAny_mono h (fun b s' z => ⟨_, rfl, z⟩) fun _ _ z => z
  unfold Builtin.«bool.__new__»
  repeat (any_goals (first | assumption | (with_reducible refine wpAny_bind (wpAny_mono go (fun b s' z => ?_) fun _ _ z => z)) | wp_step))
theorem gE {prog : Program} {w : World} {A : Around} {E : Value → Shared → Prop} {s : Shared} {a : Addr} {Q : Value → Shared → Prop} (h : wpAny (model prog w) A.in1.in1 (truthy (.ref a)) (fun b s' => Q (.bool b) s') E s) : wpAny (model prog w) A (call (.type "bool") [.ref a]) Q E s :=
 callType_newIn F.called_bool (F.newNe_bool) (F.typeCall_bool_1 _) (F.newCall_bool_1 _) (fun obj => F.args_object_init_2 obj _) F.entry_bool_new f6 (wpAny_mono h (fun b s' z => ⟨rfl, z⟩) fun _ _ z => z)
end
section
variable {X : Cx} {E : XK} {C : Addr} {k : Nat} {sp : SpD}
theorem jl (G : GmS X.prog X.w X.K X.mg X.base k C "__bool__" sp) (hr : Room (k + 2) X.A) : CallR X (.type "bool") (fun xs H Q => jO X.K C sp xs H (fun v H' => ∃ b, v = .bl b ∧ Q v H')) := by
 obtain ⟨f, fd, ps, at_, fn, hb, F⟩ := G.ex
 intro pins s σ H xs us Q I r ⟨a, dx, fs, e1, ha, h⟩
 subst e1
 obtain ⟨u, eu, rx⟩ := vals1 r
 subst eu
 cases (show u = Value.ref a from rx)
 obtain ⟨oda, Ja⟩ := i8 I ha
 obtain ⟨m, fr⟩ := I.fr
 refine gE (PySem.W.truthy_K fr I.ok.mod.kin Ja at_ fn (wpAny_mono (fV (us := [.ref a]) (vs := [.ref a]) F (Room.in1 (Room.in1 hr)) I.env0.in1.in1 hb I (.cons rfl .nil) h) (fun w s' z => ?_) fun _ _ z => z))
 obtain ⟨z, H', I', rz, b, rfl, q⟩ := z
 cases (show w = Value.bool b from rz)
 exact ⟨.bl b, H', I', rfl, q⟩
def ky : D → Prop
 | .bl _ => True
 | _ => False
theorem jT : SC X (fun xs H Q => jO X.K C sp xs H (fun v H' => ∃ b, v = .bl b ∧ Q v H')) (jQ C sp ky) := by
 intro B μ m H xs vs Q QV M r q kk
 obtain ⟨fs, rfl, q⟩ := q
 cases r with
 | cons a t =>
  cases t
  cases (show Rv X.K B _ (.obj C fs) from a) with
  | obj ha rf =>
   refine ⟨_, _, _, rfl, M.le _ _ ha, fW M (.cons a .nil) q fun B' H' d z s M' rz qd => ?_⟩
   obtain ⟨g, qd⟩ := qd
   cases d with
   | bl i => cases (show Rv X.K B' z (.bl i) from rz); exact ⟨i, rfl, kk B' H' _ _ s M' (.bl i) qd⟩
   | _ => exact g.elim
theorem dI {e : Expr} {ta : DTA} {p pos : Pos} (G : GmS X.prog X.w X.K X.mg X.base k C "__bool__" sp) (hr : Room (k + 2) X.A) (hm : X.mg "bool" = none) (ha : DA X E [e] ta) (hg : Gl X "bool" := by rfl) (he : starEach [e] X.env = (false, eval e X.env) :: starEach [] X.env := by rfl) (hpl : (backTo pos (starEach [] X.env)).any (·.1) = false := by rfl) : DE X E (.Call (.Name "bool" p) [e] [] pos) (tCa (jQ C sp ky) ta) :=
 eD (jl G hr) jT hm (by decide +kernel) ha hg (by decide) (by decide) he hpl
def tOr (t u : DTE) : DTE := fun en m Q Qx => t en m Q Qx ∨ u en m Q Qx
theorem DE.or {e : Expr} {t u : DTE} (h : DE X E e t) (k : DE X E e u) : DE X E e (tOr t u) := by
 obtain ⟨t1, p1, k1⟩ := h.ex
 obtain ⟨t2, p2, k2⟩ := k.ex
 refine ⟨_, PE.or p1 p2, fun B μ en m σ H Q Qx QV R hx T kk => ?_⟩
 exact T.elim (fun z => .inl (k1 B μ en m σ H Q Qx QV R hx z kk)) fun z => .inr (k2 B μ en m σ H Q Qx QV R hx z kk)
theorem fu (K : Frag) {e e2 : Expr} {ta : DTA} {p pos : Pos} (hm : X.mg "isinstance" = none) (ha : DA X E [e, e2] ta) (hg : Gl X "isinstance" := by rfl) (he : starEach [e, e2] X.env = (false, eval e X.env) :: starEach [e2] X.env := by rfl) (hpl : (backTo pos (starEach [e2] X.env)).any (·.1) = false := by rfl) (hK : X.K = K := by rfl) : DE X E (.Call (.Name "isinstance" p) [e, e2] [] pos) (tCa (c2 (lb K)) ta) :=
 hK ▸ mr hm ha hg he hpl
def ni (Q : W → Me → Prop) (m : Me) : D → Prop
 | .lst ds => Q (.loc m.length) (m ++ [.lst ds])
 | .tup ds => Q (.loc m.length) (m ++ [.lst ds])
 | _ => False
def ms (te : DTE) : DTE := fun en m Q Qx => te en m (fun x m1 => look x m1 fun d => ni Q m1 d) Qx
theorem jU {e : Expr} {te : DTE} {p pos : Pos} (hm : X.mg "list" = none) (he : DE X E e te) (hg : Gl X "list" := by rfl) (hs : starEach [e] X.env = (false, eval e X.env) :: starEach [] X.env := by rfl) (hpl : (backTo pos (starEach [] X.env)).any (·.1) = false := by rfl) :
  DE X E (.Call (.Name "list" p) [e] [] pos) (ms te) := by
 obtain ⟨t1, p1, k1⟩ := he.ex
 refine ⟨_, pe_callTy call_list_of hg hm (by decide +kernel) (pa_cons p1 pa_nil hs) (by decide) (by decide) hs hpl, fun B μ en m σ H Q Qx QV R hx T k => ?_⟩
 refine k1 B μ en m σ H _ Qx _ R hx T fun B1 μ1 m1 H1 x v s1 R1 r q => ?_
 obtain ⟨d, td, q⟩ := aN R1.mem r q
 have go : ∀ {p : Addr} {vs : List V} {ds : List D}, H1 p = none → RvL X.K B1 vs ds → Q (.loc m1.length) (m1 ++ [.lst ds]) → QV (.ref p) (upd H1 p (.lst vs)) := fun {p vs ds} np rk q => by
  have kp : ∀ b o, b ≠ p → H1 b = some o → upd H1 p (.lst vs) b = some o := fun b o c e => by rw [upd_ne c]; exact e
  have sl := Stp.push R1.mem np (m := .lst ds) kp
  have st := s1.trans R1.mem sl R.mem.le
  have mo := R1.mem.push np (m := .lst ds) (fun a o e => kp a o (ne_of_none (R1.mem.le a o e) np) (R1.mem.le a o e)) kp ⟨vs, upd_same, rk⟩
  refine k _ _ _ _ (.loc m1.length) _ st (R.stp st mo) ⟨p, rfl, ?_⟩ q
  rw [← R1.mem.len]
  simp
 cases d with
 | lst ds =>
  obtain ⟨p, vs, rfl, hp, r⟩ := td
  exact ⟨p, vs, rfl, .inl (.inl (.inl hp)), fun l nl => go nl r q⟩
 | tup ds =>
  obtain ⟨p, vs, rfl, hp, r⟩ := td
  exact ⟨p, vs, rfl, .inr (R1.mem.le.tup hp), fun l nl => go nl r q⟩
 | _ => exact q.elim
end
section
open PySem.W
variable {prog : Program} {w : World} {M : Model} {A : Around} {c : Code} {E : Value → Shared → Prop} {s : Shared} {env : Env}
theorem fv {e : Expr} {v2 : Expr} {rest : List Expr} {p0 pos : Pos} {Q : Value → Shared → Prop}
  (h : _root_.PySem.wpAt (model prog w) A c (eval e env) (fun v s₁ => wpAny (model prog w) A (formatField v Str.empty) (fun v s₂ => ∃ y t, v = .str y t ∧ (Str.empty ++ y).length ≤ sizeLine ∧ Joins (model prog w) A E (evalEach (v2 :: rest) env) (Str.empty ++ y) (fun out s₁ => out.length ≤ sizeLine ∧ Q (.str out s₁.toks) { s₁ with toks := s₁.toks + 1 }) s₂) E s₁) E s) :
  _root_.PySem.wpAt (model prog w) A c (eval (.JoinedStr (.FormattedValue e (-1) none p0 :: v2 :: rest) pos) env) Q E s := by
 rw [arm_eval_JoinedStr]
 show _root_.PySem.wpAt _ _ _ (joinParts Str.empty (eval (.FormattedValue e (-1) none p0) env :: evalEach (v2 :: rest) env)) Q E s
 rw [joinParts, arm_eval_FormattedValue]
 refine _root_.PySem.wpAt_bind (_root_.PySem.wpAt_bind (ks_wpAt_mono h (fun v s₁ h₁ => ?_) fun _ _ z => z))
 refine _root_.PySem.wpAt_of_wpAny (wpAny_bind (wpAny_standAt ?_))
 show wpAny _ _ (do let v' ← holding [v] (pure v); formatField v' Str.empty) _ E s₁
 refine wpAny_bind (wpAny_holding (wpAny_pure (wpAny_mono h₁ (fun v s₂ h₂ => ?_) fun _ _ z => z)))
 obtain ⟨y, t, rfl, hz, hr⟩ := h₂
 have hz' : ¬ (Str.empty.length + y.length > sizeLine) := by rw [← strLen_append]; exact Nat.not_lt.mpr hz
 refine _root_.PySem.wpAt_of_wpAny (wpAny_bind (wpAny_pure ?_))
 show wpAny _ A (if Str.empty.length + y.length > sizeLine then _ else _) Q E s₂
 rw [if_neg hz']
 first
  | exact wpAny_joinPartsRec _ _ _ _ hr
  | exact wpAny_bind (wpAny_pure (wpAny_joinPartsRec _ _ _ _ hr))
end
section
open PySem.W
variable {CX : CXT} {P : Program} {w : World} {K : Frag} {mg : Str → Option Value} {base : Heap} {N ps : List Str} {name qual file : Str} {params : Arguments} {body : List Stmt} {scope : Scope} {C D f f2 cda cc : Addr} {A : Around} {outer : List Env} {s0 : Shared} {H0 : Hp} {E0 E : XK} {fd fd2 : FuncData} {ps2 : List Str} {sp2 : Sp} {k : Nat} {m : Str} {ar : Arg}
theorem jm {p0 p1 ap pos : Pos} (S : SuScope N ps scope) (FS : FunS K file name qual params body scope D f cda cc fd) (hp : (params.posonlyargs ++ params.args).head? = some ar) (hN : N[0]? = some ar.arg) (hka : scope.names.lookup ar.arg = some .local)
  (M : SupM K C D m f2) (F2 : FnOk P w K mg base CX k f2 fd2 ps2 sp2) (hb : Binds K fd2 ps2 []) (hr : Room k (A.deeper (ksEnv qual scope s0.heap.objs.size f (.ref cda) cc))) (hx : Passes CX (cxS CX P w K mg base N qual scope f (.ref cda) cc A outer s0 H0 E0) E)
  (hm : mg "super" = none) (hfile : ((P.main.file : Str) == file) = true) (htop : (P.main.scope.names.lookup ("super" : Str)).isSome = false) (hat : (m == ("__class__" : Str)) = false)
  {pl : Sem Bool} (he : eval (.Call (.Attribute (.Call (.Name "super" p0) [] [] p1) m ap) [] [] pos) (ksEnv qual scope s0.heap.objs.size f (.ref cda) cc) = (do
   let ov ← attributeBase (.Call (.Name "super" p0) [] [] p1) m (ksEnv qual scope s0.heap.objs.size f (.ref cda) cc) (eval (.Call (.Name "super" p0) [] [] p1) (ksEnv qual scope s0.heap.objs.size f (.ref cda) cc))
   standAt ap.atName
   let (g, first) ← holding [ov] (getMethod ov m pl)
   callWith pos g first (backTo pos (starEach [] (ksEnv qual scope s0.heap.objs.size f (.ref cda) cc))) []) := by rfl) :
  ∀ (pins : List (Addr × Obj)) (s : Shared) (σ : L2.St) (H : Hp) (Q : VK) (x dx : Addr) (fs : List (Str × V)), Inv (cxS CX P w K mg base N qual scope f (.ref cda) cc A outer s0 H0 E0) pins σ H s → σ[0]? = some (some (.ref x)) → H x = some (.ins C dx fs) → sp2 [.ref x] H Q E →
  _root_.PySem.wpAt (model P w) (cxS CX P w K mg base N qual scope f (.ref cda) cc A outer s0 H0 E0).A (.func body (cxS CX P w K mg base N qual scope f (.ref cda) cc A outer s0 H0 E0).env) (eval (.Call (.Attribute (.Call (.Name "super" p0) [] [] p1) m ap) [] [] pos) (cxS CX P w K mg base N qual scope f (.ref cda) cc A outer s0 H0 E0).env) (EP (cxS CX P w K mg base N qual scope f (.ref cda) cc A outer s0 H0 E0) pins σ Q) (cxS CX P w K mg base N qual scope f (.ref cda) cc A outer s0 H0 E0).xe s := by
 obtain ⟨oc, od, kV, doc, pm, an, ct, osl, rfl, lkf⟩ := FS.ex
 obtain ⟨cl, cld, csl, hcell⟩ := FS.cell
 obtain ⟨ccl, cdd, cvs, ccs, tf, hcode, hvs⟩ := FS.file
 obtain ⟨cdD, hD⟩ := FS.cls
 generalize hX : cxS CX P w K mg base N qual scope f (.ref cda) cc A outer s0 H0 E0 = X at hx
 have eE : X.env = ksEnv qual scope s0.heap.objs.size f (.ref cda) cc := by rw [← hX]; rfl
 have eA : X.A = A.deeper (ksEnv qual scope s0.heap.objs.size f (.ref cda) cc) := by rw [← hX]; rfl
 have eP : X.prog = P := by rw [← hX]; rfl
 have ew : X.w = w := by rw [← hX]; rfl
 have eK : X.K = K := by rw [← hX]; rfl
 have eN : X.N = N := by rw [← hX]; rfl
 have em : X.mg = mg := by rw [← hX]; rfl
 have eb : X.base = base := by rw [← hX]; rfl
 clear hX
 subst eP ew eK eN em eb
 rw [← eE] at he
 rw [← eA] at hr
 have hks : X.env.kindOf "super" = some .globalImplicit := by rw [eE]; exact S.sup
 have hkc : X.env.kindOf "__class__" = some .free := by rw [eE]; exact S.cls
 have hkl : X.env.kindOf ar.arg = some .local := by rw [eE]; exact hka
 have efn : X.env.func = some f := by rw [eE]
 have eco : X.env.code = .ref cda := by rw [eE]
 have ecl : X.env.cells.lookup ("__class__" : Str) = some cc := by rw [eE]; rfl
 clear eE eA
 intro pins s σ H Q x dx fs I h0 hxx q
 obtain ⟨oD, hD1, hD2⟩ : ∃ oD, s.heap.get? D = some oD ∧ oD.data = .cls cdD := by
  unfold clsIn at hD
  split at hD
  ·rename_i c d cd' sl ho
   cases hD
   exact ⟨_, I.kIn _ _ ho, rfl⟩
  ·cases hD
 refine ks_wpAt_MethodCall (pl := pl) ?_ he
 refine ks_wpAt_super_base (env := X.env) hks hkc hat efn (I.kIn _ _ lkf) rfl hp eco (I.kIn _ _ hcode) rfl hvs hfile htop ?_
 obtain ⟨mb, hb1, hb2⟩ := I.mod.blt
 refine ks_loadName_global I.ok.kind hks (Calls.loadGlobal_builtin (by rw [I.ok.glob]; exact I.mod.glob.keeps I.bk) hm (by rw [I.ok.blt]; exact hb1.keeps I.bk) ((hb2 "super" (by decide)).trans (show bootBuiltins "super" = some (.type "super") by decide +kernel)) ⟨rfl, ?_⟩)
 refine wpAny_loadName_free I.ok.kind hkc ecl ⟨_, I.kIn _ _ hcell, rfl⟩ ?_
 obtain ⟨mm, hns, hloc⟩ := I.loc
 obtain ⟨u, ru, lk⟩ := hloc 0 ar.arg (.ref x) hN h0 (.inl hkl)
 obtain rfl : u = .ref x := ru
 have hv : mm ar.arg = some (.ref x) := by
  rcases lk with ⟨_, z⟩ | ⟨z, _⟩
  ·exact z
  ·rw [hkl] at z
   rcases z with z | z <;> cases z
 refine wpAny_loadName_local I.ok.kind hkl hns hv ?_
 refine ks_wpAny_isType_cls hD1 hD2 ⟨rfl, ?_⟩
 obtain ⟨mA, O, _⟩ := ins_get I.hok hxx
 obtain ⟨od2, J, hl⟩ := O.look
 obtain ⟨hh, g, d, tk, os⟩ := s
 refine ks_wpAny_call_super hD1 hD2 J.at_ J.cls (fun c e => ?_) (looks_mroIn I.kIn M.sub) (fun h' e1 k1 => ?_)
 ·have z := J.no
  unfold notCls at z
  rw [e] at z
  exact Bool.noConfusion z
 have I1 : Inv X pins σ H ⟨h', g, d, tk, os⟩ := I.kept (t' := tk) k1
 cases hc : clsIn X.K C with
 | none =>
  have z := M.at_
  unfold ks_superIn at z
  rw [hc] at z
  cases z
 | some cd =>
 have hat2 := M.at_
 unfold ks_superIn at hat2
 rw [hc] at hat2
 obtain ⟨of, hof, hofc⟩ : ∃ of, h'.get? f2 = some of ∧ of.cls = .type "function" := by
  have ht' : (X.K.lookup f2).map (·.cls) = some (.type "function") := M.ty
  cases z : X.K.lookup f2 with
  | none => rw [z] at ht'; cases ht'
  | some of => rw [z] at ht'; exact ⟨of, I1.kIn _ _ z, Option.some.inj ht'⟩
 refine ks_wpAny_getMethod_super e1 (looks_opaque I1.kIn M.st) (l₀ := cd.mro) ?_ rfl I1.kIn hat2 hof hofc (ks_ne I.kIn J hc) hat ?_
 ·exact fun A Q E s k q => wpAny_bind ((looks_clsIn I1.kIn hc) A _ E s k (wpAny_pure q))
 have I2 : Inv X pins σ H ⟨h'.push { cls := .type "method", data := .fields #[.ref f2, .ref x] }, g, d, tk + 1, os⟩ := I1.kept (t' := tk + 1) fun b o e => Heap.get?_push_of_some _ e
 have hq : (h'.push { cls := .type "method", data := .fields #[.ref f2, .ref x] }).get? h'.objs.size = some (methodObj (.ref f2) (.ref x)) := Heap.get?_push_at rfl rfl
 have hf1 : FpOk X pins H h'.objs.size := I1.fpOk (Nat.le_refl _) (I1.hok.fresh (Nat.le_refl _))
 have I3 := I2.pinned (fp := [h'.objs.size]) (fun b hb => by rw [List.mem_singleton.mp hb]; exact hf1) (fun b hb => by rw [List.mem_singleton.mp hb]; exact ⟨_, hq, fun v z => by cases z⟩)
 have pinq := mem_pinsAt (List.mem_singleton.mpr rfl) hq
 show wpAny _ _ (callWith pos (.ref h'.objs.size) [] [] []) _ _ _
 refine callWith_of (P := MethP X.K h'.objs.size f2 (.ref x)) rfl (keeps_M M.fn) (evalArgs_empty ?_)
 have p4 := (I3.pin _ (List.mem_append_right _ (List.mem_append_right _ pinq))).1
 refine ⟨⟨p4, I3.kIn⟩, ?_⟩
 have r2 : Vals [.ref x] [.ref x] := .cons rfl .nil
 have hl2 : ([Value.ref x]).length = ps2.length := by rw [← r2.length]; exact F2.len _ _ _ _ q
 refine wpAny_call (ks_codeAny_call_bound p4 (codeAny_mono (F2.run X.A X.stack _ H ⟨[.ref x], []⟩ [.ref x] [.ref x] _ E hr I3.env0 (by
  have z := hb _ [.ref x] I3.kIn (by rw [List.append_nil]; exact hl2)
  rw [List.append_nil] at z
  exact z) r2 q) fun r s' hq => ?_))
 cases r with
 | error e => exact hx _ σ H _ e s' I3 hq
 | ok fl =>
  cases fl with
  | ret u =>
   obtain ⟨v, H5, I5, rv, q5⟩ := I3.after hq
   exact ⟨v, H5, I5.unpinned, rv, q5⟩
  | next => exact False.elim hq
  | brk => exact False.elim hq
  | cont => exact False.elim hq
end
section
open PySem.W
variable {CX : CXT} {P : Program} {w : World} {K : Frag} {mg : Str → Option Value} {base : Heap} {N ps : List Str} {name qual file : Str} {params : Arguments} {body : List Stmt} {scope : Scope} {C D f f2 cda cc : Addr} {A : Around} {outer : List Env} {s0 : Shared} {H0 : Hp} {E0 E : XK} {fd fd2 : FuncData} {ps2 : List Str} {sp2 : Sp} {k : Nat} {m : Str} {ar : Arg}
def kz (C : Addr) (sp : Sp) (E : XK) (ts : List TE) : TS := fun D σ H => ∃ x dx fs, σ[0]? = some (some (.ref x)) ∧ H x = some (.ins C dx fs) ∧ sp [.ref x] H (fun v H1 => ∃ y : Str, v = .str y ∧ y.length ≤ sizeLine ∧ (Str.empty ++ y).length ≤ sizeLine ∧ tJs ts (Str.empty ++ y) σ H1 fun out H2 => D.rt (.str out) H2) E
theorem dX {p0 p1 ap pos pf pj pr : Pos} {v2 : Expr} {rest : List Expr} {ts : List TE} (S : SuScope N ps scope) (FS : FunS K file name qual params body scope D f cda cc fd) (hp : (params.posonlyargs ++ params.args).head? = some ar) (hN : N[0]? = some ar.arg) (hka : scope.names.lookup ar.arg = some .local)
  (M : SupM K C D m f2) (F2 : FnOk P w K mg base CX k f2 fd2 ps2 sp2) (hb : Binds K fd2 ps2 []) (hr : Room k (A.deeper (ksEnv qual scope s0.heap.objs.size f (.ref cda) cc))) (hx : Passes CX (cxS CX P w K mg base N qual scope f (.ref cda) cc A outer s0 H0 E0) E)
  (hm : mg "super" = none) (hfile : ((P.main.file : Str) == file) = true) (htop : (P.main.scope.names.lookup ("super" : Str)).isSome = false) (hat : (m == ("__class__" : Str)) = false)
  {pl : Sem Bool} (hj : PJ (cxS CX P w K mg base N qual scope f (.ref cda) cc A outer s0 H0 E0) (v2 :: rest) ts)
  (he : eval (.Call (.Attribute (.Call (.Name "super" p0) [] [] p1) m ap) [] [] pos) (ksEnv qual scope s0.heap.objs.size f (.ref cda) cc) = (do
   let ov ← attributeBase (.Call (.Name "super" p0) [] [] p1) m (ksEnv qual scope s0.heap.objs.size f (.ref cda) cc) (eval (.Call (.Name "super" p0) [] [] p1) (ksEnv qual scope s0.heap.objs.size f (.ref cda) cc))
   standAt ap.atName
   let (g, first) ← holding [ov] (getMethod ov m pl)
   callWith pos g first (backTo pos (starEach [] (ksEnv qual scope s0.heap.objs.size f (.ref cda) cc))) []) := by rfl) :
  PAt (cxS CX P w K mg base N qual scope f (.ref cda) cc A outer s0 H0 E0) body (.Return (some (.JoinedStr (.FormattedValue (.Call (.Attribute (.Call (.Name "super" p0) [] [] p1) m ap) [] [] pos) (-1) none pf :: v2 :: rest) pj)) pr) (kz C sp2 E ts) := by
 refine ⟨fun pins s σ H DD I ⟨x, dx, fs, h0, hxx, q⟩ => ?_⟩
 refine ks_wpAt_Return_some (fv (ks_wpAt_mono (jm S FS hp hN hka M F2 hb hr hx hm hfile htop hat (pl := pl) he pins s σ H _ x dx fs I h0 hxx q) (fun v s1 z => ?_) fun _ _ z => z))
 obtain ⟨u, H1, I1, rv, y, rfl, hy, hz, q1⟩ := z
 obtain ⟨t, rfl⟩ := (show ∃ t, v = Value.str y t from rv)
 refine wpAny_formatField_str ⟨y, t, rfl, hz, pj_run hj (Str.empty ++ y) s1 H1 (fun out H2 => DD.rt (.str out) H2) _ hz I1 q1 fun out s3 H3 h3 I3 q3 => ⟨h3, .str out, σ, H3, I3.tok _, ⟨_, rfl⟩, q3⟩⟩ ⟨y, _, rfl, hz, pj_run hj (Str.empty ++ y) _ H1 (fun out H2 => DD.rt (.str out) H2) _ hz (I1.tok _) q1 fun out s3 H3 h3 I3 q3 => ⟨h3, .str out, σ, H3, I3.tok _, ⟨_, rfl⟩, q3⟩⟩ hy
end
def mt (C : Addr) (sp : SpD) (ts : List DTE) : DTS := fun en m N => ∃ fs, En.get en 0 = some (.v (.obj C fs)) ∧ sp [.v (.obj C fs)] m (fun r m1 => sD r fun y => y.length ≤ sizeLine ∧ (Str.empty ++ y).length ≤ sizeLine ∧ tJo ts (Str.empty ++ y) en m1 (fun z m2 => N.rt (.v (.str z)) m2) N.xc) N.xc
theorem fw {X : Cx} {E : XK} {C : Addr} {sp : SpD} {es : List Expr} {ts : List DTE} (hj : DJ X E es ts) : ∃ us, PJ X es us ∧ SS X E (kz C (af X.K sp) E us) (mt C sp ts) := by
 obtain ⟨us, p, k⟩ := hj.pj
 refine ⟨us, p, fun B μ en m σ H N D R hx T ends => ?_⟩
 obtain ⟨fs, he, T⟩ := T
 obtain ⟨v, hv, rv⟩ := R.env 0 _ (En.get_some he)
 cases (show Rv X.K B v (.obj C fs) from rv) with
 | obj ha rf =>
  refine ⟨_, _, _, hv, R.mem.le _ _ ha, ?_⟩
  refine ⟨B, μ, m, [.v (.obj C fs)], _, N.xc, R.mem, .cons rv .nil, T, hx, fun B1 μ1 m1 H1 z u s1 M1 rz qz => ?_⟩
  obtain ⟨y, rfl, hy, q1, q2, q3⟩ := kh rz qz
  have R1 := R.stp s1 M1
  refine ⟨y, rfl, q1, q2, ?_⟩
  refine k (Str.empty ++ y) B1 μ1 en m1 σ H1 _ N.xc _ (eZ eF hy) R1 (hx.step s1 R1.mem R.mem.le) q3 fun B2 μ2 m2 H2 z2 h2 s2 R2 q4 => ?_
  exact ends.rt B2 μ2 m2 H2 (.v (.str z2)) (.str z2) (s1.trans R1.mem s2 R.mem.le) R2.mem (RW.d (.str h2)) q4
section
variable {K : Frag} {B B' : Hp} {μ μ' : List Addr} {m m' : Me} {H H' : Hp} {n : Nat} {a : Addr} {vs : List V} {ds : List D}
theorem cU (M : MemOk K B μ m H) (ha : μ[n]? = some a) (hm : m[n]? = some (.lst ds)) : ¬ Live μ (m.set n .gone) a ∧ ∀ x, Live μ (m.set n .gone) x → Live μ m x := by
 refine ⟨fun ⟨j, mo, e1, e2, e3⟩ => ?_, fun x ⟨j, mo, e1, e2, e3⟩ => ?_⟩
 ·by_cases c : j = n
  ·subst c
   rw [List.getElem?_set_self (List.getElem?_eq_some_iff.mp hm).1] at e2
   cases e2
   cases e3
  ·rw [List.getElem?_set_ne (fun z => c z.symm)] at e2
   exact c (M.inj j n a mo _ e1 ha e2 hm e3 rfl)
 ·by_cases c : j = n
  ·subst c
   rw [List.getElem?_set_self (List.getElem?_eq_some_iff.mp hm).1] at e2
   cases e2
   cases e3
  ·rw [List.getElem?_set_ne (fun z => c z.symm)] at e2
   exact ⟨j, mo, e1, e2, e3⟩
theorem MemOk.hide (M : MemOk K B μ m H) (ha : μ[n]? = some a) (hm : m[n]? = some (.lst ds)) : MemOk K B μ (m.set n .gone) H := by
 have l := (cU M ha hm).2
 have f : ∀ {j : Nat} {mo : MO}, (m.set n .gone)[j]? = some mo → mo.live = true → m[j]? = some mo := fun {j mo} e2 e3 => by
  by_cases c : j = n
  ·subst c
   rw [List.getElem?_set_self (List.getElem?_eq_some_iff.mp hm).1] at e2
   cases e2
   cases e3
  ·rw [List.getElem?_set_ne (fun z => c z.symm)] at e2
   exact e2
 exact ⟨M.le, by rw [List.length_set]; exact M.len, fun b z => M.off b (l b z), fun j b mo e1 e2 e3 => M.at_ j b mo e1 (f e2 e3) e3, fun j k b mo mo' e1 e2 e3 e4 e5 e6 => M.inj j k b mo mo' e1 e2 (f e3 e5) (f e4 e6) e5 e6, M.ntb⟩
theorem Stp.hide (M : MemOk K B μ m H) (ha : μ[n]? = some a) (hm : m[n]? = some (.lst ds)) : Stp B μ m H B μ (m.set n .gone) H :=
 ⟨Same.refl _, List.prefix_refl _, fun _ _ _ h _ => h, fun x _ n1 _ _ b => ⟨b, fun z => n1 ((cU M ha hm).2 x z)⟩⟩
theorem ld (M : MemOk K B μ m H) (ha : μ[n]? = some a) (hm : m[n]? = some (.lst ds)) (hH : H a = some (.lst vs)) (rl : RvL K B vs ds) (st : Stp B μ (m.set n .gone) H B' μ' m' H') (M' : MemOk K B' μ' m' H') (hn : n < m'.length) : Stp B μ m H B' μ' (m'.set n (.lst ds)) H' ∧ MemOk K B' μ' (m'.set n (.lst ds)) H' := by
 obtain ⟨na, sub⟩ := cU M ha hm
 have la : Live μ m a := ⟨n, _, ha, hm, rfl⟩
 have nb := M.off a la
 have ha' := bG st.pre ha
 have hH' := st.out a _ na hH (fun _ z => nomatch z)
 obtain ⟨nb', na'⟩ := st.hid a _ na hH ⟨(fun _ z => nomatch z), (fun _ z => nomatch z)⟩ nb
 have at1 : ∀ {j : Nat} {mo : MO}, (m'.set n (.lst ds))[j]? = some mo → (j = n ∧ mo = .lst ds) ∨ (j ≠ n ∧ m'[j]? = some mo) := fun {j mo} e => by
  by_cases c : j = n
  ·subst c
   rw [List.getElem?_set_self hn] at e
   cases e
   exact .inl ⟨rfl, rfl⟩
  ·rw [List.getElem?_set_ne (fun z => c z.symm)] at e
   exact .inr ⟨c, e⟩
 have lv : ∀ x, Live μ' (m'.set n (.lst ds)) x → Live μ' m' x ∨ x = a := fun x ⟨j, mo, e1, e2, e3⟩ => by
  rcases at1 e2 with ⟨rfl, rfl⟩ | ⟨_, e2⟩
  ·rw [ha'] at e1
   exact .inr (Option.some.inj e1).symm
  ·exact .inl ⟨j, mo, e1, e2, e3⟩
 refine ⟨⟨st.same, st.pre, fun x o n1 e nt => st.out x o (fun z => n1 (sub x z)) e nt, fun x o n1 e z b => ?_⟩, ⟨M'.le, by rw [List.length_set]; exact M'.len, fun b l => ?_, fun j b mo e1 e2 e3 => ?_, fun j k b mo mo' e1 e2 e3 e4 e5 e6 => ?_, M'.ntb⟩⟩
 ·obtain ⟨h1, h2⟩ := st.hid x o (fun z => n1 (sub x z)) e z b
  exact ⟨h1, fun l => (lv x l).elim h2 fun e => n1 (e ▸ la)⟩
 ·exact (lv b l).elim (M'.off b) fun e => e ▸ nb'
 ·rcases at1 e2 with ⟨rfl, rfl⟩ | ⟨_, e2⟩
  ·rw [ha'] at e1
   cases e1
   exact ⟨vs, hH', rl.to st.same⟩
  ·exact M'.at_ j b mo e1 e2 e3
 ·rcases at1 e3 with ⟨h3, h3'⟩ | ⟨c1, h3⟩
  ·rcases at1 e4 with ⟨h4, h4'⟩ | ⟨c2, h4⟩
   ·rw [h3, h4]
   ·rw [h3, ha'] at e1
    cases e1
    exact (na' ⟨k, _, e2, h4, e6⟩).elim
  ·rcases at1 e4 with ⟨h4, h4'⟩ | ⟨c2, h4⟩
   ·rw [h4, ha'] at e2
    cases e2
    exact (na' ⟨j, _, e1, h3, e5⟩).elim
   ·exact M'.inj j k b mo mo' e1 e2 h3 h4 e5 e6
end
section
variable {X : Cx} {E : XK}
def nj (t0 : DTE) (g : DTG) (tt : DTT) (te : DTE) (vs : List Nat) : DTE := fun en m Q Qx => t0 en m (fun x m1 => ∃ n ds, x = .loc n ∧ m1[n]? = some (.lst ds) ∧ lcL g tt te (bm en vs) ds [] (m1.set n .gone) fun w m2 => Q w (m2.set n (.lst ds))) Qx
theorem mu {elt tg iter : Expr} {ifs : List Expr} {scope : Scope} {own : List (Str × Nat)} {is : List Nat} {pos : Pos} {t0 : DTE} {g : DTG} {tt : DTT} {te : DTE} (hc : X.calm = true) (hN : X.N.Nodup) (hi : DE X E iter t0) (ok : BlkOk X.N X.env.scope scope own)
  (hg : ∀ (s : Shared) (H : Hp) (C : Addr) (cl : List (Str × Addr)) (fp : List Addr), DG (X.blk s H scope (compEnvC scope cl C X.env) fp) tg is g) (ht : ∀ (s : Shared) (H : Hp) (C : Addr) (cl : List (Str × Addr)) (fp : List Addr), DTs (X.blk s H scope (compEnvC scope cl C X.env) fp) E0 ifs tt)
  (he : ∀ (s : Shared) (H : Hp) (C : Addr) (cl : List (Str × Addr)) (fp : List Addr), DE (X.blk s H scope (compEnvC scope cl C X.env) fp) E0 elt te) (hs : ∀ x, foldedSetIterable iter X.env x = pure x := by intro _; rfl) (hv : is.all (fun i => (own.map (·.2)).contains i) = true := by rfl) :
  DE X E (.ListComp elt [⟨tg, iter, ifs, 0⟩] scope pos) (nj t0 g tt te (own.map (·.2))) := by
 obtain ⟨t1, p1, k1⟩ := hi.ex
 have hv' : ∀ i ∈ is, i ∈ own.map (·.2) := fun i h => List.contains_iff_mem.mp (List.all_eq_true.mp hv i h)
 refine ⟨_, pe_lc hc hN (iS p1) ok (g := lG X.K is g) (tt := lT X.K E0 tt) (te := lE X.K E0 te) (fun s H C cl fp => (hg s H C cl fp).pg) (fun s H C cl fp => (ht s H C cl fp).pts) (fun s H C cl fp => (he s H C cl fp).pe) hs, fun B μ en m σ H Q Qx QV R hx T k => ?_⟩
 refine k1 B μ en m σ H _ Qx _ R hx T fun B0 μ0 m0 H0 x v s0 R0 r q => ?_
 obtain ⟨n, its, rfl, hm, q⟩ := q
 obtain ⟨a, rfl, ha⟩ := r
 obtain ⟨us, hH, rl⟩ := R0.mem.at_ n a _ ha hm rfl
 refine .inl ⟨a, us, rfl, .inl (.inl hH), ?_⟩
 have Mh := R0.mem.hide ha hm
 have sh := Stp.hide R0.mem ha hm
 have R1 := R0.stp sh Mh
 obtain ⟨na, sub⟩ := cU R0.mem ha hm
 have nb0 := R0.mem.off a ⟨n, _, ha, hm, rfl⟩
 intro L nL
 obtain ⟨nb1, nl1⟩ := R1.mem.none nL
 have Rw := R1.wipe (own.map (·.2))
 generalize hen : bm en (own.map (·.2)) = enw at q Rw
 have w := walk_list (K := X.K) (a := a) (xs := us)
 rw [rl.len] at w
 generalize hm1 : m0.set n .gone = m1 at q Mh sh R1 nl1 Rw na sub
 have nLa : L ≠ a := fun e => by
  rw [e, hH] at nL
  cases nL
 refine lc_it w (fun i H' => ∃ B' μ' m' vs acc, Stp B0 μ0 m1 H0 B' μ' m' H' ∧ MemOk X.K B' μ' m' H' ∧ B' L = none ∧ ¬ Live μ' m' L ∧ H' L = some (.lst vs) ∧ RvL X.K B' vs acc ∧ m0.length ≤ m'.length ∧ lcL g tt te enw (its.drop i) acc m' fun w m2 => Q w (m2.set n (.lst its))) ?_ (fun i H' _ ⟨B', μ', m', vs, acc, s', M', _⟩ => .inl (.inl (s'.out a _ na hH (fun _ z => nomatch z)))) (fun i x H2 H3 hi ⟨B', μ', m', vs, acc, s', M', nb, nl, hL, rv, hl, q'⟩ y => ?_) (fun H' ⟨B', μ', m', vs, acc, s', M', nb, nl, hL, rv, hl, q'⟩ => ?_)
 ·have kp : ∀ b o, b ≠ L → H0 b = some o → upd H0 L (.lst []) b = some o := fun b o c e => by rw [upd_ne c]; exact e
  exact ⟨B0, μ0, m1, [], [], Stp.refl.touch nL kp, R1.mem.touch nb1 nl1 kp, nb1, nl1, upd_same, .nil, by rw [← hm1, List.length_set]; exact Nat.le_refl _, q⟩
 ·obtain ⟨y1, y2⟩ := y
  subst y1
  obtain ⟨d, hd, rd0⟩ := rl.at' y2
  have rd : Rv X.K B' x d := rd0.to s'.same
  have R3 : Rel X.K B' μ' enw m' (L2.wipe σ (own.map (·.2))) _ := Rw.stp s' M'
  rw [List.drop_eq_getElem_cons hi] at q'
  have ed : its[i] = d := by
   rw [List.getElem?_eq_getElem hi] at hd
   exact Option.some.inj hd
  rw [ed] at q'
  refine ⟨B', μ', enw, m', .v d, _, R3, rd, q', fun B4 μ4 en4 m4 σ4 H4 s4 R4 st4 q4 => ⟨by rw [st4.wipe hv', bB], ?_⟩⟩
  have s14 := s'.trans M' s4 R1.mem.le
  obtain ⟨nb4, nl4⟩ := s4.hid L _ nl hL ⟨(fun _ z => nomatch z), (fun _ z => nomatch z)⟩ nb
  have hL4 := s4.out L _ nl hL (fun _ z => nomatch z)
  refine ⟨B4, μ4, en4, m4, _, noX, R4, ExOf.no, q4, fun B5 μ5 m5 H5 b s5 R5 q5 => ?_⟩
  have s15 := s14.trans R4.mem s5 R1.mem.le
  obtain ⟨nb5, nl5⟩ := s5.hid L _ nl4 hL4 ⟨(fun _ z => nomatch z), (fun _ z => nomatch z)⟩ nb4
  have hL5 := s5.out L _ nl4 hL4 (fun _ z => nomatch z)
  have rv5 := rv.to (s4.same.trans s5.same)
  have lenOf : ∀ {Bz μz mz Hz}, Stp B0 μ0 m1 H0 Bz μz mz Hz → MemOk X.K Bz μz mz Hz → m0.length ≤ mz.length := fun {Bz μz mz Hz} sz Mz => by
   have z := sz.pre.length_le
   rw [R0.mem.len, Mz.len] at z
   exact z
  cases b with
  | false => exact iteF ⟨B5, μ5, m5, vs, acc, s15, R5.mem, nb5, nl5, hL5, rv5, lenOf s15 R5.mem, q5⟩
  | true =>
   refine iteT ⟨B5, μ5, en4, m5, _, noX, R5, ExOf.no, q5, fun B6 μ6 m6 H6 y v s6 R6 r6 q6 => ?_⟩
   cases y with
   | loc n => exact q6.elim
   | v dy =>
    obtain ⟨lz, q6⟩ := q6
    have s16 := s15.trans R5.mem s6 R1.mem.le
    obtain ⟨nb6, nl6⟩ := s6.hid L _ nl5 hL5 ⟨(fun _ z => nomatch z), (fun _ z => nomatch z)⟩ nb5
    have hL6 := s6.out L _ nl5 hL5 (fun _ z => nomatch z)
    have rv6 := rv5.to s6.same
    have kp : ∀ b o, b ≠ L → H6 b = some o → upd H6 L (.lst (vs ++ [v])) b = some o := fun b o c e => by rw [upd_ne c]; exact e
    exact ⟨vs, hL6, by rw [rv6.len]; exact lz, B6, μ6, m6, vs ++ [v], acc ++ [dy], s16.touch nL kp, R6.mem.touch nb6 nl6 kp, nb6, nl6, upd_same, rv6.append (.one r6), lenOf s16 R6.mem, q6⟩
 ·rw [List.drop_length] at q'
  -- the new list becomes a datum
  have same : Same B' (upd B' L (.lst vs)) := av nb _
  have M2 : MemOk X.K (upd B' L (.lst vs)) μ' m' H' := by
   refine ⟨fun a o e => ?_, M'.len, fun a l => ?_, fun n a x e1 e2 e3 => OO.to same (List.prefix_refl _) (fun _ z => z) (M'.at_ n a x e1 e2 e3), M'.inj, fun a ps e => by
    by_cases c : a = L
    ·subst c
     rw [upd_same] at e
     cases e
    ·rw [upd_ne c] at e
     exact M'.ntb a ps e⟩
   ·by_cases c : a = L
    ·subst c
     rw [upd_same] at e
     cases e
     exact hL
    ·rw [upd_ne c] at e
     exact M'.le a o e
   ·have c : a ≠ L := fun z => by
     subst z
     exact nl l
    rw [upd_ne c]
    exact M'.off a l
  have st : Stp B0 μ0 m1 H0 (upd B' L (.lst vs)) μ' m' H' := ⟨s'.same.trans same, s'.pre, s'.out, fun a o n e x b => by
   obtain ⟨h1, h2⟩ := s'.hid a o n e x b
   refine ⟨?_, h2⟩
   rw [upd_ne (ne_of_none e nL)]
   exact h1⟩
  subst hm1
  obtain ⟨stu, Mu⟩ := ld R0.mem ha hm hH rl st M2 (Nat.lt_of_lt_of_le (List.getElem?_eq_some_iff.mp hm).1 hl)
  have stt := s0.trans R0.mem stu R.mem.le
  exact k _ μ' _ H' _ _ stt (R.stp stt Mu) (RW.d (.lst upd_same (rv.to same))) q'
end
def sbS : Str := "subject"
def csS : Str := "cases"
def pgS : Str := "page"
def egS : Str := "edge"
def fnS : Str := "found"
structure AnsC (K : Frag) (C : Addr) : Prop where
 cl : Cls K C
 a1 : NoAttr K C sbS
 a2 : NoAttr K C csS
 a3 : NoAttr K C fnS
 a4 : NoAttr K C pgS
 a5 : NoAttr K C egS
def g4 (C : Addr) (x : D) (rows : List D) : D := .obj C [(sbS, x), (csS, .lst rows)]
def eM : D → D
 | .lst es => .tup es
 | d => d
section
variable {P : Program} {w : World} {K : Frag} {mg : Str → Option Value} {base : Heap} {C D2 : Addr} {f cda cc : Addr} {fd : FuncData} {q file : Str}
def a8 (C : Addr) : SpD := fun ws m Q _ => ∃ (m0 : Me) (y : W), ws = [.loc m0.length, y] ∧ m = m0 ++ [.ins C []] ∧ Q (.v .non) (m0 ++ [.ins C [(sbS, y)]])
theorem bT {m0 : Me} {C : Addr} {fs : List (Str × W)} {Q : Addr → List (Str × W) → Prop} (h : Q C fs) : cn (m0 ++ [.ins C fs]) m0.length Q := by
 unfold cn
 rw [show (m0 ++ [MO.ins C fs])[m0.length]? = some (.ins C fs) from by simp]
 exact h
theorem bC {m0 : Me} {a b : MO} : (m0 ++ [a]).set m0.length b = m0 ++ [b] := by simp
theorem ii {z : W} {m0 : Me} {a b : MO} {Q : D → Prop} (ha : ∀ Q : D → Prop, ¬ cO (some a) Q) (h : look z (m0 ++ [a]) Q) : look z (m0 ++ [b]) Q := by
 cases z with
 | v d => exact h
 | loc n =>
  have h : cO (m0 ++ [a])[n]? Q := h
  show cO (m0 ++ [b])[n]? Q
  by_cases c : n < m0.length
  ·rw [List.getElem?_append_left c] at h ⊢
   exact h
  ·rw [List.getElem?_append_right (by omega)] at h ⊢
   by_cases c2 : n - m0.length = 0
   ·rw [c2] at h
    exact (ha _ h).elim
   ·rw [List.getElem?_eq_none (by simp; omega)] at h
    exact h.elim
abbrev au : Stmt := inClass (top 1) 0
abbrev cV : List Str := ["self", "subject"]
abbrev cW : List Str := ["self", "subject"]
theorem cD : FnScope cV cW (defScope au) := ⟨rfl, rfl, rfl, by decide +kernel, rfl, by decide +kernel, by decide +kernel⟩
theorem dJ (FD : FunD K "__init__" q (defArgs au) (defBody au) (defScope au) [] [] f fd) (pc : AnsC K C) : FnOk P w K mg base (L2.CX P w) 3 f fd ["self", "subject"] (af K (a8 C)) := by
 refine kY FD cD (fun ws m Q Qx h => ?_) (fun cdv A outer s H E hr => ⟨_, (ad (dW (dv 0) (dv 1))), fun ws m Qd Qx h => ?_⟩)
 ·obtain ⟨_, _, rfl, _⟩ := h
  rfl
 obtain ⟨m0, y, rfl, rfl, q⟩ := h
 show cn _ m0.length _
 refine bT ⟨pc.cl, pc.a1, by decide, ?_⟩
 rw [bC]
 exact q
abbrev ae : Stmt := inClass (top 2) 0
abbrev aS : List Str := ["self", "subject", "cases", "weights"]
abbrev dA : List Str := ["self", "subject", "cases"]
abbrev aH : List (Str × Nat) := [("weights", 3)]
theorem ay : SuScope aS dA (defScope ae) := ⟨rfl, rfl, rfl, by decide +kernel, rfl, by decide +kernel, by decide +kernel, by decide +kernel, by decide +kernel, by decide +kernel⟩
def cE (C : Addr) : SpD := fun ws m Q _ => ∃ (m0 : Me) (y z : W) (ds : List D), ws = [.loc m0.length, y, z] ∧ m = m0 ++ [.ins C []] ∧ (z = .v (.lst ds) ∨ ∃ n, z = .loc n ∧ m0[n]? = some (.lst ds)) ∧ ds.length ≤ sizeLine ∧ (∀ d ∈ ds, ∃ es, d = .lst es ∨ d = .tup es) ∧ Q (.v .non) (m0 ++ [.ins C [(sbS, y), (csS, .v (.lst (ds.map eM)))]])
theorem g5 {a b c : Option W} {m : Me} {ds : List D} {Q : W → Me → Prop} (hz : ds.length ≤ sizeLine) (hd : ∀ d ∈ ds, ∃ es, d = .lst es ∨ d = .tup es) (q : Q (.v (.lst (ds.map eM))) m) :
  lcL (gN 3) tYs (tCa (c1 ke) (tCn (tV 3) tN)) [a, b, c, none] ds [] m Q := by
 refine gX eM (by show 0 + ds.length ≤ sizeLine; omega) (fun d Qt hm hq => ?_) q
 obtain ⟨es, rfl | rfl⟩ := hd d hm
 ·exact hq
 ·exact hq
theorem jn (FS : FunS K file "__init__" q (defArgs ae) (defBody ae) (defScope ae) C f cda cc fd) (pc : AnsC K C) {f2 : Addr} {fd2 : FuncData} (M : SupM K C C "__init__" f2) (hb : Binds K fd2 ["self", "subject"] []) (F2 : FnOk P w K mg base (L2.CX P w) 3 f2 fd2 ["self", "subject"] (af K (a8 C)))
  (hm : mg "super" = none) (m_tuple : mg "tuple" = none) (hfile : ((P.main.file : Str) == file) = true) (htop : (P.main.scope.names.lookup ("super" : Str)).isSome = false) : FnOk P w K mg base (L2.CX P w) 5 f fd ["self", "subject", "cases"] (af K (cE C)) := by
 refine di FS rfl ay (fun ws m Q Qx h => ?_) fun A outer s H E hr => ?_
 ·obtain ⟨_, _, _, _, rfl, _⟩ := h
  rfl
 obtain ⟨t2, p2, k2⟩ := gD (X := cxS (L2.CX P w) P w K mg base aS q (defScope ae) f (.ref cda) cc A outer s H E) (E := E) (C := C) (sp := a8 C) (aa (dv 1) ab)
 refine ⟨_, _, _, ft (k := 3) ay FS rfl rfl rfl M F2 hb (hr.mono (by omega)) (bj (takes_of rfl rfl rfl rfl)) p2 hm hfile htop rfl, k2, ad (dW (dv 0) (DE.or (iE (own := aH) rfl ay.nd (fe (dv 2)) (blkOk_by (own := aH) (N := aS) (sc := defScope ae) (by decide +kernel)) (fun _ _ _ _ _ => (aX (i := 3) ay.nd rfl (.inl rfl))) (fun _ _ _ _ _ => bg) (fun _ _ _ _ _ => (fc m_tuple (aa (dv 3) ab))))
  (mu (own := aH) rfl ay.nd (dv 2) (blkOk_by (own := aH) (N := aS) (sc := defScope ae) (by decide +kernel)) (fun _ _ _ _ _ => (aX (i := 3) ay.nd rfl (.inl rfl))) (fun _ _ _ _ _ => bg) (fun _ _ _ _ _ => (fc m_tuple (aa (dv 3) ab)))))), fun ws m Qd Qx h => ?_⟩
 obtain ⟨m0, y, z, ds, rfl, rfl, lk, hl, hd, q⟩ := h
 refine ⟨m0.length, [], rfl, by simp, ?_⟩
 refine ⟨m0, y, rfl, rfl, ?_⟩
 have fin : cn (m0 ++ [MO.ins C [(sbS, y)]]) m0.length fun C' fs => Cls K C' ∧ NoAttr K C' csS ∧ fs.length < 1000 ∧ (iG Qd Qx).nx [some (.loc m0.length), some y, some z, none] ((m0 ++ [MO.ins C [(sbS, y)]]).set m0.length (.ins C' (gx csS (.v (.lst (ds.map eM))) fs))) := by
  refine bT ⟨pc.cl, pc.a2, by simp, ?_⟩
  rw [bC]
  exact q
 rcases lk with rfl | ⟨n, rfl, hn⟩
 ·refine .inl ?_
  exact g5 hl hd fin
 ·have hn' := (List.getElem?_eq_some_iff.mp hn).1
  refine .inr ⟨n, ds, rfl, by rw [List.getElem?_append_left hn']; exact hn, ?_⟩
  refine g5 hl hd ?_
  have e : ((m0 ++ [MO.ins C [(sbS, y)]]).set n .gone).set n (.lst ds) = m0 ++ [.ins C [(sbS, y)]] := by
   rw [List.set_set, List.set_append_left _ _ hn']
   congr 1
   obtain ⟨h1, h2⟩ := List.getElem?_eq_some_iff.mp hn
   rw [← h2]
   exact List.set_getElem_self h1
  rw [e]
  exact fin
def dj (C : Addr) : SpD := fun ws m Q _ => ∃ x rows, ws = [.v (g4 C x rows)] ∧ Q (.loc m.length) (m ++ [.lst rows])
abbrev ao : Stmt := inClass (top 2) 1
abbrev dY : List Str := ["self"]
abbrev dZ : List Str := ["self"]
theorem bN : FnScope dY dZ (defScope ao) := ⟨rfl, rfl, rfl, by decide +kernel, rfl, by decide +kernel, by decide +kernel⟩
theorem gF (FD : FunD K "weights" q (defArgs ao) (defBody ao) (defScope ao) [] [] f fd) (pc : AnsC K C) (m_list : mg "list" = none) : FnOk P w K mg base (L2.CX P w) 3 f fd ["self"] (af K (dj C)) := by
 refine kY FD bN (fun ws m Q Qx h => ?_) (fun cdv A outer s H E hr => ⟨_, (ad (az (jU m_list (bS K 0)))), fun ws m Qd Qx h => ?_⟩)
 ·obtain ⟨_, _, rfl, _⟩ := h
  rfl
 obtain ⟨x, rows, rfl, q⟩ := h
 exact ⟨C, _, _, rfl, pc.cl, pc.a2, rfl, q⟩
def cF (C : Addr) : SpD := fun ws m Q _ => ∃ x rows, ws = [.v (g4 C x rows)] ∧ Q (.v (.lst rows)) m
theorem f7 (FD : FunD K "weights" q (defArgs ao) (defBody ao) (defScope ao) [] [] f fd) (pc : AnsC K C) (m_list : mg "list" = none) : FnOk P w K mg base (L2.CX P w) 3 f fd ["self"] (af K (cF C)) := by
 refine ia FD bN (fun ws m Q Qx h => ?_) (fun cdv A outer s H E hr => ⟨_, (ad (az (iQ m_list (aa (bS K 0) ab)))), fun ws m Qd Qx h => ?_⟩)
 ·obtain ⟨_, _, rfl, _⟩ := h
  rfl
 obtain ⟨x, rows, rfl, q⟩ := h
 exact ⟨C, _, _, rfl, pc.cl, pc.a2, rfl, List.prefix_refl _, q⟩
def gG (C : Addr) : SpD := fun ws m Q _ => ∃ x rows, ws = [.v (g4 C x rows)] ∧ Q (.v (.int (rows.length : Nat))) m
abbrev aI : Stmt := inClass (top 2) 4
abbrev d0 : List Str := ["self"]
abbrev d1 : List Str := ["self"]
theorem dB : FnScope d0 d1 (defScope aI) := ⟨rfl, rfl, rfl, by decide +kernel, rfl, by decide +kernel, by decide +kernel⟩
theorem jV (FD : FunD K "__len__" q (defArgs aI) (defBody aI) (defScope aI) [] [] f fd) (pc : AnsC K C) (m_len : mg "len" = none) : FnOk P w K mg base (L2.CX P w) 3 f fd ["self"] (af K (gG C)) := by
 refine ia FD dB (fun ws m Q Qx h => ?_) (fun cdv A outer s H E hr => ⟨_, (ad (az (dn m_len (aa (bS K 0) ab)))), fun ws m Qd Qx h => ?_⟩)
 ·obtain ⟨_, _, rfl, _⟩ := h
  rfl
 obtain ⟨x, rows, rfl, q⟩ := h
 exact ⟨C, _, _, rfl, pc.cl, pc.a2, rfl, List.prefix_refl _, q⟩
def a9 (C : Addr) (b : Bool) : SpD := fun ws m Q _ => ∃ fs, ws = [.v (.obj C fs)] ∧ Q (.v (.bl b)) m
abbrev ah : Stmt := inClass (top 1) 2
abbrev cX : List Str := ["self"]
abbrev cY : List Str := ["self"]
theorem cG : FnScope cX cY (defScope ah) := ⟨rfl, rfl, rfl, by decide +kernel, rfl, by decide +kernel, by decide +kernel⟩
theorem d3 (FD : FunD K "__bool__" q (defArgs ah) (defBody ah) (defScope ah) [] [] f fd) : FnOk P w K mg base (L2.CX P w) 2 f fd ["self"] (af K (a9 C false)) := by
 refine ia FD cG (fun ws m Q Qx h => ?_) (fun cdv A outer s H E hr => ⟨_, (ad (az aW)), fun ws m Qd Qx h => ?_⟩)
 ·obtain ⟨_, rfl, _⟩ := h
  rfl
 obtain ⟨fs, rfl, q⟩ := h
 exact ⟨List.prefix_refl _, q⟩
abbrev aG : Stmt := inClass (top 2) 3
abbrev dE : List Str := ["self"]
abbrev dF : List Str := ["self"]
theorem dl : FnScope dE dF (defScope aG) := ⟨rfl, rfl, rfl, by decide +kernel, rfl, by decide +kernel, by decide +kernel⟩
theorem jo (FD : FunD K "__bool__" q (defArgs aG) (defBody aG) (defScope aG) [] [] f fd) : FnOk P w K mg base (L2.CX P w) 2 f fd ["self"] (af K (a9 C true)) := by
 refine ia FD dl (fun ws m Q Qx h => ?_) (fun cdv A outer s H E hr => ⟨_, (ad (az aW)), fun ws m Qd Qx h => ?_⟩)
 ·obtain ⟨_, rfl, _⟩ := h
  rfl
 obtain ⟨fs, rfl, q⟩ := h
 exact ⟨List.prefix_refl _, q⟩
abbrev aj : Stmt := inClass (top 3) 0
abbrev bw : List Str := ["self", "subject", "sizes"]
abbrev cZ : List Str := ["self", "subject", "sizes"]
theorem bo : SuScope bw cZ (defScope aj) := ⟨rfl, rfl, rfl, by decide +kernel, rfl, by decide +kernel, by decide +kernel, by decide +kernel, by decide +kernel, by decide +kernel⟩
def bp (C : Addr) : SpD := fun ws m Q _ => ∃ (m0 : Me) (y z : W) (kvs : List (Key × D)), ws = [.loc m0.length, y, z] ∧ m = m0 ++ [.ins C []] ∧ look z m (fun d => d = .dic kvs) ∧ Q (.v .non) (m0 ++ [.ins C [(sbS, y), (fnS, .v (.dic kvs))]])
theorem f8 (FS : FunS K file "__init__" q (defArgs aj) (defBody aj) (defScope aj) D2 f cda cc fd) (pc : AnsC K C) {f2 : Addr} {fd2 : FuncData} (M : SupM K C D2 "__init__" f2) (hb : Binds K fd2 ["self", "subject"] []) (F2 : FnOk P w K mg base (L2.CX P w) 3 f2 fd2 ["self", "subject"] (af K (a8 C)))
  (hm : mg "super" = none) (m_dict : mg "dict" = none) (hfile : ((P.main.file : Str) == file) = true) (htop : (P.main.scope.names.lookup ("super" : Str)).isSome = false) : FnOk P w K mg base (L2.CX P w) 5 f fd ["self", "subject", "sizes"] (af K (bp C)) := by
 refine di FS rfl bo (fun ws m Q Qx h => ?_) fun A outer s H E hr => ?_
 ·obtain ⟨_, _, _, _, rfl, _⟩ := h
  rfl
 obtain ⟨t2, p2, k2⟩ := gD (X := cxS (L2.CX P w) P w K mg base bw q (defScope aj) f (.ref cda) cc A outer s H E) (E := E) (C := C) (sp := a8 C) (aa (dv 1) ab)
 refine ⟨_, _, _, ft (k := 3) bo FS rfl rfl rfl M F2 hb (hr.mono (by omega)) (bj (takes_of rfl rfl rfl rfl)) p2 hm hfile htop rfl, k2, ad (dW (dv 0) (gv m_dict (aa (dv 2) ab))), fun ws m Qd Qx h => ?_⟩
 obtain ⟨m0, y, z, kvs, rfl, rfl, lk, q⟩ := h
 refine ⟨m0.length, [], rfl, by simp, ?_⟩
 refine ⟨m0, y, rfl, rfl, ?_⟩
 refine jg (ii (a := .ins C []) (fun _ h => h) lk) ?_
 rintro d rfl
 show cn _ m0.length _
 refine bT ⟨pc.cl, pc.a3, by simp, ?_⟩
 rw [bC]
 exact q
abbrev ak : Stmt := inClass (top 3) 1
abbrev d4 : List Str := ["self"]
abbrev d5 : List Str := ["self"]
theorem bO : FnScope d4 d5 (defScope ak) := ⟨rfl, rfl, rfl, by decide +kernel, rfl, by decide +kernel, by decide +kernel⟩
def d6 (C : Addr) : SpD := fun ws m Q _ => ∃ fs kvs, ws = [.v (.obj C fs)] ∧ fs.lookup fnS = some (.dic kvs) ∧ Q (.loc m.length) (m ++ [.dic kvs])
def bU (C : Addr) : SpD := fun ws m Q _ => ∃ fs kvs, ws = [.v (.obj C fs)] ∧ fs.lookup fnS = some (.dic kvs) ∧ Q (.v (.dic kvs)) m
theorem ij (FD : FunD K "sizes" q (defArgs ak) (defBody ak) (defScope ak) [] [] f fd) (pc : AnsC K C) (m_dict : mg "dict" = none) : FnOk P w K mg base (L2.CX P w) 3 f fd ["self"] (af K (d6 C)) := by
 refine kY FD bO (fun ws m Q Qx h => ?_) (fun cdv A outer s H E hr => ⟨_, (ad (az (jS m_dict (bS K 0)))), fun ws m Qd Qx h => ?_⟩)
 ·obtain ⟨_, _, rfl, _⟩ := h
  rfl
 obtain ⟨fs, kvs, rfl, hl, q⟩ := h
 exact ⟨C, fs, _, rfl, pc.cl, pc.a3, hl, q⟩
theorem eO (FD : FunD K "sizes" q (defArgs ak) (defBody ak) (defScope ak) [] [] f fd) (pc : AnsC K C) (m_dict : mg "dict" = none) : FnOk P w K mg base (L2.CX P w) 3 f fd ["self"] (af K (bU C)) := by
 refine ia FD bO (fun ws m Q Qx h => ?_) (fun cdv A outer s H E hr => ⟨_, (ad (az (gv m_dict (aa (bS K 0) ab)))), fun ws m Qd Qx h => ?_⟩)
 ·obtain ⟨_, _, rfl, _⟩ := h
  rfl
 obtain ⟨fs, kvs, rfl, hl, q⟩ := h
 exact ⟨C, fs, _, rfl, pc.cl, pc.a3, hl, List.prefix_refl _, q⟩
abbrev al : Stmt := inClass (top 4) 0
abbrev bx : List Str := ["self", "subject", "sizes", "page", "edge"]
abbrev c4 : List Str := ["self", "subject", "sizes", "page", "edge"]
theorem bq : SuScope bx c4 (defScope al) := ⟨rfl, rfl, rfl, by decide +kernel, rfl, by decide +kernel, by decide +kernel, by decide +kernel, by decide +kernel, by decide +kernel⟩
def cH (C : Addr) : SpD := fun ws m Q _ => ∃ (m0 : Me) (y z pg eg : W) (kvs : List (Key × D)), ws = [.loc m0.length, y, z, pg, eg] ∧ m = m0 ++ [.ins C []] ∧ look z m (fun d => d = .dic kvs) ∧ Q (.v .non) (m0 ++ [.ins C [(sbS, y), (fnS, .v (.dic kvs)), (pgS, pg), (egS, eg)]])
theorem jp (FS : FunS K file "__init__" q (defArgs al) (defBody al) (defScope al) C f cda cc fd) (pc : AnsC K C) {f2 : Addr} {fd2 : FuncData} (M : SupM K C C "__init__" f2) (hb : Binds K fd2 ["self", "subject", "sizes"] []) (F2 : FnOk P w K mg base (L2.CX P w) 5 f2 fd2 ["self", "subject", "sizes"] (af K (bp C)))
  (hm : mg "super" = none) (hfile : ((P.main.file : Str) == file) = true) (htop : (P.main.scope.names.lookup ("super" : Str)).isSome = false) : FnOk P w K mg base (L2.CX P w) 7 f fd ["self", "subject", "sizes", "page", "edge"] (af K (cH C)) := by
 refine di FS rfl bq (fun ws m Q Qx h => ?_) fun A outer s H E hr => ?_
 ·obtain ⟨_, _, _, _, _, _, rfl, _⟩ := h
  rfl
 obtain ⟨t2, p2, k2⟩ := gD (X := cxS (L2.CX P w) P w K mg base bx q (defScope al) f (.ref cda) cc A outer s H E) (E := E) (C := C) (sp := bp C) (aa (dv 1) (aa (dv 2) ab))
 refine ⟨_, _, _, ft (k := 5) bq FS rfl rfl rfl M F2 hb (hr.mono (by omega)) (bj (takes_of rfl rfl rfl rfl)) p2 hm hfile htop rfl, k2, ac (dW (dv 0) (dv 3)) (ad (dW (dv 0) (dv 4))), fun ws m Qd Qx h => ?_⟩
 obtain ⟨m0, y, z, pg, eg, kvs, rfl, rfl, lk, q⟩ := h
 refine ⟨m0.length, [], rfl, by simp, ?_⟩
 refine ⟨m0, y, z, kvs, rfl, rfl, lk, ?_⟩
 show cn _ m0.length _
 refine bT ⟨pc.cl, pc.a4, by simp, ?_⟩
 rw [bC]
 show cn (m0 ++ [.ins C [(sbS, y), (fnS, .v (.dic kvs)), (pgS, pg)]]) m0.length _
 refine bT ⟨pc.cl, pc.a5, by simp, ?_⟩
 rw [bC]
 exact q
end
section
variable {P : Program} {w : World} {K : Frag} {mg : Str → Option Value} {base : Heap} {C D2 : Addr} {f cda cc : Addr} {fd : FuncData} {q file : Str}
def a6 (x : Str) : Str := Str.empty ++ "about " ++ x
def g6 (x : Str) (n : Nat) : Str := Str.empty ++ a6 x ++ ": holds by " ++ (toString (n : Int) : Str) ++ " cases"
def bV (x : Str) : Str := Str.empty ++ a6 x ++ ": fails"
def g7 (x y : Str) : Str := Str.empty ++ bV x ++ " at " ++ y
theorem dL (x : Str) : Str.empty ++ x = x := by
 show (⟨#[] ++ x.cps⟩ : Str) = x
 rw [Array.empty_append]
theorem cI (x : Str) : (a6 x).length = 6 + x.length := by
 unfold a6
 have l1 : (Str.empty ++ "about " : Str).length = 6 := by decide +kernel
 rw [strLen_append, l1]
def be (C : Addr) (g : Str → Str) : SpD := fun ws m Q _ => ∃ fs x, ws = [.v (.obj C fs)] ∧ fs.lookup sbS = some (.str x) ∧ x.length ≤ 1000 ∧ Q (.v (.str (g x))) m
abbrev aR : Stmt := inClass (top 1) 1
abbrev eo : List Str := ["self"]
abbrev et : List Str := ["self"]
theorem d7 : FnScope eo et (defScope aR) := ⟨rfl, rfl, rfl, by decide +kernel, rfl, by decide +kernel, by decide +kernel⟩
theorem c5 (FD : FunD K "told" q (defArgs aR) (defBody aR) (defScope aR) [] [] f fd) (pc : AnsC K C) : FnOk P w K mg base (L2.CX P w) 3 f fd ["self"] (af K (be C a6)) := by
 refine ia FD d7 (fun ws m Q Qx h => ?_) (fun cdv A outer s H E hr => ⟨_, (ad (az (iV (.cons am (.cons (iW (bS K 0)) .nil))))), fun ws m Qd Qx h => ?_⟩)
 ·obtain ⟨_, _, rfl, _⟩ := h
  rfl
 obtain ⟨fs, x, rfl, hl, hx, q⟩ := h
 have ln := sizeLine_eq
 have l1 : (Str.empty ++ "about " : Str).length = 6 := by decide +kernel
 have l2 : (Str.empty ++ "about " ++ x : Str).length = (Str.empty ++ "about " : Str).length + x.length := strLen_append _ _
 exact ⟨by rw [l1]; omega, C, fs, _, rfl, pc.cl, pc.a1, hl, by omega, by rw [l2, l1]; omega, List.prefix_refl _, q⟩
def gH : List Stmt → List Expr
 | [.Return (some (.JoinedStr (_ :: r) _)) _] => r
 | _ => []
def fx (C : Addr) : SpD := fun ws m Q _ => ∃ x rows, ws = [.v (g4 C (.str x) rows)] ∧ x.length ≤ 1000 ∧ rows.length < 2 ^ 60 ∧ (toString ((rows.length : Nat) : Int) : Str).length ≤ 1000 ∧ Q (.v (.str (g6 x rows.length))) m
abbrev aE : Stmt := inClass (top 2) 2
abbrev dq : List Str := ["self"]
abbrev f9 : List Str := ["self"]
theorem c6 : SuScope dq f9 (defScope aE) := ⟨rfl, rfl, rfl, by decide +kernel, rfl, by decide +kernel, by decide +kernel, by decide +kernel, by decide +kernel, by decide +kernel⟩
theorem jq (FS : FunS K file "told" q (defArgs aE) (defBody aE) (defScope aE) C f cda cc fd) (pc : AnsC K C) {f2 : Addr} {fd2 : FuncData} (M : SupM K C C "told" f2) (hb : Binds K fd2 ["self"] []) (F2 : FnOk P w K mg base (L2.CX P w) 3 f2 fd2 ["self"] (af K (be C a6)))
  (hm : mg "super" = none) (m_len : mg "len" = none) (hfile : ((P.main.file : Str) == file) = true) (htop : (P.main.scope.names.lookup ("super" : Str)).isSome = false) : FnOk P w K mg base (L2.CX P w) 5 f fd ["self"] (af K (fx C)) := by
 refine di FS rfl c6 (fun ws m Q Qx h => ?_) fun A outer s H E hr => ?_
 ·obtain ⟨_, _, rfl, _⟩ := h
  rfl
 obtain ⟨us, pj, kj⟩ := fw (X := cxS (L2.CX P w) P w K mg base dq q (defScope aE) f (.ref cda) cc A outer s H E) (E := E) (C := C) (sp := be C a6) (es := gH (defBody aE)) (.cons am (.cons (iW (dn m_len (aa (bS K 0) ab))) (.cons am .nil)))
 refine ⟨_, _, _, dX (k := 3) c6 FS rfl rfl rfl M F2 hb (hr.mono (by omega)) (bj (takes_of rfl rfl rfl rfl)) hm hfile htop rfl pj, kj, aM, fun ws m Qd Qx h => ?_⟩
 obtain ⟨x, rows, rfl, hx, hr', ht, q⟩ := h
 have ln := sizeLine_eq
 have l0 := cI x
 refine ⟨_, rfl, _, x, rfl, rfl, hx, ?_⟩
 have l1 : (": holds by " : Str).length = 11 := by decide +kernel
 have l2 : (" cases" : Str).length = 6 := by decide +kernel
 have l3 : (Str.empty : Str).length = 0 := by decide +kernel
 refine ⟨by omega, by rw [strLen_append]; omega, by rw [strLen_append, strLen_append]; omega, C, _, _, rfl, pc.cl, pc.a2, rfl, ?_⟩
 have lg : ((rows.length : Nat) : Int).natAbs.log2 < 1920 := by
  have z : rows.length.log2 < 1920 := by
   by_cases c : rows.length = 0
   ·rw [c]
    decide
   ·exact Nat.lt_trans ((Nat.log2_lt c).mpr hr') (by decide)
  show (((rows.length : Nat) : Int).natAbs).log2 < 1920
  rw [Int.natAbs_natCast]
  exact z
 exact ⟨lg, by rw [strLen_append, strLen_append, strLen_append]; omega, by rw [strLen_append, strLen_append, strLen_append, strLen_append]; omega, q⟩
abbrev aw : Stmt := inClass (top 3) 2
abbrev cq : List Str := ["self"]
abbrev ev : List Str := ["self"]
theorem bW : SuScope cq ev (defScope aw) := ⟨rfl, rfl, rfl, by decide +kernel, rfl, by decide +kernel, by decide +kernel, by decide +kernel, by decide +kernel, by decide +kernel⟩
theorem gb (FS : FunS K file "told" q (defArgs aw) (defBody aw) (defScope aw) D2 f cda cc fd) {f2 : Addr} {fd2 : FuncData} (M : SupM K C D2 "told" f2) (hb : Binds K fd2 ["self"] []) (F2 : FnOk P w K mg base (L2.CX P w) 3 f2 fd2 ["self"] (af K (be C a6)))
  (hm : mg "super" = none) (hfile : ((P.main.file : Str) == file) = true) (htop : (P.main.scope.names.lookup ("super" : Str)).isSome = false) : FnOk P w K mg base (L2.CX P w) 5 f fd ["self"] (af K (be C bV)) := by
 refine di FS rfl bW (fun ws m Q Qx h => ?_) fun A outer s H E hr => ?_
 ·obtain ⟨_, _, rfl, _⟩ := h
  rfl
 obtain ⟨us, pj, kj⟩ := fw (X := cxS (L2.CX P w) P w K mg base cq q (defScope aw) f (.ref cda) cc A outer s H E) (E := E) (C := C) (sp := be C a6) (es := gH (defBody aw)) (.cons am .nil)
 refine ⟨_, _, _, dX (k := 3) bW FS rfl rfl rfl M F2 hb (hr.mono (by omega)) (bj (takes_of rfl rfl rfl rfl)) hm hfile htop rfl pj, kj, aM, fun ws m Qd Qx h => ?_⟩
 obtain ⟨fs, x, rfl, hl, hx, q⟩ := h
 have ln := sizeLine_eq
 have l0 := cI x
 have l1 : (": fails" : Str).length = 7 := by decide +kernel
 have l3 : (Str.empty : Str).length = 0 := by decide +kernel
 exact ⟨_, rfl, _, x, rfl, hl, hx, by omega, by rw [strLen_append]; omega, by rw [strLen_append, strLen_append]; omega, q⟩
def fy (C : Addr) : SpD := fun ws m Q _ => ∃ fs x y, ws = [.v (.obj C fs)] ∧ fs.lookup sbS = some (.str x) ∧ fs.lookup egS = some (.str y) ∧ x.length ≤ 1000 ∧ y.length ≤ 1000 ∧ Q (.v (.str (g7 x y))) m
abbrev ax : Stmt := inClass (top 4) 1
abbrev cr : List Str := ["self"]
abbrev ey : List Str := ["self"]
theorem bX : SuScope cr ey (defScope ax) := ⟨rfl, rfl, rfl, by decide +kernel, rfl, by decide +kernel, by decide +kernel, by decide +kernel, by decide +kernel, by decide +kernel⟩
theorem jr (FS : FunS K file "told" q (defArgs ax) (defBody ax) (defScope ax) D2 f cda cc fd) (pc : AnsC K C) {f2 : Addr} {fd2 : FuncData} (M : SupM K C D2 "told" f2) (hb : Binds K fd2 ["self"] []) (F2 : FnOk P w K mg base (L2.CX P w) 5 f2 fd2 ["self"] (af K (be C bV)))
  (hm : mg "super" = none) (hfile : ((P.main.file : Str) == file) = true) (htop : (P.main.scope.names.lookup ("super" : Str)).isSome = false) : FnOk P w K mg base (L2.CX P w) 7 f fd ["self"] (af K (fy C)) := by
 refine di FS rfl bX (fun ws m Q Qx h => ?_) fun A outer s H E hr => ?_
 ·obtain ⟨_, _, _, rfl, _⟩ := h
  rfl
 obtain ⟨us, pj, kj⟩ := fw (X := cxS (L2.CX P w) P w K mg base cr q (defScope ax) f (.ref cda) cc A outer s H E) (E := E) (C := C) (sp := be C bV) (es := gH (defBody ax)) (.cons am (.cons (iW (bS K 0)) .nil))
 refine ⟨_, _, _, dX (k := 5) bX FS rfl rfl rfl M F2 hb (hr.mono (by omega)) (bj (takes_of rfl rfl rfl rfl)) hm hfile htop rfl pj, kj, aM, fun ws m Qd Qx h => ?_⟩
 obtain ⟨fs, x, y, rfl, hl, hl2, hx, hy, q⟩ := h
 have ln := sizeLine_eq
 have l0 := cI x
 have l1 : (": fails" : Str).length = 7 := by decide +kernel
 have l2 : (" at " : Str).length = 4 := by decide +kernel
 have l3 : (Str.empty : Str).length = 0 := by decide +kernel
 have l4 : (bV x).length = 13 + x.length := by
  unfold bV
  rw [strLen_append, strLen_append]
  omega
 exact ⟨_, rfl, _, x, rfl, hl, hx, by omega, by rw [strLen_append]; omega, by rw [strLen_append, strLen_append]; omega, C, fs, _, rfl, pc.cl, pc.a5, hl2, by omega, by rw [strLen_append, strLen_append, strLen_append]; omega, q⟩
end
section
variable {X : Cx} {E : XK}
def mv (tk tv : DTE) : DTE := fun en m Q Qx => tk en m (fun y m1 => tv en m1 (fun z m2 => oD y fun dy => i6 dy fun k => oD z fun dz => Q (.loc m2.length) (m2 ++ [.dic [(k, dz)]])) Qx) Qx
theorem lf {kx vx : Expr} {tk tv : DTE} {pos : Pos} (hk : DE X E kx tk) (hv : DE X E vx tv) : DE X E (.Dict [some kx] [vx] pos) (mv tk tv) := by
 obtain ⟨t1, p1, k1⟩ := hk.ex
 obtain ⟨t2, p2, k2⟩ := hv.ex
 refine ⟨_, pe_disp (pps_cons p1 p2 pps_nil) rfl rfl (by simp) (by show 1 ≤ 15; decide), fun B μ en m σ H Q Qx QV R hx T k => ?_⟩
 intro L nL
 obtain ⟨nb, nl⟩ := R.mem.none nL
 have kp : ∀ b o, b ≠ L → H b = some o → upd H L (.dK []) b = some o := fun b o c e => by rw [upd_ne c]; exact e
 have s0 : Stp B μ m H B μ m (upd H L (.dK [])) := Stp.refl.touch nL kp
 have M0 := R.mem.touch nb nl kp
 have dk : ∀ {vs : List (Key × V)}, (∀ q, HO.dK vs ≠ LamX.CodeO L q) ∧ ∀ ps, HO.dK vs ≠ .tbl ps := fun {vs} => ⟨(fun _ z => nomatch z), (fun _ z => nomatch z)⟩
 refine k1 B μ en m σ _ _ Qx _ (R.stp s0 M0) (hx.step s0 M0 R.mem.le) T fun B1 μ1 m1 H1 y v s1 R1 r1 T1 => ?_
 have s01 := s0.trans M0 s1 R.mem.le
 obtain ⟨nb1, nl1⟩ := s1.hid L _ nl upd_same dk nb
 have hL1 := s1.out L _ nl upd_same dk.2
 refine k2 B1 μ1 en m1 σ H1 _ Qx _ R1 (hx.step s01 R1.mem R.mem.le) T1 fun B2 μ2 m2 H2 z u s2 R2 r2 T2 => ?_
 have s02 := s01.trans R1.mem s2 R.mem.le
 obtain ⟨nb2, nl2⟩ := s2.hid L _ nl1 hL1 dk nb1
 have hL2 := s2.out L _ nl1 hL1 dk.2
 cases y with
 | loc n => exact T2.elim
 | v dy =>
  have r1' : Rv X.K B2 v dy := Rv.to s2.same r1
  obtain ⟨kk, rfl, ko, T2⟩ := fj (r1'.top (H := H2) R2.mem.le) T2
  cases z with
  | loc n => exact T2.elim
  | v dz =>
   have kp2 : ∀ b o, b ≠ L → H2 b = some o → upd H2 L (.dK (mergeK [] [(kk, u)])) b = some o := fun b o c e => by rw [upd_ne c]; exact e
   obtain ⟨st, M3⟩ := jk (vs := mergeK [] [(kk, u)]) (acc := [(kk, dz)]) R.mem nL (s02.touch nL kp2) (R2.mem.touch nb2 nl2 kp2) nb2 nl2 upd_same (.cons ko r2 .nil)
   refine ⟨hL2, [(kk, u)], rfl, by show 1 ≤ 15; decide, ?_⟩
   refine k _ _ _ _ (.loc m2.length) _ st (R.stp st M3) ⟨L, rfl, ?_⟩ T2
   rw [← R2.mem.len]
   simp
end
theorem ik {K : Frag} {B1 B' : Hp} {μ1 μ' : List Addr} {m1 m' : Me} {H1 H' : Hp} {L : Addr} {vs : List V} {acc : List D} (M1 : MemOk K B1 μ1 m1 H1) (nL : H1 L = none) (s' : Stp B1 μ1 m1 H1 B' μ' m' H') (M' : MemOk K B' μ' m' H') (nb : B' L = none) (nl : ¬ Live μ' m' L) (hL : H' L = some (.lst vs)) (rv : RvL K B' vs acc) :
  Stp B1 μ1 m1 H1 B' (μ' ++ [L]) (m' ++ [.lst acc]) H' ∧ MemOk K B' (μ' ++ [L]) (m' ++ [.lst acc]) H' := by
 have at1 : ∀ {n : Nat} {a : Addr} {x : MO}, (μ' ++ [L])[n]? = some a → (m' ++ [MO.lst acc])[n]? = some x → (μ'[n]? = some a ∧ m'[n]? = some x) ∨ (n = m'.length ∧ a = L ∧ x = .lst acc) := fun {n a x} e1 e2 => by
  by_cases c : n < m'.length
  ·rw [List.getElem?_append_left (by rw [M'.len]; exact c)] at e1
   rw [List.getElem?_append_left c] at e2
   exact .inl ⟨e1, e2⟩
  ·have hn := (List.getElem?_eq_some_iff.mp e2).1
   rw [List.length_append, List.length_singleton] at hn
   have en : n = m'.length := by omega
   subst en
   rw [List.getElem?_append_right (by omega), Nat.sub_self] at e2
   rw [List.getElem?_append_right (by rw [M'.len]; omega), M'.len, Nat.sub_self] at e1
   cases e1
   cases e2
   exact .inr ⟨rfl, rfl, rfl⟩
 refine ⟨⟨s'.same, s'.pre.trans (List.prefix_append _ _), s'.out, fun a o n e x b => ?_⟩, ⟨M'.le, by simp [M'.len], fun a l => ?_, fun n a x e1 e2 e3 => ?_, fun n k a x y e1 e2 e3 e4 l1 l2 => ?_, M'.ntb⟩⟩
 ·obtain ⟨h1, h2⟩ := s'.hid a o n e x b
  refine ⟨h1, fun ⟨k, y, e1, e2, e3⟩ => ?_⟩
  rcases at1 e1 e2 with ⟨e1, e2⟩ | ⟨_, rfl, _⟩
  ·exact h2 ⟨k, y, e1, e2, e3⟩
  ·rw [nL] at e
   cases e
 ·obtain ⟨k, y, e1, e2, e3⟩ := l
  rcases at1 e1 e2 with ⟨e1, e2⟩ | ⟨_, rfl, _⟩
  ·exact M'.off a ⟨k, y, e1, e2, e3⟩
  ·exact nb
 ·rcases at1 e1 e2 with ⟨e1, e2⟩ | ⟨_, rfl, rfl⟩
  ·exact OO.to (Same.refl _) (List.prefix_append _ _) (fun _ z => z) (M'.at_ n a x e1 e2 e3)
  ·exact ⟨vs, hL, rv⟩
 ·rcases at1 e1 e3 with ⟨f1, f3⟩ | ⟨z1, h1, _⟩
  ·rcases at1 e2 e4 with ⟨f2, f4⟩ | ⟨z2, h2, _⟩
   ·exact M'.inj n k a x y f1 f2 f3 f4 l1 l2
   ·rw [h2] at f1
    exact (nl ⟨n, x, f1, f3, l1⟩).elim
  ·rcases at1 e2 e4 with ⟨f2, f4⟩ | ⟨z2, _, _⟩
   ·rw [h1] at f2
    exact (nl ⟨k, y, f2, f4, l2⟩).elim
   ·omega
def mw (Q : W → Me → Prop) : W → Me → Prop := fun x m => match x with
 | .v (.lst acc) => Q (.loc m.length) (m ++ [.lst acc])
 | _ => False
def kA (ti : DTI) (g : DTG) (tt : DTT) (te : DTE) (vs : List Nat) : DTE := fun en m Q Qx => ti en m (fun its m1 => lcL g tt te (bm en vs) its [] m1 (mw Q)) Qx
section
variable {X : Cx} {E : XK}
theorem SE.lcO {elt tg iter : Expr} {is : List Nat} {own : List (Str × Nat)} {ti : DTI} {g : DTG} {tt : DTT} {te : DTE} {t0 : TI} (p0 : PI X tg iter t0) (k0 : ∀ B μ en m σ H (Q : List D → Me → Prop) (Qx : QX) (QV : It → Hp → Prop), Rel X.K B μ en m σ H → ExOf X.K E B μ m H Qx → ti en m Q Qx →
  (∀ B' μ' m' H' its J, Stp B μ m H B' μ' m' H' → Rel X.K B' μ' en m' σ H' → cK X.K B' J its → Q its m' → QV J H') → t0 σ H QV) (hv : is.all (fun i => (own.map (·.2)).contains i) = true) :
  SE X E (tLc t0 (Fs.lG X.K is g) (Fs.lT X.K E0 tt) (Fs.lE X.K E0 te) (own.map (·.2))) (kA ti g tt te (own.map (·.2))) := by
 have hv' : ∀ i ∈ is, i ∈ own.map (·.2) := fun i h => List.contains_iff_mem.mp (List.all_eq_true.mp hv i h)
 intro B μ en m σ H Q0 Qx QV R hx T k
 obtain ⟨Q, hQ⟩ : ∃ Q, Q = mw Q0 := ⟨_, rfl⟩
 have T : ti en m (fun its m1 => lcL g tt te (bm en (own.map (·.2))) its [] m1 Q) Qx := by rw [hQ]; exact T
 refine k0 B μ en m σ H _ Qx _ R hx T fun B1 μ1 m1 H1 its J s1 R1 ⟨G, Y, w, hG, hY⟩ q => ?_
 intro L nL
 obtain ⟨nb1, nl1⟩ := R1.mem.none nL
 have Rw := R1.wipe (own.map (·.2))
 generalize hen : bm en (own.map (·.2)) = enw at q Rw
 refine lc_it w (fun i H' => ∃ B' μ' m' vs acc, Stp B1 μ1 m1 H1 B' μ' m' H' ∧ MemOk X.K B' μ' m' H' ∧ B' L = none ∧ ¬ Live μ' m' L ∧ H' L = some (.lst vs) ∧ RvL X.K B' vs acc ∧ lcL g tt te enw (its.drop i) acc m' Q) ?_ (fun i H' _ ⟨B', μ', m', vs, acc, s', M', _⟩ => hG B' μ' m' H' s'.same M') (fun i x H2 H3 hi ⟨B', μ', m', vs, acc, s', M', nb, nl, hL, rv, q'⟩ y => ?_) (fun H' ⟨B', μ', m', vs, acc, s', M', nb, nl, hL, rv, q'⟩ => ?_)
 ·have kp : ∀ b o, b ≠ L → H1 b = some o → upd H1 L (.lst []) b = some o := fun b o c e => by rw [upd_ne c]; exact e
  exact ⟨B1, μ1, m1, [], [], Stp.refl.touch nL kp, R1.mem.touch nb1 nl1 kp, nb1, nl1, upd_same, .nil, q⟩
 ·obtain ⟨B3, d, hd, s3, m3, rd⟩ := hY i B' μ' m' H2 x H3 hi s'.same M' y
  have s13 := s'.trans M' s3 R1.mem.le
  obtain ⟨nb3, nl3⟩ := s3.hid L _ nl hL ⟨(fun _ z => nomatch z), (fun _ z => nomatch z)⟩ nb
  have hL3 := s3.out L _ nl hL (fun _ z => nomatch z)
  have R3 : Rel X.K B3 μ' enw m' (L2.wipe σ (own.map (·.2))) H3 := Rw.stp s13 m3
  rw [List.drop_eq_getElem_cons hi] at q'
  have ed : its[i] = d := by
   rw [List.getElem?_eq_getElem hi] at hd
   exact Option.some.inj hd
  rw [ed] at q'
  refine ⟨B3, μ', enw, m', .v d, _, R3, rd, q', fun B4 μ4 en4 m4 σ4 H4 s4 R4 st4 q4 => ⟨by rw [st4.wipe hv', bB], ?_⟩⟩
  have s14 := s13.trans m3 s4 R1.mem.le
  obtain ⟨nb4, nl4⟩ := s4.hid L _ nl3 hL3 ⟨(fun _ z => nomatch z), (fun _ z => nomatch z)⟩ nb3
  have hL4 := s4.out L _ nl3 hL3 (fun _ z => nomatch z)
  refine ⟨B4, μ4, en4, m4, _, noX, R4, ExOf.no, q4, fun B5 μ5 m5 H5 b s5 R5 q5 => ?_⟩
  have s15 := s14.trans R4.mem s5 R1.mem.le
  obtain ⟨nb5, nl5⟩ := s5.hid L _ nl4 hL4 ⟨(fun _ z => nomatch z), (fun _ z => nomatch z)⟩ nb4
  have hL5 := s5.out L _ nl4 hL4 (fun _ z => nomatch z)
  have rv5 := rv.to ((s3.same.trans s4.same).trans s5.same)
  cases b with
  | false => exact iteF ⟨B5, μ5, m5, vs, acc, s15, R5.mem, nb5, nl5, hL5, rv5, q5⟩
  | true =>
   refine iteT ⟨B5, μ5, en4, m5, _, noX, R5, ExOf.no, q5, fun B6 μ6 m6 H6 y v s6 R6 r6 q6 => ?_⟩
   cases y with
   | loc n => exact q6.elim
   | v dy =>
    obtain ⟨lz, q6⟩ := q6
    have s16 := s15.trans R5.mem s6 R1.mem.le
    obtain ⟨nb6, nl6⟩ := s6.hid L _ nl5 hL5 ⟨(fun _ z => nomatch z), (fun _ z => nomatch z)⟩ nb5
    have hL6 := s6.out L _ nl5 hL5 (fun _ z => nomatch z)
    have rv6 := rv5.to s6.same
    have kp : ∀ b o, b ≠ L → H6 b = some o → upd H6 L (.lst (vs ++ [v])) b = some o := fun b o c e => by rw [upd_ne c]; exact e
    exact ⟨vs, hL6, by rw [rv6.len]; exact lz, B6, μ6, m6, vs ++ [v], acc ++ [dy], s16.touch nL kp, R6.mem.touch nb6 nl6 kp, nb6, nl6, upd_same, rv6.append (.one r6), q6⟩
 ·rw [List.drop_length] at q'
  have q' : Q (.v (.lst acc)) m' := q'
  rw [hQ] at q'
  obtain ⟨st, M2⟩ := ik (acc := acc) R1.mem nL s' M' nb nl hL rv
  have stt := s1.trans R1.mem st R.mem.le
  refine k _ _ _ _ (.loc m'.length) _ stt (R.stp stt M2) ⟨L, rfl, ?_⟩ q'
  rw [← M'.len]
  simp
end
structure GmKP (P : Program) (w : World) (K : Frag) (mg : Str → Option Value) (base : Heap) (k : Nat) (x : Str) (C : Addr) (ks : List Str) (gV : List V → List V → List V) (sp : SpD) : Prop where
 ex : ∃ f fd ps g, mg x = some (.ref C) ∧ Mk K C f ∧ KBn K fd ps 1 ks g gV ∧ FnOk P w K mg base (L2.CX P w) k f fd ps (af K sp)
def nk (C : Addr) (n : Nat) (pm : List W → List W) (sp : SpD) (tk : DTA) : DTE := fun en m Q Qx => tk en m (fun zs m1 => zs.length = n ∧ mkD C sp (pm zs) m1 Q Qx) Qx
section
variable {X : Cx} {E : XK}
theorem mx {x : Str} {C : Addr} {k : Nat} {sp : SpD} {ks : List Str} {kws : List Keyword} {Tk : DTA} {p pos : Pos} {gV : List V → List V → List V} {pm : List W → List W} (G : GmKP X.prog X.w X.K X.mg X.base k x C ks gV sp)
  (hP : ∀ B μ a zs xs, zs.length = ks.length → RWs X.K B μ zs xs → ∃ zs', gV [.ref a] zs = .ref a :: zs' ∧ RWs X.K B μ zs' (pm xs)) (hr : Room (k + 1) X.A) (hx : Passes (L2.CX X.prog X.w) X E) (hkw : DK X E kws Tk) (hg : Gl X x := by rfl)
  (hall : (backToKw pos (keywordEach kws X.env)).all (·.1.isSome) = true := by rfl) (hks : (backToKw pos (keywordEach kws X.env)).filterMap (·.1) = ks := by rfl) (hdb : (x == ("__debug__" : Str)) = false := by decide)
  (hpl : ((backTo pos (starEach [] X.env)).any (·.1) || (backToKw pos (keywordEach kws X.env)).any (·.1.isNone)) = false := by rfl) : DE X E (.Call (.Name x p) [] kws pos) (nk C ks.length pm sp Tk) := by
 obtain ⟨t2, p2, k2⟩ := hkw.ex
 obtain ⟨f, fd, ps, g, hm, M, hb, F⟩ := G.ex
 have pe : PE X (.Call (.Name x p) [] kws pos) (fun σ H Q => t2 σ H fun zs H2 => zs.length = ks.length ∧ ∀ a dx, H2 a = none → H2 dx = none → dx ≠ a → af X.K sp (gV [.ref a] zs) (upd (upd H2 dx (.own a)) a (.ins C dx [])) (fun v H3 => v = .non ∧ Q (.ref a) H3) E) := by
  constructor
  intro pins s σ H Q I h
  refine wpAny_Call_Name_kw (ld_glob I hg hm ?_ hdb)
  refine PySem.W.callWith_KW0 (h₀ := X.base) I.ok.mod.kin M.kp hall ?_ hpl
  refine thn (p2.run pos pins s σ H _ I h) ?_
  rintro ws s2 ⟨zs, H2, I2, rz, l2, q2⟩
  refine ⟨I2.kIn, ?_⟩
  rw [hks]
  exact run_makeN (n := 0) (us := []) (vs := []) M F hr hb hx I2 .nil rz rfl l2 q2
 refine ⟨_, pe, fun B μ en m σ H Q Qx QV R hx' T kk => ?_⟩
 refine k2 B μ en m σ H _ Qx _ R hx' T fun B1 μ1 m1 H1 xs vs s1 R1 r q => ?_
 refine ⟨by rw [r.len]; exact q.1, fun a dx na nd da => ?_⟩
 obtain ⟨zs', e, r'⟩ := hP B1 μ1 a vs xs (by rw [r.len]; exact q.1) r
 rw [e]
 exact gw (QV := QV) R1.mem r' q.2 (hx'.step s1 R1.mem R.mem.le) (fun B' H' v d st M' rv qd => kk B' μ1 m1 H' (.v d) v (s1.trans R1.mem st R.mem.le) (R1.stp st M') (RW.d rv) qd) a dx na nd da
theorem il {i : Nat} {y : Str} {py : Pos} {elt tg iter : Expr} {ifs : List Expr} {scope : Scope} {own : List (Str × Nat)} {is : List Nat} {pos spos : Pos} {ti : DTI} {g : DTG} {tt : DTT} {te : DTE} (hy : X.N[i]? = some y) (hyl : X.env.scope.names.lookup y = some .local)
  (hsw : swapsWith (.ListComp elt [⟨tg, iter, ifs, 0⟩] scope pos) (some (.Name y py)) spos.line X.env = pure true) (hc : X.calm = true) (hN : X.N.Nodup) (hi : DI X E tg iter ti) (ok : BlkOk X.N X.env.scope scope own)
  (hg : ∀ (s : Shared) (H : Hp) (C : Addr) (cl : List (Str × Addr)) (fp : List Addr), DG (X.blk s H scope (compEnvC scope cl C X.env) fp) tg is g) (ht : ∀ (s : Shared) (H : Hp) (C : Addr) (cl : List (Str × Addr)) (fp : List Addr), DTs (X.blk s H scope (compEnvC scope cl C X.env) fp) E0 ifs tt)
  (he : ∀ (s : Shared) (H : Hp) (C : Addr) (cl : List (Str × Addr)) (fp : List Addr), DE (X.blk s H scope (compEnvC scope cl C X.env) fp) E0 elt te) (hs : ∀ x, foldedSetIterable iter X.env x = pure x := by intro _; rfl) (hv : is.all (fun i => (own.map (·.2)).contains i) = true := by rfl) :
  DS X E (.Assign [.Name y py] (.ListComp elt [⟨tg, iter, ifs, 0⟩] scope pos) spos) (kF i (kA ti g tt te (own.map (·.2)))) := by
 obtain ⟨t0, p0, k0⟩ := hi.ex
 have se := SE.lcO (elt := elt) (E := E) (g := g) (tt := tt) (te := te) (own := own) p0 k0 hv
 refine ⟨_, ps_setLc hc hN hy hyl hsw p0 ok (g := lG X.K is g) (tt := lT X.K E0 tt) (te := lE X.K E0 te) (fun s H C cl fp => (hg s H C cl fp).pg) (fun s H C cl fp => (ht s H C cl fp).pts) (fun s H C cl fp => (he s H C cl fp).pe) hs, fun B μ en m σ H N D R hx T e => ?_⟩
 exact se B μ en m σ H _ _ _ R hx T fun B1 μ1 m1 H1 x v s1 R1 r q => e.nx B1 μ1 _ m1 _ H1 s1 (R1.set r) q
end
def d8 {α : Type} : List α → List α → List α
 | vs, [a, b, c, d] => vs ++ [d, c, b, a]
 | vs, zs => vs ++ zs
abbrev aV : Stmt := top 9
abbrev bY : List Str := ["_law_found", "_law_due", "_law_k", "_law_key"]
abbrev bZ : List Str := ["_law_found", "_law_due"]
abbrev cs : List (Str × Nat) := [("_law_k", 2)]
abbrev cu : List (Str × Nat) := [("_law_key", 3)]
theorem aP : FnScope bY bZ (defScope aV) := ⟨rfl, rfl, rfl, by decide +kernel, rfl, by decide +kernel, by decide +kernel⟩
section
variable {P : Program} {w : World} {K : Frag} {mg : Str → Option Value} {base : Heap}
def my : D → Bool
 | .non | .bl _ | .int _ | .str _ => true
 | _ => false
def c7 : Nat → D → Prop
 | 0, _ => False
 | n + 1, .lst ds => ds.length < 2 ^ 20 ∧ ∀ d ∈ ds, c7 n d
 | n + 1, .tup ds => ds.length < 2 ^ 20 ∧ ∀ d ∈ ds, c7 n d
 | n + 1, .dic kvs => ∃ l : FT, kvs = kvF l ∧ (bR l).Nodup ∧ l.length < 64 ∧ ∀ p ∈ l, c7 n (frD p.2)
 | _ + 1, d => my d = true
theorem aJ : ∀ {n : Nat} {d : D}, c7 n d → c7 (n + 1) d
 | 0, _, h => h.elim
 | n + 1, .lst _, h => ⟨h.1, fun d hd => aJ (h.2 d hd)⟩
 | n + 1, .tup _, h => ⟨h.1, fun d hd => aJ (h.2 d hd)⟩
 | n + 1, .non, h => h
 | n + 1, .bl _, h => h
 | n + 1, .int _, h => h
 | n + 1, .str _, h => h
 | n + 1, .ty _, h => h
 | n + 1, .fn _, h => h
 | n + 1, .dic _, ⟨l, e, nd, hl, h⟩ => ⟨l, e, nd, hl, fun p hp => aJ (h p hp)⟩
 | n + 1, .obj _ _, h => h
 | n + 1, .exc _ _, h => h
 | n + 1, .lam _ _ _, h => h
theorem jW {n : Nat} {ds : List D} (h1 : ds.length < 2 ^ 20) (h2 : ∀ d ∈ ds, c7 n d) : c7 (n + 1) (.tup ds) := ⟨h1, h2⟩
def g8 (n : Nat) : SpD := fun ws m Q _ => ∃ d, ws = [.v d, .v d] ∧ c7 n d ∧ Q (.v (.bl true)) m
theorem nn {c : Bool} {A B : Prop} (hc : c = false) (h : B) : if c = true then A else B := by
 subst hc
 exact iteF h
theorem b3 : ∀ ns : List Str, plainL (ns.map .str) = true
 | [] => rfl
 | x :: xs => b3 xs
theorem d9 : ∀ ns : List Str, depL (ns.map .str) = 0
 | [] => rfl
 | x :: xs => by
  show max 0 (depL (xs.map .str)) = 0
  rw [d9 xs]
  rfl
theorem eQ (ns : List Str) : e7 (.lst (ns.map .str)) ≤ 64 := by
 show depL _ + 1 ≤ 64
 rw [d9]
 decide
theorem eR : ∀ ns : List Str, deqL (ns.map .str) (ns.map .str) = true
 | [] => rfl
 | x :: xs => by
  show ((x == x) && deqL (xs.map .str) (xs.map .str)) = true
  rw [eR xs]
  simp
theorem gc : ∀ {l : FT} {x : Str} {v : Int × Int}, l.lookup x = some v → (x, v) ∈ l
 | (g, u) :: l, x, v, h => by
  rw [List.lookup_cons] at h
  by_cases c : x = g
  ·subst c
   simp at h
   rw [h]
   exact List.mem_cons_self ..
  ·have e : (x == g) = false := by simpa using c
   rw [e] at h
   exact List.mem_cons_of_mem _ (gc h)
theorem c8 {Q : List Bool → Prop} : ∀ n : Nat, Q (List.replicate n true) → gT (List.replicate n (.bl true)) Q
 | 0, h => h
 | n + 1, h => c8 (Q := fun bs => Q (true :: bs)) n h
theorem g9 {i : Nat} {its ys : List D} (h : All2 (fun _ _ y => y = .bl true) i its ys) : ys = List.replicate its.length (.bl true) := by
 induction h with
 | nil => rfl
 | cons r _ ih => rw [r, ih, List.length_cons, List.replicate_succ]
theorem fz (G : Gs K mg "_law_same" aV) (m_isinstance : mg "isinstance" = none) (m_tuple : mg "tuple" = none) (m_list : mg "list" = none) (m_all : mg "all" = none) (m_range : mg "range" = none) (m_len : mg "len" = none) (m_dict : mg "dict" = none) (m_int : mg "int" = none) (m_bool : mg "bool" = none) (m_str : mg "str" = none) (m_sorted : mg "sorted" = none) :
  ∀ n : Nat, Gd P w K mg base (L2.CX P w) (n + 1) "_law_same" bZ (af K (g8 n)) := by
 intro n
 induction n with
 | zero =>
  refine Fo.gd (iv aP (fun vs H Q E h => ?_) (fun f cdv A outer s H vs Q E hr h => ?_)) G (fun _ _ _ _ _ _ us hl => match us, hl with | [_, _], _ => rfl)
  ·obtain ⟨_, _, _, _, _, _, _, r, ⟨_, _, f, _⟩, _⟩ := h
   exact f.elim
  ·obtain ⟨_, _, _, _, _, _, _, r, ⟨_, _, f, _⟩, _⟩ := h
   exact f.elim
 | succ n g__law_same =>
 refine Fo.gd (iI aP (fun ws m Q Qx h => ?_) (fun f cdv A outer s H E hr => ⟨_, (ac (ci (cz (kQ m_isinstance (dv 1) (pe_bltn (v := .ty "list") (by rfl) m_list (by decide +kernel) rfl) (pe_bltn (v := .ty "tuple") (by rfl) m_tuple (by decide +kernel) rfl)))
   (ac (ci (DW.dt (fI (bA (hJ (u64 hr)) (bM m_isinstance (aa (dv 0) (aa (dr (n := "list") m_list (by decide +kernel)) ab))) (bM m_isinstance (aa (dv 1) (aa (dr (n := "list") m_list (by decide +kernel)) ab))) (nomark _)) (dP (bA (hJ (u64 hr)) (bM m_isinstance (aa (dv 0) (aa (dr (n := "tuple") m_tuple (by decide +kernel)) ab))) (bM m_isinstance (aa (dv 1) (aa (dr (n := "tuple") m_tuple (by decide +kernel)) ab))) (nomark _)))))
    (ad (az aW))
    aM)
   (ad (az (iz (fH (kL (u64 hr)) (dn m_len (aa (dv 0) ab)) (dn m_len (aa (dv 1) ab)) (nomark _)) (iy (kf rfl m_all (aa (iE (own := cs) rfl aP.nd (bi m_range (aa (dn m_len (aa (dv 1) ab)) ab)) (blkOk_by (own := cs) (N := bY) (sc := defScope aV) (by decide +kernel)) (fun _ _ _ _ _ => (aX (i := 2) aP.nd rfl (.inl rfl))) (fun _ _ _ _ _ => bg) (fun _ _ _ _ _ => (aA g__law_same (hr.mono (by omega)) aB (aa (du (dv 0) (dv 2)) (aa (du (dv 1) (dv 2)) ab))))) ab)))))))
   aM)
  (ac (ci (cz (bM m_isinstance (aa (dv 1) (aa (dr (n := "dict") m_dict (by decide +kernel)) ab))))
   (ac (ci (DW.dt (fI (dQ (cz (bM m_isinstance (aa (dv 0) (aa (dr (n := "dict") m_dict (by decide +kernel)) ab))))) (dP (bA (hJ (u64 hr)) (kq rfl m_sorted (aa (dv 0) ab)) (kq rfl m_sorted (aa (dv 1) ab)) (nomark _)))))
    (ad (az aW))
    aM)
   (ad (az (kf rfl m_all (aa (iE (own := cu) rfl aP.nd (fe (dv 1)) (blkOk_by (own := cu) (N := bY) (sc := defScope aV) (by decide +kernel)) (fun _ _ _ _ _ => (aX (i := 3) aP.nd rfl (.inl rfl))) (fun _ _ _ _ _ => bg) (fun _ _ _ _ _ => (aA g__law_same (hr.mono (by omega)) aB (aa (l6 (u65 hr) (dv 0) (dv 3)) (aa (l6 (u65 hr) (dv 1) (dv 3)) ab))))) ab)))))
   aM)
  (ac (ci (DW.dt (fI (bA jE (dv 1) gL (nomark _)) (dP (bA jE (dv 0) gL (nomark _)))))
   (ad (az (iz (fH jE (dv 0) gL (nomark _)) (iy (fH jE (dv 1) gL (nomark _))))))
   aM)
  (ac (ci (DW.dt (fI (bA (hJ (u64 hr)) (bM m_isinstance (aa (dv 1) (aa (dr (n := "bool") m_bool (by decide +kernel)) ab))) (bM m_isinstance (aa (dv 0) (aa (dr (n := "bool") m_bool (by decide +kernel)) ab))) (nomark _)) (dP (bA (hJ (u64 hr)) (bM m_isinstance (aa (dv 1) (aa (dr (n := "int") m_int (by decide +kernel)) ab))) (bM m_isinstance (aa (dv 0) (aa (dr (n := "int") m_int (by decide +kernel)) ab))) (nomark _)))))
   (ad (az aW))
   aM)
  (ad (az (iz (fH (kL (u64 hr)) (bM m_isinstance (aa (dv 1) (aa (dr (n := "str") m_str (by decide +kernel)) ab))) (bM m_isinstance (aa (dv 0) (aa (dr (n := "str") m_str (by decide +kernel)) ab))) (nomark _)) (iy (fH (kL (u64 hr)) (dv 0) (dv 1) (nomark _)))))))))), fun ws m Qd Qx h => ?_⟩) [] []) G (fun _ _ _ _ _ _ us hl => match us, hl with | [_, _], _ => rfl)
 ·obtain ⟨_, rfl, _⟩ := h
  rfl
 ·obtain ⟨d, rfl, hf, q⟩ := h
  have ln := sizeLine_eq
  have lp : ∀ (x : D) (ds : List D) (Q : W → Me → Prop) (g : DTG) (te : DTE) (en : En), ds.length < 2 ^ 20 → (∀ j (Qt : W → Me → Prop), (hj : j < ds.length) → Qt (.v (.bl true)) m → g (.v (.int (0 + (j : Nat)))) en m fun en1 m1 => te en1 m1 Qt noX) → Q (.v (.lst (List.replicate ds.length (.bl true)))) m → lcL g tYs te en (ef 0 ds.length) [] m Q := fun x ds Q g te en hl h k => by
   refine b9 (fun _ _ y => y = .bl true) 0 (by rw [aY]; show 0 + _ ≤ _; omega) (fun j d Qt hd hq => ?_) fun ys hys => ?_
   ·obtain ⟨rfl, hj⟩ := fg hd
    exact h j Qt hj (hq _ rfl)
   ·rw [g9 hys, aY]
    exact k
  cases d with
  | lst ds =>
   obtain ⟨h1, h2⟩ := hf
   refine ⟨rfl, rfl, rfl, rfl, rfl, Nat.zero_le _, Nat.zero_le _, rfl, rfl, rfl, rfl, Nat.zero_le _, Nat.zero_le _, rfl, rfl, Nat.zero_le _, Nat.zero_le _, iw (by show ((ds.length : Int) == (ds.length : Int)) = true; simp) ?_⟩
   refine ⟨by omega, by omega, lp (.lst ds) ds _ _ _ _ h1 (fun j Qt hj hq => ?_) ?_⟩
   ·have a := eB (xs := ds) (i := (0 : Int) + (j : Nat)) (by omega) (by omega)
    exact ⟨_, a, _, a, _, rfl, h2 _ (b7 a), hq⟩
   ·refine c8 _ ⟨List.prefix_refl _, ?_⟩
    have : (List.replicate ds.length true).all id = true := by simp
    show Qd (.v (.bl ((List.replicate ds.length true).all id))) m
    rw [this]
    exact q
  | tup ds =>
   obtain ⟨h1, h2⟩ := hf
   refine ⟨rfl, rfl, rfl, rfl, rfl, Nat.zero_le _, Nat.zero_le _, rfl, rfl, rfl, rfl, Nat.zero_le _, Nat.zero_le _, rfl, rfl, Nat.zero_le _, Nat.zero_le _, iw (by show ((ds.length : Int) == (ds.length : Int)) = true; simp) ?_⟩
   refine ⟨by omega, by omega, lp (.tup ds) ds _ _ _ _ h1 (fun j Qt hj hq => ?_) ?_⟩
   ·have a := eB (xs := ds) (i := (0 : Int) + (j : Nat)) (by omega) (by omega)
    exact ⟨_, a, _, a, _, rfl, h2 _ (b7 a), hq⟩
   ·refine c8 _ ⟨List.prefix_refl _, ?_⟩
    have : (List.replicate ds.length true).all id = true := by simp
    show Qd (.v (.bl ((List.replicate ds.length true).all id))) m
    rw [this]
    exact q
  | non => exact ⟨rfl, rfl, rfl, rfl, rfl, List.prefix_refl _, q⟩
  | bl b =>
   refine ⟨rfl, rfl, rfl, rfl, rfl, rfl, rfl, rfl, Nat.zero_le _, Nat.zero_le _, rfl, rfl, rfl, rfl, Nat.zero_le _, Nat.zero_le _, rfl, rfl, rfl, rfl, Nat.zero_le _, Nat.zero_le _, rfl, rfl, Nat.zero_le _, Nat.zero_le _, List.prefix_refl _, ?_⟩
   have e : deq (.bl b) (.bl b) = true := by show (b == b) = true; simp
   show Qd (.v (.bl (deq (.bl b) (.bl b)))) m
   rw [e]
   exact q
  | int b =>
   refine ⟨rfl, rfl, rfl, rfl, rfl, rfl, rfl, rfl, Nat.zero_le _, Nat.zero_le _, rfl, rfl, rfl, rfl, Nat.zero_le _, Nat.zero_le _, rfl, rfl, rfl, rfl, Nat.zero_le _, Nat.zero_le _, rfl, rfl, Nat.zero_le _, Nat.zero_le _, List.prefix_refl _, ?_⟩
   have e : deq (.int b) (.int b) = true := by show (b == b) = true; simp
   show Qd (.v (.bl (deq (.int b) (.int b)))) m
   rw [e]
   exact q
  | str b =>
   refine ⟨rfl, rfl, rfl, rfl, rfl, rfl, rfl, rfl, Nat.zero_le _, Nat.zero_le _, rfl, rfl, rfl, rfl, Nat.zero_le _, Nat.zero_le _, rfl, rfl, rfl, rfl, Nat.zero_le _, Nat.zero_le _, rfl, rfl, Nat.zero_le _, Nat.zero_le _, List.prefix_refl _, ?_⟩
   have e : deq (.str b) (.str b) = true := by show (b == b) = true; simp
   show Qd (.v (.bl (deq (.str b) (.str b)))) m
   rw [e]
   exact q
  | dic kvs =>
   obtain ⟨l, rfl, nd, hl, hp⟩ := hf
   have kl : (bR l).length < 64 := by rw [bR, List.length_map]; exact hl
   refine ⟨rfl, rfl, rfl, dh ⟨kl, fun ys pm sr => dh ⟨kl, fun zs pz sz => ?_⟩⟩⟩
   have e : zs = ys := ei sz sr (pz.nodup_iff.mpr nd) (pm.nodup_iff.mpr nd) fun x => by rw [pz.mem_iff, pm.mem_iff]
   subst e
   refine ⟨b3 zs, b3 zs, eQ zs, eQ zs, nn (by show (!(deqL (zs.map D.str) (zs.map D.str))) = false; rw [eR]; rfl) ?_⟩
   show lcL _ _ _ _ ((kvF l).map fun p => kD p.1) [] _ _
   refine b9 (fun _ _ y => y = .bl true) 0 (by rw [List.length_map, List.length_map]; show 0 + _ ≤ _; omega) (fun j d Qt hd hq => ?_) fun ys hys => ?_
   ·rw [jh] at hd
    obtain ⟨x, hx, rfl⟩ : ∃ x, (bR l)[j]? = some x ∧ D.str x = d := by simpa using hd
    obtain ⟨v, hv⟩ := Option.isSome_iff_exists.mp (je.mpr (List.mem_of_getElem? hx))
    have hk : dg (kvF l) (.inr x) = some (frD v) := by
     rw [f5, hv]
     rfl
    exact ⟨_, hk, _, hk, _, rfl, hp (x, v) (gc hv), hq _ rfl⟩
   ·rw [g9 hys]
    refine c8 _ ⟨List.prefix_refl _, ?_⟩
    have : (List.replicate ((kvF l).map fun p => kD p.1).length true).all id = true := by simp
    show Qd (.v (.bl ((List.replicate ((kvF l).map fun p => kD p.1).length true).all id))) m
    rw [this]
    exact q
  | _ => cases hf
end
abbrev c9 : Stmt := top 13
abbrev ge : List Str := ["_law_script", "_law_bag_here", "_law_turn", "_law_word", "_law_rows", "_law_given", "_law_page_z", "_law_plain", "_law_held", "_law_failed", "_law_torn", "_law_kept", "_law_told", "_law_due", "_law_flags", "_law_k", "_law_j", "_law_one"]
abbrev mB : List Str := ["_law_script"]
abbrev hA : List (Str × Nat) := [("_law_k", 15)]
abbrev jX : List (Str × Nat) := [("_law_j", 16)]
abbrev hB : List (Str × Nat) := [("_law_one", 17)]
abbrev hC : List (Str × Nat) := [("_law_one", 17)]
theorem aF : FnScope ge mB (defScope c9) := ⟨rfl, rfl, rfl, by decide +kernel, rfl, by decide +kernel, by decide +kernel⟩
def mC : Dn := ⟨fun _ _ => False, fun x _ => x = .v (.bl true), fun _ _ => False, fun _ _ => False, noX⟩
abbrev mD (n : Nat) : En := none :: some (.loc 0) :: List.replicate n none
theorem jY {n i : Nat} {x : W} {p : Addr} {σ : L2.St} (e : (mD n)[i]? = some (some x)) (h : σ[1]? = some (some (.ref p))) : x = .loc 0 ∧ σ[i]? = some (some (.ref p)) := by
 match i, e with
 | 0, e => cases e
 | 1, e =>
  have e : some (some (W.loc 0)) = some (some x) := e
  cases e
  exact ⟨rfl, h⟩
 | i + 2, e =>
  have e : (List.replicate n none)[i]? = some (some x) := e
  rw [List.getElem?_replicate] at e
  split at e <;> cases e
section
variable {P : Program} {w : World} {K : Frag} {mg : Str → Option Value} {base : Heap}
theorem im {X : Cx} {t2 : TS} {T : DTS} {p l : Addr} {H1 : Hp} {Q : VK} {σ : L2.St} {en : En} (hs : SS X E0 t2 T) (B1 : BagAt H1 p l) (hl : σ.length = en.length) (he : ∀ (i : Nat) (x : W), en[i]? = some (some x) → x = .loc 0 ∧ σ[i]? = some (some (.ref p))) (hT : T en [.bag] mC) (q : ∀ H', Q (.bl true) H') (D : Ends) (hD : D.rt = Q) : t2 D σ H1 := by
 obtain ⟨i, rs, sd, ns, e1, e2, e3⟩ := B1.ex
 have lp : l ≠ p := fun z => by
  subst z
  rw [e2] at e1
  cases ns <;> cases e1
 let B : Hp := fun b => if b = l then some (.lst (ns.map V.int)) else none
 have bl : B l = some (.lst (ns.map V.int)) := if_pos rfl
 have M : MemOk X.K B [p] [.bag] H1 := by
  refine ⟨fun a o e => ?_, rfl, fun a l' => ?_, fun n a m ea em _ => ?_, fun n k a m m' ea ek _ _ _ _ => ?_, fun a ps e => ?_⟩
  ·have e : (if a = l then some (HO.lst (ns.map V.int)) else none) = some o := e
   by_cases c : a = l
   ·rw [if_pos c] at e
    cases e
    rw [c]
    exact e2
   ·rw [if_neg c] at e
    cases e
  ·obtain ⟨n, m, ea, _⟩ := l'
   have ez : a = p := by
    cases n with
    | zero => simpa using ea.symm
    | succ n => simp at ea
   subst ez
   exact if_neg (fun z => lp z.symm)
  ·have ez : a = p ∧ m = .bag := by
    cases n with
    | zero => exact ⟨by simpa using ea.symm, by simpa using em.symm⟩
    | succ n => simp at ea
   obtain ⟨rfl, rfl⟩ := ez
   exact ⟨l, i, rs, sd, ns, e1, bl, e3⟩
  ·have e1 : n = 0 := by
    cases n with
    | zero => rfl
    | succ n => simp at ea
   have e2 : k = 0 := by
    cases k with
    | zero => rfl
    | succ n => simp at ek
   rw [e1, e2]
  ·have e : (if a = l then some (HO.lst (ns.map V.int)) else none) = some (.tbl ps) := e
   by_cases c : a = l
   ·rw [if_pos c] at e
    cases e
   ·rw [if_neg c] at e
    cases e
 refine hs B [p] en [.bag] σ H1 mC D ⟨M, hl, fun i x e => ?_⟩ ExOf.no hT ⟨fun _ _ _ _ _ _ _ _ z => z.elim, fun B' μ' m' H' x v s M' r z => ?_, fun _ _ _ _ _ _ _ _ z => z.elim, fun _ _ _ _ _ _ _ _ z => z.elim⟩
 ·obtain ⟨rfl, h⟩ := he i x e
  exact ⟨_, h, p, rfl, rfl⟩
 ·have z : x = .v (.bl true) := z
  subst z
  cases (show Rv X.K B' v (.bl true) from r)
  rw [hD]
  exact q H'
end
theorem gI {stem : Str} {first at_ k : Nat} (h : stem.length ≤ 3) : (dT stem first at_ k).length ≤ 10 := by
 unfold dT
 split
 ·rw [Str.length_append, Str.length_append]
  have : (fQ k).length = 1 := rfl
  have : ("z" : Str).length = 1 := rfl
  have : ("q" : Str).length = 1 := rfl
  omega
 ·unfold fi
  rw [Str.length_append, Str.length_append]
  have : (fQ ((first + 5 * k) % 26)).length = 1 := rfl
  have := cb stem none (some (at_ : Int))
  have := cb stem (some (at_ : Int)) none
  omega
def cmA (K : Frag) (p : Str × Str) : Addr := match PySem.W.recIn K (He.ma K (He.ga K p.1) p.2) "classmethod" with
 | some (.ref g :: _) => g
 | _ => He.ma K (He.ga K p.1) p.2
def lh : Data → He.FnW
 | .func fd => some (fd.name, (fd.qualname, (fd.params, (fd.body, (fd.scope, (fd.globals, (fd.closure.map fun q => (q.1, 0), fd.builtins)))))))
 | _ => none
def jZ (K : Frag) (a : Addr) : He.FnW := (K.lookup a).bind fun o => lh o.data
def nq (K : Frag) (q : Str) : Data → Bool
 | .func fd => PySem.W.codeIn K fd.code q && (He.dflB K fd.defaults [] && He.kwdB K fd.kwdefaults [])
 | _ => false
def nr (K : Frag) (q : Str) (a : Addr) : Bool := PySem.W.keepIn K (.ref a) && (K.lookup a).any fun o => nq K q o.data
abbrev dC (x m q : Str) (st : Stmt) : He.DefD := ⟨(x, some m), m, q, defArgs st, defBody st, defScope st, [], []⟩
structure CmD (K : Frag) (x m q : Str) : Prop where
 rd : ClX.CRead K (He.ga K x) (.type "type")
 cm : ClX.CMet K (He.ga K x) (.type "type") m (He.ma K (He.ga K x) m) (cmA K (x, m))
 ok : nr K q (cmA K (x, m)) = true
def cmW (cms : List (Str × Str)) (K : Frag) : List He.FnW := cms.map fun p => jZ K (cmA K p)
def mE (o : Obj) : List Addr := match o.cls with
 | .type n => bif n == "code" then [] else He.refsD o
 | _ => He.refsD o
def li (k : Nat → List Addr → List Addr) : List Addr → Nat → List Addr → List Addr
 | [], m, acc => k m acc
 | a :: r, m, acc => match Nat.beq (Nat.land (Nat.shiftRight m a) 1) 1 with
  | true => li k r m acc
  | false => HandSHeadRun.frNat (Nat.lor m (Nat.shiftLeft 1 a)) fun m => li k r m (a :: acc)
def goZ (g : Addr → Option Obj) : Nat → Nat → List Addr → List Addr → List Addr
 | 0, _, fr, all => all ++ fr
 | n + 1, m, fr, all => li (fun m new => goZ g n m new (all ++ fr)) (fr.flatMap fun a => match g a with
  | some o => mE o
  | none => []) m []
abbrev asY (g : Addr → Option Obj) (n : Nat) : List Addr := goZ g n (Nat.lor (Nat.shiftLeft 1 mainGlobals) (Nat.shiftLeft 1 cStatics)) [mainGlobals, cStatics] []
abbrev frY (g : Addr → Option Obj) (n : Nat) : Frag := He.frT g (asY g n)
abbrev AlY : Type := He.AlX × List He.FnW
def jt (n : Nat) (fa : List He.Fa) (fn : List He.DefD) (ts : List He.Tab) (tf : List He.Defn) (ex : Frag → Bool) (cms : List (Str × Str)) (g : Addr → Option Obj) : AlY :=
 ((He.obsT fa fn ts (frY g n), ex (frY g n) && He.tabsB g tf (frY g n)), cmW cms (frY g n))
theorem ju {n : Nat} {fa : List He.Fa} {fn : List He.DefD} {ts : List He.Tab} {tf : List He.Defn} {ex : Frag → Bool} {cms : List (Str × Str)} {cv : List He.FnW} {w : World} {h : Heap} (e : jt n fa fn ts tf ex cms h.get? = (He.valX fn ts w, cv)) :
  He.SaysX fa fn ts tf ex w h (frY h.get? n) ∧ cmW cms (frY h.get? n) = cv := by
 have e0 := congrArg (fun z : AlY => z.1) e
 have e1 : He.obsT fa fn ts (frY h.get? n) = He.valT fn ts w := congrArg (fun z : He.AlX => z.1) e0
 have e2 : (ex (frY h.get? n) && He.tabsB h.get? tf (frY h.get? n)) = true := congrArg (fun z : He.AlX => z.2) e0
 have e3 : cmW cms (frY h.get? n) = cv := congrArg (fun z : AlY => z.2) e
 obtain ⟨h1, h2⟩ := Bool.and_eq_true_iff.mp e2
 have one : ∀ p ∈ tf, PySem.W.codeHdIn (frY h.get? n) (He.cT (frY h.get? n) p).1 (He.cT (frY h.get? n) p).2 = true ∧ ∃ o, h.get? (He.cT (frY h.get? n) p).2 = some o ∧ He.emptyTab o = true := fun p hp => by
  have z := List.all_eq_true.mp h2 p hp
  obtain ⟨z1, z2⟩ := Bool.and_eq_true_iff.mp z
  refine ⟨z1, ?_⟩
  split at z2
  ·rename_i o ho
   exact ⟨o, ho, z2⟩
  ·cases z2
 refine ⟨{ t := e1, more := h1, hd := fun p hp => (one p hp).1, out := fun p hp => ?_, empty := fun p hp => ?_ }, e3⟩
 ·obtain ⟨o, ho, hz⟩ := (one p hp).2
  exact He.frT_none ho hz
 ·obtain ⟨o, ho, hz⟩ := (one p hp).2
  rw [ho, He.emptyTab_eq hz]
def kB (n : Nat) (fa : List He.Fa) (fn : List He.DefD) (ts : List He.Tab) (tf : List He.Defn) (ex : Frag → Bool) (cms : List (Str × Str)) (cv : List He.FnW) : PySem.W.Hook where
 α := AlY
 obs := fun s => jt n fa fn ts tf ex cms s.heap.get?
 val := fun w => (He.valX fn ts w, cv)
 says := fun w h => ∃ K : Frag, K.In h ∧ He.SaysX fa fn ts tf ex w h K ∧ cmW cms K = cv
 of := fun _ _ e => ⟨_, He.frT_in, ju e⟩
 keeps := fun _ _ _ ⟨K, hK, c, y⟩ k => ⟨K, PySem.W.Frag.In.keeps hK k, { t := c.t, more := c.more, hd := c.hd, out := c.out, empty := fun p hp => k _ _ (c.empty p hp) }, y⟩
theorem j0 {n : Nat} {fa : List He.Fa} {fn : List He.DefD} {ts : List He.Tab} {tf : List He.Defn} {ex : Frag → Bool} {cms : List (Str × Str)} {cv : List He.FnW} {g : Addr → Option Obj} {s : Shared} (h : ∀ a, g a = s.heap.get? a) : jt n fa fn ts tf ex cms g = (kB n fa fn ts tf ex cms cv).obs s :=
 congrArg (jt n fa fn ts tf ex cms) (funext h)
theorem eS {cms : List (Str × Str)} {cv : List He.FnW} {K : Frag} (y : cmW cms K = cv) (i : Nat) {p : Str × Str} {v : He.FnW} (hp : cms[i]? = some p) (hv : cv[i]? = some v) : jZ K (cmA K p) = v := by
 have e : (cmW cms K)[i]? = cv[i]? := by rw [y]
 unfold cmW at e
 rw [List.getElem?_map, hp, hv] at e
 exact Option.some.inj e
def ec (K : Frag) (C : Addr) (m : Str) : Bool := decide (PySem.W.findIn K (.ref C) m = some (some (.ref (He.ma K C m)))) && (PySem.W.isFn K (.ref (He.ma K C m)) && PySem.W.keepIn K (.ref (He.ma K C m)))
structure SpecC (K : Frag) (C : Addr) (m : Str) : Prop where
 at_ : PySem.W.findIn K (.ref C) m = some (some (.ref (He.ma K C m)))
 fn : PySem.W.isFn K (.ref (He.ma K C m)) = true
 kp : PySem.W.keepIn K (.ref (He.ma K C m)) = true
theorem b6 {K : Frag} {C : Addr} {m : Str} (h : ec K C m = true) : SpecC K C m := by
 unfold ec at h
 simp only [Bool.and_eq_true, decide_eq_true_eq] at h
 exact ⟨h.1, h.2.1, h.2.2⟩
def lj (K : Frag) (C : Addr) : Bool := PySem.W.plainGet K C Str.empty && (PySem.W.hasDictIn K C && (PySem.W.plainOver K C && decide (PySem.W.findIn K (.ref C) "__setattr__" = some (some (.builtin "object.__setattr__")))))
theorem j1 {K : Frag} {C : Addr} (h : lj K C = true) : Cls K C := by
 unfold lj at h
 simp only [Bool.and_eq_true, decide_eq_true_eq] at h
 exact ⟨h.1, h.2.1, h.2.2.1, h.2.2.2⟩
def mkB (K : Frag) (C : Addr) : Bool := PySem.W.makesIn K C && (ec K C "__init__" && PySem.W.keepIn K (.ref C))
theorem fA {K : Frag} {C : Addr} (h : mkB K C = true) : Mk K C (He.ma K C "__init__") := by
 unfold mkB at h
 simp only [Bool.and_eq_true] at h
 have s := b6 h.2.1
 exact ⟨h.1, s.at_, s.fn, h.2.2⟩
def io (K : Frag) (C : Addr) : Bool := decide (PySem.W.findIn K (.ref C) "__class__" = some (some (.builtin "object.__class__"))) && (decide (PySem.W.specialIn K (.builtin "object.__class__") "__get__" = some (some (.builtin "getset_descriptor.__get__"))) &&
 (decide (PySem.W.takesIn K (.builtin "object.__class__") = some true) && decide (PySem.W.mroIn K C (.type "object") = some true)))
theorem dM {K : Frag} {C : Addr} (c : Cls K C) (h : io K C = true) : InsC K C := by
 unfold io at h
 simp only [Bool.and_eq_true, decide_eq_true_eq] at h
 exact ⟨c, h.1, h.2.1, h.2.2.1, h.2.2.2⟩
structure LineC (K : Frag) (C : Addr) : Prop where
 cl : Cls K C
 na : NoAttr K C k9
 made : Mk K C (He.ma K C "__init__")
 ic : InsC K C
 k1 : PySem.W.kitOne K (.ref C) (.ref C) = some true
 k2 : PySem.W.kitOne K (.type "dict") (.ref C) = some false
theorem SpecC.meth {K : Frag} {C : Addr} {m : Str} (s : SpecC K C m) : Meth K C m (He.ma K C m) := ⟨s.at_, s.fn, s.kp⟩
theorem j2 {K : Frag} {x q : Str} {st : Stmt} {f : Addr} {fd : FuncData} {a b : Str} (F : FunD K x q (defArgs st) (defBody st) (defScope st) [] [] f fd)
  (h : ∀ (kV doc pm : Value) (an : Option Addr) (cdv ct : Value) (us ws : List Value), us.length = 1 → ws.length = 1 → bindArgs (PySem.W.fnOf x q (defArgs st) (defBody st) (defScope st) .none kV doc pm an cdv ct) ⟨us, [b].zip ws⟩ = pure ([a, b].zip (us ++ ws))) :
  KBn K fd [a, b] 1 [b] (fun us ws => us ++ ws) (fun vs zs => vs ++ zs) := by
 obtain ⟨oc, od, dV, kV, doc, pm, an, cdv, ct, osl, rfl, lk, hcd, hD, hK⟩ := F.ex
 rcases hD with ⟨_, rfl⟩ | ⟨e, _⟩
 ·exact ⟨fun s us ws _ l1 l2 => BindsTo.of_eq (h kV doc pm an cdv ct us ws l1 l2), fun r1 r2 => r1.append r2⟩
 ·exact absurd rfl e
abbrev dKs (m q : Str) (st : Stmt) : He.FnW := some (m, (q, (defArgs st, (.stmts (defBody st), (defScope st, (mainGlobals, ([("__class__", 0)], builtinsNs)))))))
def fB (K : Frag) (D cc : Addr) : Bool := match K.lookup cc with
 | some ⟨_, _, .cell (some (.ref D')), _⟩ => decide (D' = D)
 | _ => false
theorem gJ {K : Frag} {D cc : Addr} (h : fB K D cc = true) : ∃ cl cld csl, K.lookup cc = some ⟨cl, cld, .cell (some (.ref D)), csl⟩ := by
 unfold fB at h
 split at h
 ·rename_i a b D' c e
  have : D' = D := of_decide_eq_true h
  subst this
  exact ⟨_, _, _, e⟩
 ·cases h
def fC (K : Frag) (file : Str) (cda : Addr) : Bool := match K.lookup cda with
 | some ⟨_, _, .fields vs, _⟩ => (match (vs[2]? : Option Value) with
  | some (.str g _) => decide (g = file)
  | _ => false)
 | _ => false
theorem gK {K : Frag} {file : Str} {cda : Addr} (h : fC K file cda = true) : ∃ ccl cdd vs ccs tf, K.lookup cda = some ⟨ccl, cdd, .fields vs, ccs⟩ ∧ vs[2]? = some (.str file tf) := by
 unfold fC at h
 split at h
 ·rename_i a b vs c e
  split at h
  ·rename_i g tf e2
   have : g = file := of_decide_eq_true h
   subst this
   exact ⟨_, _, _, _, _, e, e2⟩
  ·cases h
 ·cases h
def jv (K : Frag) (file q : Str) (D : Addr) : Data → Bool
 | .func ⟨_, _, _, _, _, _, [(_, cc)], .none, _, _, _, _, .ref cda, _, _⟩ => PySem.W.codeIn K (.ref cda) q && (fB K D cc && (fC K file cda && (PySem.W.clsIn K D).isSome))
 | _ => false
def ksB (K : Frag) (file x m q : Str) : Bool := decide (cmA K (x, m) = He.ma K (He.ga K x) m) && (PySem.W.keepIn K (.ref (He.ma K (He.ga K x) m)) && (K.lookup (He.ma K (He.ga K x) m)).any fun o => jv K file q (He.ga K x) o.data)
theorem cg {K : Frag} {file x m q : Str} {st : Stmt} (e : jZ K (cmA K (x, m)) = dKs m q st) (c : ksB K file x m q = true) : ∃ cda cc fd, FunS K file m q (defArgs st) (defBody st) (defScope st) (He.ga K x) (He.ma K (He.ga K x) m) cda cc fd := by
 obtain ⟨c0, c1⟩ := Bool.and_eq_true_iff.mp c
 obtain ⟨kp, c2⟩ := Bool.and_eq_true_iff.mp c1
 rw [of_decide_eq_true c0] at e
 unfold jZ at e
 cases hl : K.lookup (He.ma K (He.ga K x) m) with
 | none =>
  rw [hl] at e
  cases e
 | some o =>
  rw [hl] at e c2
  obtain ⟨oc, od, dt, osl⟩ := o
  have e : lh dt = dKs m q st := e
  have c2 : jv K file q (He.ga K x) dt = true := c2
  unfold jv at c2
  split at c2
  ·rename_i cd
   unfold lh dKs at e
   simp only [Option.some.injEq, Prod.mk.injEq, List.map_cons, List.map_nil, List.cons.injEq, and_true] at e
   obtain ⟨h1, h2, h3, h4, h5, h6, h7, h8⟩ := e
   subst h1 h2 h3 h4 h5 h6 h7 h8
   obtain ⟨k1, k2⟩ := Bool.and_eq_true_iff.mp c2
   obtain ⟨k3, k4⟩ := Bool.and_eq_true_iff.mp k2
   obtain ⟨k5, k6⟩ := Bool.and_eq_true_iff.mp k4
   exact ⟨_, _, _, ⟨oc, od, _, _, _, _, _, osl, rfl, hl⟩, k1, gJ k3, gK k5, Option.isSome_iff_exists.mp k6, kp⟩
  ·cases c2
def naB (K : Frag) (C : Addr) (x : Str) : Bool := decide (PySem.W.findIn K (.ref C) x = some none)
theorem ee {K : Frag} {C : Addr} {x : Str} (h : naB K C x = true) : NoAttr K C x := by
 unfold naB at h
 have h2 : PySem.W.findIn K (.ref C) x = some none := by simpa using h
 exact h2
theorem gf {m : Me} {n : Nat} {X : List (Key × D)} {Q : List (Key × D) → Prop} (h : m[n]? = some (.dic X)) (q : Q X) : eH m n Q := by
 unfold eH
 rw [h]
 exact q
theorem hE {m : Me} {n : Nat} {X : List (Key × D)} {P : D → Prop} (h : m[n]? = some (.dic X)) (p : P (.dic X)) : look (.loc n) m P := by
 show cO m[n]? P
 rw [h]
 exact p
theorem jw {m r : Me} {n : Nat} {o : MO} (h : m[n]? = some o) : (m ++ r)[n]? = some o := by
 rw [List.getElem?_append_left (List.getElem?_eq_some_iff.mp h).1]
 exact h
theorem db {m : Me} {n k : Nat} {o o' : MO} (ne : k ≠ n) (h : m[n]? = some o) : (m.set k o')[n]? = some o := by
 rw [List.getElem?_set_ne ne]
 exact h
def cw (K : Frag) (c d y m : Str) : Bool := decide (PySem.W.nsIn K PySem.cStatics "thirdparty.any" = some none) && (decide (PySem.W.mroIn K (He.ga K c) (.ref (He.ga K d)) = some true) && (decide (PySem.W.ks_superIn K (He.ga K c) (He.ga K d) m = some (some (.ref (He.ma K (He.ga K y) m)))) &&
 (PySem.W.fnIn K (He.ma K (He.ga K y) m) && decide (PySem.W.typeIn K (.ref (He.ma K (He.ga K y) m)) = some (.type "function")))))
theorem ba {K : Frag} {c d y m : Str} (h : cw K c d y m = true) : SupM K (He.ga K c) (He.ga K d) m (He.ma K (He.ga K y) m) := by
 unfold cw at h
 simp only [Bool.and_eq_true, decide_eq_true_eq] at h
 exact ⟨h.1, h.2.1, h.2.2.1, h.2.2.2.1, h.2.2.2.2⟩
def ip (K : Frag) (C : Addr) : Bool := lj K C && (naB K C sbS && (naB K C csS && (naB K C fnS && (naB K C pgS && naB K C egS))))
theorem dN {K : Frag} {C : Addr} (h : ip K C = true) : AnsC K C := by
 unfold ip at h
 simp only [Bool.and_eq_true] at h
 exact ⟨j1 h.1, ee h.2.1, ee h.2.2.1, ee h.2.2.2.1, ee h.2.2.2.2.1, ee h.2.2.2.2.2⟩
def kitB (K : Frag) (x y : Str) (b : Bool) : Bool := decide (PySem.W.kitOne K (.ref (He.ga K x)) (.ref (He.ga K y)) = some b)
theorem aC {K : Frag} {x y : Str} {b : Bool} (h : kitB K x y b = true) : PySem.W.kitOne K (.ref (He.ga K x)) (.ref (He.ga K y)) = some b := of_decide_eq_true h
theorem iq : ∀ {vs : List V} {us : List Value} {zs : List V} {ws : List Value}, Vals vs us → Vals zs ws → Vals (d8 vs zs) (d8 us ws)
 | _, _, _, _, r, .nil => r.append .nil
 | _, _, _, _, r, .cons a .nil => r.append (.cons a .nil)
 | _, _, _, _, r, .cons a (.cons b .nil) => r.append (.cons a (.cons b .nil))
 | _, _, _, _, r, .cons a (.cons b (.cons c .nil)) => r.append (.cons a (.cons b (.cons c .nil)))
 | _, _, _, _, r, .cons a (.cons b (.cons c (.cons d .nil))) => r.append (.cons d (.cons c (.cons b (.cons a .nil))))
 | _, _, _, _, r, .cons a (.cons b (.cons c (.cons d (.cons e t)))) => r.append (.cons a (.cons b (.cons c (.cons d (.cons e t)))))
theorem FunS.kbn {K : Frag} {file x qual : Str} {params : Arguments} {body : List Stmt} {scope : Scope} {D f cda cc : Addr} {fd : FuncData} {ps ks : List Str} {n : Nat} {g : List Value → List Value → List Value} {gV : List V → List V → List V} (F : FunS K file x qual params body scope D f cda cc fd)
  (h : ∀ (kV doc pm : Value) (an : Option Addr) (ct : Value) (us ws : List Value), us.length = n → ws.length = ks.length → bindArgs (PySem.W.ksFn x qual params body scope .none kV doc pm an (.ref cda) ct cc) ⟨us, ks.zip ws⟩ = pure (ps.zip (g us ws)))
  (hr : ∀ {vs : List V} {us : List Value} {zs : List V} {ws : List Value}, Vals vs us → Vals zs ws → Vals (gV vs zs) (g us ws)) : KBn K fd ps n ks g gV := by
 obtain ⟨oc, od, kV, doc, pm, an, ct, osl, rfl, lk⟩ := F.ex
 exact ⟨fun s us ws _ l1 l2 => BindsTo.of_eq (h kV doc pm an ct us ws l1 l2), hr⟩
theorem eT (a b c : Str) : a ++ b ++ c = a ++ (b ++ c) := by
 show (⟨(a.cps ++ b.cps) ++ c.cps⟩ : Str) = ⟨a.cps ++ (b.cps ++ c.cps)⟩
 rw [Array.append_assoc]
theorem cJ (x : Str) : a6 x = "about " ++ x := by rw [a6, dL]
theorem ir (x : Str) (n : Nat) : g6 x n = "about " ++ x ++ ": holds by " ++ (toString ((n : Nat) : Int) : Str) ++ " cases" := by rw [g6, dL, cJ]
theorem eU (x : Str) : bV x = "about " ++ x ++ ": fails" := by rw [bV, dL, cJ]
theorem iu (x : Str) : g7 x "a.left" = "about " ++ x ++ ": fails at a.left" := by
 rw [g7, dL, eU, eT, eT]
 congr 1
theorem bz {i : Nat} {te : DTE} {en : En} {d : D} {ds acc : List D} {m : Me} {Q : W → Me → Prop} (h : te (List.set en i (some (.v d))) m (fun y m3 => oD y fun dy => acc.length < sizeLine ∧ lcL (gN i) tYs te en ds (acc ++ [dy]) m3 Q) noX) : lcL (gN i) tYs te en (d :: ds) acc m Q := by
 simp only [lcL, gN, tYs, ↓reduceIte]
 exact h
theorem hI (n : Nat) (p : Int × Int) : c7 (n + 2) (frD p) := jW (by show 2 < 2 ^ 20; decide) fun d hd => by
 simp only [List.mem_cons, List.not_mem_nil, or_false] at hd
 rcases hd with rfl | rfl <;> rfl
theorem j3 (n : Nat) {l : FT} (nd : (bR l).Nodup) (hl : l.length < 64) : c7 (n + 3) (.dic (kvF l)) := ⟨l, rfl, nd, hl, fun p _ => hI n p.2⟩
theorem ch {m : Me} {n : Nat} {ds : List D} {Q : List D → Prop} (h : m[n]? = some (.lst ds)) (q : Q ds) : ck m n Q := by
 unfold ck
 rw [h]
 exact q
theorem jx {m : Me} {n : Nat} {X : List D} {P : D → Prop} (h : m[n]? = some (.lst X)) (p : P (.lst X)) : look (.loc n) m P := by
 show cO m[n]? P
 rw [h]
 exact p
theorem fD {α : Type} {R : Nat → D → D → Prop} {f : α → D} : ∀ {i : Nat} {its ys : List D}, All2 R i its ys → (∀ i d y, R i d y → ∃ a, y = f a) → ∃ as : List α, ys = as.map f ∧ as.length = its.length
 | _, _, _, .nil, _ => ⟨[], rfl, rfl⟩
 | _, _, _, .cons r t, h => by
  obtain ⟨a, ha⟩ := h _ _ _ r
  obtain ⟨as, e1, e2⟩ := fD t h
  exact ⟨a :: as, by rw [ha, e1]; rfl, by rw [List.length_cons, List.length_cons, e2]⟩
theorem gg {R : Nat → D → D → Prop} {S : D → Prop} : ∀ {i : Nat} {its ys : List D}, All2 R i its ys → (∀ i d y, R i d y → S y) → ∀ y ∈ ys, S y
 | _, _, _, .nil, _, _, hy => by cases hy
 | _, _, _, .cons r t, h, y, hy => by
  rcases List.mem_cons.mp hy with rfl | hy
  ·exact h _ _ _ r
  ·exact gg t h y hy
theorem jy : ∀ n : Nat, n < 100 → (toString ((n : Nat) : Int) : Str).length ≤ 2 ∧ ((n : Nat) : Int).natAbs.log2 < 1920 := by decide +kernel
section
variable {P : Program} {w : World} {K : Frag} {mg : Str → Option Value} {base : Heap} {CA CH CF CP : Addr}
theorem ll {K : Frag} {ks : List Str} (hk : ks.length = 4) : ∀ B μ a zs xs, zs.length = ks.length → RWs K B μ zs xs → ∃ zs', d8 [.ref a] zs = .ref a :: zs' ∧ RWs K B μ zs' (d8 [] xs) := by
 intro B μ a zs xs hl r
 rw [hk] at hl
 match zs, xs, hl, r with
 | [_, _, _, _], [_, _, _, _], _, .cons r1 (.cons r2 (.cons r3 (.cons r4 .nil))) => exact ⟨_, rfl, .cons r4 (.cons r3 (.cons r2 (.cons r1 .nil)))⟩
theorem lm (g__law_bag : Gd P w K mg base CX0 1 "_law_bag" cx (j5 K)) (m_range : mg "range" = none) (m_dict : mg "dict" = none) (m_str : mg "str" = none) (m_len : mg "len" = none) (m_list : mg "list" = none) (m_tuple : mg "tuple" = none) (m_bool : mg "bool" = none) (m_isinstance : mg "isinstance" = none)
  (g__law_names : Gd P w K mg base (L2.CX P w) 2 "_law_names" bI (af K fS)) (g__law_ratio : Gd P w K mg base (L2.CX P w) 3 "_law_ratio" bL (af K ji)) (g__law_of : Gd P w K mg base (L2.CX P w) 2 "_law_of" cf (af K i4)) (g__law_pull : Gd P w K mg base (L2.CX P w) 1 "_law_pull" aU (af K b8))
  (g__law_same : Gd P w K mg base (L2.CX P w) 9 "_law_same" bZ (af K (g8 8)))
  (gAk : GmK P w K mg base 3 "Answer" CA ["subject"] (a8 CA)) (gHeld : GmC P w K mg base 5 "Held" CH (cE CH)) (gFail : GmC P w K mg base 5 "Failed" CF (bp CF)) (gPk : GmKP P w K mg base 7 "Parted" CP ["edge", "page", "sizes", "subject"] d8 (cH CP))
  (gWeO : GmM P w K mg base 3 CH "weights" (dj CH)) (gWeD : GmM P w K mg base 3 CH "weights" (cF CH)) (gSzO : GmM P w K mg base 3 CF "sizes" (d6 CF)) (gSzF : GmM P w K mg base 3 CF "sizes" (bU CF)) (gSzP : GmM P w K mg base 3 CP "sizes" (bU CP))
  (gTA : GmM P w K mg base 3 CA "told" (be CA a6)) (gTH : GmM P w K mg base 5 CH "told" (fx CH)) (gTF : GmM P w K mg base 5 CF "told" (be CF bV)) (gTP : GmM P w K mg base 7 CP "told" (fy CP))
  (gBA : GmS P w K mg base 2 CA "__bool__" (a9 CA false)) (gBH : GmS P w K mg base 2 CH "__bool__" (a9 CH true)) (gBF : GmS P w K mg base 2 CF "__bool__" (a9 CF false)) (gBP : GmS P w K mg base 2 CP "__bool__" (a9 CP false)) (gLenH : GmS P w K mg base 3 CH "__len__" (gG CH))
  (c_Answer : mg "Answer" = some (.ref CA)) (c_Held : mg "Held" = some (.ref CH)) (c_Failed : mg "Failed" = some (.ref CF)) (c_Parted : mg "Parted" = some (.ref CP)) (iA : InsC K CA) (iH : InsC K CH) (iF : InsC K CF) (iP : InsC K CP) (pA : AnsC K CA) (pH : AnsC K CH) (pF : AnsC K CF) (pP : AnsC K CP)
  (kit : ∀ i j : Fin 4, PySem.W.kitOne K (.ref ([CA, CH, CF, CP][i])) (.ref ([CA, CH, CF, CP][j])) = some ([[true, false, false, false], [true, true, false, false], [true, false, true, false], [true, false, true, true]][i][j]?.getD false)) :
  Fo P w K mg base CX0 20 "law" c9 [] [] ["_law_script"] (ix K) := by
 refine j4 aF (fun vs H Q E h => ?_) (fun f cdv A outer s H vs Q E hr h => ?_)
 ·obtain ⟨a, ns, rfl, _⟩ := h
  rfl
 obtain ⟨a, ns, rfl, hS, hl, q⟩ := h
 have ll := ll (K := K) (ks := ["edge", "page", "sizes", "subject"]) rfl
 have body : DSs (cxOf CX0 P w K mg base ge "law" (defScope c9) f cdv A outer s H E).nox E0 ((defBody c9).drop 1) _ := (ac (iB PassesOwn.never rfl (bi m_range (aa aq ab)) (aX (i := 2) aF.nd rfl (.inl rfl))
   (ac (bb (i := 3) aF.nd rfl (.inl rfl) (aT aQ (aT aQ (du (aA g__law_names (hr.mono (by omega)) aB (aa (dv 1) (aa aq ab))) aq) am) (gS m_str (aa (aA g__law_pull (hr.mono (by omega)) aB (aa (dv 1) (aa aq ab))) ab))))
   (ac (il (i := 4) rfl rfl (sw_true rfl rfl rfl (by decide +kernel)) (own := hA) rfl aF.nd (bi m_range (aa (aA g__law_pull (hr.mono (by omega)) aB (aa (dv 1) (aa aq ab))) ab)) (blkOk_by (own := hA) (N := ge) (sc := defScope c9) (by decide +kernel)) (fun _ _ _ _ _ => (aX (i := 15) aF.nd rfl (.inl rfl))) (fun _ _ _ _ _ => bg) (fun _ _ _ _ _ => (fc m_tuple (aa (iE (own := jX) rfl aF.nd (bi m_range (aa (aA g__law_pull (hr.mono (by omega)) aB (aa (dv 1) (aa aq ab))) ab)) (by exact blkOk_by (by rfl)) (fun _ _ _ _ _ => (aX (i := 16) aF.nd rfl (.inl rfl))) (fun _ _ _ _ _ => bg) (fun _ _ _ _ _ => (aA g__law_ratio (hr.mono (by omega)) aB (aa (dv 1) ab)))) ab))))
   (ac (de (i := 5) (j := 6) rfl aF.nd rfl rfl (by decide) rfl rfl (aa (lf am (aA g__law_ratio (hr.mono (by omega)) aB (aa (dv 1) ab))) (aa (aA g__law_of (hr.mono (by omega)) aB (aa (dv 1) (aa (a7 (aa (cN (aa am ab)) (aa (cN (aa am (aa (cN (aa (cN (aa am ab)) (aa am (aa am ab)))) ab))) ab))) ab))) ab)) (by rfl))
   (ac (de (i := 7) (j := 8) rfl aF.nd rfl rfl (by decide) rfl rfl (aa (mh gAk (hr.mono (by omega)) aB (cQ (dv 3) i3)) (aa (me gHeld (hr.mono (by omega)) aB (aa (dv 3) (aa (dv 4) ab))) ab)) (by rfl))
   (ac (de (i := 9) (j := 10) rfl aF.nd rfl rfl (by decide) rfl rfl (aa (me gFail (hr.mono (by omega)) aB (aa (dv 3) (aa (dv 5) ab))) (aa (mx gPk ll (hr.mono (by omega)) aB (cQ am (cQ (dv 6) (cQ (dv 5) (cQ (dv 3) i3))))) ab)) (by rfl))
   (ac (bb (i := 11) aF.nd rfl (.inl rfl) (a7 (aa (iQ m_list (aa (dv 4) ab)) (aa (gv m_dict (aa (dv 5) ab)) ab))))
   (ac (dG (iJ (dv 4) (aa (cN ab) ab)))
   (ac (kX (u65 hr) (dv 5) am (cN (aa aq (aa aq ab))))
   (ac (dG (iJ (bJ gWeO (hr.mono (by omega)) aB (dv 8)) (aa aq ab)))
   (ac (dG (mi (bJ gSzO (hr.mono (by omega)) aB (dv 9))))
   (ac (ci (dQ (cz (aA g__law_same (hr.mono (by omega)) aB (aa (a7 (aa (bJ gWeD (hr.mono (by omega)) aB (dv 8)) (aa (bJ gSzF (hr.mono (by omega)) aB (dv 9)) (aa (bJ gSzP (hr.mono (by omega)) aB (dv 10)) ab)))) (aa (a7 (aa (du (dv 11) aq) (aa (du (dv 11) aq) (aa (du (dv 11) aq) ab)))) ab)))))
    (ad (az aW))
    aM)
   (ac (fN (i := 12) rfl rfl (sw_true rfl rfl rfl (by decide +kernel)) (own := hB) rfl aF.nd (fe (cN (aa (dv 7) (aa (dv 8) (aa (dv 9) (aa (dv 10) ab)))))) (blkOk_by (own := hB) (N := ge) (sc := defScope c9) (by decide +kernel)) (fun _ _ _ _ _ => (aX (i := 17) aF.nd rfl (.inl rfl))) (fun _ _ _ _ _ => bg) (fun _ _ _ _ _ => (DE.or (bJ gTA (hr.mono (by omega)) aB (dv 17)) (DE.or (bJ gTH (hr.mono (by omega)) aB (dv 17)) (DE.or (bJ gTF (hr.mono (by omega)) aB (dv 17)) (bJ gTP (hr.mono (by omega)) aB (dv 17)))))))
   (ac (bb (i := 13) aF.nd rfl (.inl rfl) (a7 (aa (aT aQ am (dv 3)) (aa (aT aQ (aT aQ (aT aQ (aT aQ am (dv 3)) am) (gS m_str (aa (dn m_len (aa (du (dv 11) aq) ab)) ab))) am) (aa (aT aQ (aT aQ am (dv 3)) am) ab)))))
   (ac (ci (dQ (cz (aA g__law_same (hr.mono (by omega)) aB (aa (dv 12) (aa (aT aQ (dv 13) (a7 (aa (aT aQ (aT aQ am (dv 3)) am) ab))) ab)))))
    (ad (az aW))
    aM)
   (ac (fN (i := 14) rfl rfl (sw_true rfl rfl rfl (by decide +kernel)) (own := hC) rfl aF.nd (fe (cN (aa (dv 7) (aa (dv 8) (aa (dv 9) (aa (dv 10) ab)))))) (blkOk_by (own := hC) (N := ge) (sc := defScope c9) (by decide +kernel)) (fun _ _ _ _ _ => (aX (i := 17) aF.nd rfl (.inl rfl))) (fun _ _ _ _ _ => bg) (fun _ _ _ _ _ => (a7 (aa (fu K m_isinstance (aa (dv 17) (aa (eX (v := .ref CA) (d := .fn CA) c_Answer rfl (fun _ => .fn CA)) ab))) (aa (fu K m_isinstance (aa (dv 17) (aa (eX (v := .ref CH) (d := .fn CH) c_Held rfl (fun _ => .fn CH)) ab))) (aa (fu K m_isinstance (aa (dv 17) (aa (eX (v := .ref CF) (d := .fn CF) c_Failed rfl (fun _ => .fn CF)) ab))) (aa (fu K m_isinstance (aa (dv 17) (aa (eX (v := .ref CP) (d := .fn CP) c_Parted rfl (fun _ => .fn CP)) ab))) (aa (DE.or (dI gBA (hr.mono (by omega)) m_bool (aa (dv 17) ab)) (DE.or (dI gBH (hr.mono (by omega)) m_bool (aa (dv 17) ab)) (DE.or (dI gBF (hr.mono (by omega)) m_bool (aa (dv 17) ab)) (dI gBP (hr.mono (by omega)) m_bool (aa (dv 17) ab))))) (aa (bS K 17) ab)))))))))
   (ac (bb (i := 13) aF.nd rfl (.inl rfl) (a7 (aa (a7 (aa aW (aa aW (aa aW (aa aW (aa aW (aa (dv 3) ab))))))) (aa (a7 (aa aW (aa aW (aa aW (aa aW (aa aW (aa (dv 3) ab))))))) ab))))
   (ac (bb (i := 13) aF.nd rfl (.inl rfl) (aT aQ (dv 13) (a7 (aa (a7 (aa aW (aa aW (aa aW (aa aW (aa aW (aa (dv 3) ab))))))) (aa (a7 (aa aW (aa aW (aa aW (aa aW (aa aW (aa (dv 3) ab))))))) ab)))))
   (ad (ci (DW.dt (fI (dQ (cz (aA g__law_same (hr.mono (by omega)) aB (aa (dv 14) (aa (dv 13) ab))))) (dP (dQ (cz (aA g__law_same (hr.mono (by omega)) aB (aa (a7 (aa (k7 gLenH (hr.mono (by omega)) m_len (aa (dv 8) ab)) (aa (bS K 10) (aa (bS K 10) ab)))) (aa (a7 (aa (dn m_len (aa (du (dv 11) aq) ab)) (aa (dv 6) (aa am ab)))) ab))))))))
    (ad (az aW))
    aM))))))))))))))))))))
  (ad (az aW)))
 obtain ⟨t2, p2, k2⟩ := body.ex
 refine ⟨_, pss_cons (ps_set (i := 1) aF.nd rfl (.inr rfl) (lr g__law_bag (hr.mono (by omega)) pass0 (pa_cons (pv 0) pa_nil))) p2, ?_⟩
 refine ⟨_, rfl, a, ns, rfl, hS, fun p l H1 np s1 B1 => ?_⟩
 refine im (en := mD 16) k2 B1 rfl (fun i x e => jY e rfl) ?_ q _ rfl
 have ln := sizeLine_eq
 refine ⟨by decide, by decide, ?_⟩
 refine kn (fun i en m => ∃ v2 v3 v4 v5 v6 v7 v8 v9 v10 v11 v12 v13 v14 more, en = [none, some (.loc 0), v2, v3, v4, v5, v6, v7, v8, v9, v10, v11, v12, v13, v14, none, none, none] ∧ m = MO.bag :: more) ⟨none, none, none, none, none, none, none, none, none, none, none, none, none, [], rfl, rfl⟩ (fun j d en m N' hd hi r1 r2 r3 hn => ?_) (fun en m hi => ?_)
 ·obtain ⟨v2, v3, v4, v5, v6, v7, v8, v9, v10, v11, v12, v13, v14, more, rfl, rfl⟩ := hi
  obtain ⟨rfl, hj⟩ := fg hd
  refine ⟨0, 1, rfl, rfl, by decide, fun stem first at_ h1 h2 h3 h4 => ?_⟩
  have lx := gI (first := first) (at_ := at_) (k := 0) h1
  obtain ⟨x, hx⟩ : ∃ x, dT stem first at_ 0 = x := ⟨_, rfl⟩
  rw [hx] at lx
  have ex : (cB stem first at_ 1).map D.str = [.str x] := by rw [← hx]; rfl
  rw [ex]
  have l1 : (" " : Str).length = 1 := by decide +kernel
  refine ⟨.str x, rfl, by omega, 0, 100, rfl, rfl, by decide, by decide, fun n n0 n1 => ?_⟩
  obtain ⟨n, rfl⟩ : ∃ k : Nat, n = (k : Int) := ⟨n.toNat, by omega⟩
  obtain ⟨z1, z2⟩ := jy n (by omega)
  refine ⟨z2, by rw [strLen_append]; omega, ?_⟩
  generalize hw : x ++ " " ++ (toString ((n : Nat) : Int) : Str) = wd
  have lw : wd.length ≤ 20 := by rw [← hw, strLen_append, strLen_append]; omega
  refine ⟨0, 4, rfl, rfl, by decide, by decide, fun a a0 a1 => ⟨by omega, by omega, ?_⟩⟩
  refine b9 (fun _ _ y => ∃ ps : List (Int × Int), y = .tup (ps.map frD) ∧ ps.length ≤ 3) 0 (by rw [aY]; show 0 + _ ≤ _; omega) (fun j d Qt hd hq => ?_) fun ys hys => ?_
  ·refine ⟨0, 3, rfl, rfl, by decide, by decide, fun b b0 b1 => ⟨by omega, by omega, ?_⟩⟩
   refine b9 (fun _ _ y => ∃ p : Int × Int, y = frD p) 0 (by rw [aY]; show 0 + _ ≤ _; omega) (fun j d Qt hd hq => ?_) fun zs hzs => ?_
   ·exact ⟨0, rfl, rfl, fun p lp tp => hq _ ⟨p, rfl⟩⟩
   ·obtain ⟨ps, e1, e2⟩ := fD hzs fun _ _ _ h => h
    rw [aY] at e2
    rw [List.nil_append, e1]
    exact hq _ ⟨ps, rfl, by omega⟩
  obtain ⟨rows, e1, e2⟩ := fD (f := fun r : List (Int × Int) × Unit => D.tup (r.1.map frD)) hys fun _ _ _ ⟨ps, h, l⟩ => ⟨(ps, ()), h⟩
  have hr3 : ∀ y ∈ ys, ∃ ps : List (Int × Int), y = .tup (ps.map frD) ∧ ps.length ≤ 3 := gg hys fun _ _ _ h => h
  rw [aY] at e2
  have ly : ys.length ≤ 3 := by rw [e1, List.length_map]; omega
  clear e1 e2 rows hys
  rw [List.nil_append]
  have ty : ys.map eM = ys := by
   refine (List.map_congr_left fun y hy => ?_).trans (List.map_id ys)
   obtain ⟨ps, rfl, _⟩ := hr3 y hy
   rfl
  obtain ⟨nL, hnL⟩ : ∃ nL, nL = (MO.bag :: more).length := ⟨_, rfl⟩
  refine ⟨0, rfl, rfl, fun p lp tp => ?_⟩
  refine ⟨by show 1 ≤ sizeLine; omega, by show 1 ≤ sizeLine; omega, by show 3 ≤ sizeLine; omega, by show 2 ≤ sizeLine; omega, by show 2 ≤ sizeLine; omega, 0, _, _, rfl, rfl, .inl rfl, by simp, by show 2 < 2 ^ 64; decide, fun pg hpg => ?_⟩
  have fpg : c7 5 pg := by
   simp only [List.mem_cons, List.not_mem_nil, or_false] at hpg
   rcases hpg with rfl | rfl
   ·exact ⟨by show 1 < 2 ^ 20; decide, fun d hd => by
     cases List.mem_singleton.mp hd
     rfl⟩
   ·refine ⟨by show 2 < 2 ^ 20; decide, fun d hd => ?_⟩
    simp only [List.mem_cons, List.not_mem_nil, or_false] at hd
    rcases hd with rfl | rfl
    ·rfl
    ·refine ⟨by show 3 < 2 ^ 20; decide, fun d hd => ?_⟩
     simp only [List.mem_cons, List.not_mem_nil, or_false] at hd
     rcases hd with rfl | rfl | rfl
     ·exact ⟨by show 1 < 2 ^ 20; decide, fun d hd => by
       cases List.mem_singleton.mp hd
       rfl⟩
     ·rfl
     ·rfl
  obtain ⟨m1, hm1⟩ : ∃ m1, m1 = (MO.bag :: more ++ [MO.lst ys]) ++ [MO.dic [(Sum.inr "a.w", frD p)]] := ⟨_, rfl⟩
  have aL : m1[nL]? = some (.lst ys) := by rw [hm1, hnL]; simp
  obtain ⟨nD, hnD⟩ : ∃ nD, nD = (MO.bag :: more ++ [MO.lst ys]).length := ⟨_, rfl⟩
  have aD : m1[nD]? = some (.dic [(Sum.inr "a.w", frD p)]) := by rw [hm1, hnD]; simp
  have nLD : nL ≠ nD := by rw [hnL, hnD]; simp
  have a0 : m1[0]? = some .bag := by rw [hm1]; rfl
  have ap : ∀ {n : Nat} {x : MO} {y : Me}, m1[n]? = some x → (m1 ++ y)[n]? = some x := fun h => by
   rw [List.getElem?_append_left (List.getElem?_eq_some_iff.mp h).1]
   exact h
  have lD : ∀ {y : Me} {Q : D → Prop}, Q (.dic [(Sum.inr "a.w", frD p)]) → look (.loc nD) (m1 ++ y) Q := fun q => hE (ap aD) q
  have lD0 : ∀ {Q : D → Prop}, Q (.dic [(Sum.inr "a.w", frD p)]) → look (.loc nD) m1 Q := fun q => hE aD q
  dsimp only [tN, oD, i6, jA, lB, List.set]
  rw [← hm1, ← hnD, ← hnL]
  have rw1 : ∀ d ∈ ys, ∃ es, d = .lst es ∨ d = .tup es := fun d hd => let ⟨ps, e, _⟩ := hr3 d hd; ⟨_, .inr e⟩
  refine ⟨rfl, m1, .v (.str wd), rfl, rfl, rfl, [(sbS, .str wd)], rfl, ?_⟩
  refine ⟨m1, .v (.str wd), .loc nL, ys, rfl, rfl, .inr ⟨nL, rfl, aL⟩, by omega, rw1, rfl, [(sbS, .str wd), (csS, .lst (ys.map eM))], rfl, ?_⟩
  rw [ty]
  refine ⟨m1, .v (.str wd), .loc nD, [(Sum.inr "a.w", frD p)], rfl, rfl, lD rfl, rfl, [(sbS, .str wd), (fnS, .dic [(Sum.inr "a.w", frD p)])], rfl, ?_⟩
  refine ⟨rfl, m1, .v (.str wd), .loc nD, .v pg, .v (.str "a.left"), [(Sum.inr "a.w", frD p)], rfl, rfl, lD rfl, rfl, [(sbS, .str wd), (fnS, .dic [(Sum.inr "a.w", frD p)]), (pgS, pg), (egS, .str "a.left")], rfl, ?_⟩
  refine jx aL (lD0 ⟨by show 2 ≤ sizeLine; omega, ?_⟩)
  refine ⟨ch aL trivial, by show 0 ≤ sizeLine; omega, ch aL ⟨by omega, ?_⟩⟩
  obtain ⟨m2, hm2⟩ : ∃ m2, m2 = m1.set nL (.lst (ys ++ [.tup []])) := ⟨_, rfl⟩
  have bD : m2[nD]? = some (.dic [(Sum.inr "a.w", frD p)]) := by rw [hm2]; exact db nLD aD
  dsimp only [l9, tTu, tCn, tK, tN, oDs, oD, j7]
  rw [← hm2]
  refine ⟨by show 2 ≤ sizeLine; omega, gf bD ⟨by show 1 < sizeLine; omega, ?_⟩⟩
  obtain ⟨m3, hm3⟩ : ∃ m3, m3 = m2.set nD (.dic (eG [(Sum.inr "a.w", frD p)] (.inr "a.w") (.tup [.int 0, .int 1]))) := ⟨_, rfl⟩
  rw [← hm3]
  refine ⟨_, rfl, rfl, .str wd, ys, rfl, ch (ds := ys) (by simp) trivial, ch (ds := ys) (by simp) ⟨by omega, ?_⟩⟩
  have nL0 : nL ≠ 0 := by rw [hnL]; simp
  have nD0 : nD ≠ 0 := by rw [hnD]; simp
  have b0 : m3[0]? = some .bag := by
   rw [hm3, hm2]
   exact db nD0 (db nL0 a0)
  have h30 : m3.length ≠ 0 := fun z => by
   rw [List.length_eq_zero_iff.mp z] at b0
   cases b0
  have b4 : ((m3 ++ [MO.lst ys]).set m3.length (MO.lst (ys ++ [D.int 3])))[0]? = some .bag := db h30 (jw b0)
  generalize (m3 ++ [MO.lst ys]).set m3.length (MO.lst (ys ++ [D.int 3])) = m4 at b4 ⊢
  have h40 : m4.length ≠ 0 := fun z => by
   rw [List.length_eq_zero_iff.mp z] at b4
   cases b4
  have b5 : (List.set (m4 ++ [MO.dic [(Sum.inr "a.w", frD p)]]) m4.length (MO.dic []))[0]? = some .bag := db h40 (jw b4)
  refine ⟨_, rfl, rfl, _, _, rfl, rfl, gf (X := [(Sum.inr "a.w", frD p)]) (by simp) ?_⟩
  generalize List.set (m4 ++ [MO.dic [(Sum.inr "a.w", frD p)]]) m4.length (MO.dic []) = m5 at b5 ⊢
  refine ⟨_, rfl, rfl, _, _, rfl, _, rfl, rfl, _, _, rfl, rfl, _, rfl, rfl, _, _, rfl, rfl, by show 3 ≤ sizeLine; omega, ?_⟩
  have fys : c7 5 (.lst ys) := ⟨by omega, fun d hd => by
   obtain ⟨ps, rfl, h3⟩ := hr3 d hd
   refine ⟨by rw [List.length_map]; omega, fun e he => ?_⟩
   obtain ⟨p, _, rfl⟩ := List.mem_map.mp he
   exact hI 1 p⟩
  have fkv : c7 5 (.dic [(Sum.inr "a.w", frD p)]) := j3 2 (l := [("a.w", p)]) (by simp [bR]) (by show 1 < 64; decide)
  refine ⟨_, rfl, _, rfl, _, rfl, by show 3 ≤ sizeLine; omega, ?_⟩
  refine ⟨_, rfl, ⟨by show 3 < 2 ^ 20; decide, fun d hd => ?_⟩, ?_⟩
  ·simp only [List.mem_cons, List.not_mem_nil, or_false] at hd
   rcases hd with rfl | rfl | rfl
   ·exact aJ (aJ fys)
   ·exact aJ (aJ fkv)
   ·exact aJ (aJ fkv)
  have tl := jy ys.length (by omega)
  refine ⟨by show 4 ≤ sizeLine; omega, ?_⟩
  dsimp only [oD, iT]
  refine bz ?_
  refine Or.inl ⟨_, rfl, rfl, _, wd, rfl, rfl, by omega, by show 0 < sizeLine; omega, ?_⟩
  refine bz ?_
  refine Or.inr (Or.inl ⟨_, rfl, rfl, wd, ys, rfl, by omega, by omega, by omega, by show 1 < sizeLine; omega, ?_⟩)
  refine bz ?_
  refine Or.inr (Or.inr (Or.inl ⟨_, rfl, rfl, _, wd, rfl, rfl, by omega, by show 2 < sizeLine; omega, ?_⟩))
  refine bz ?_
  refine Or.inr (Or.inr (Or.inr ⟨_, rfl, rfl, _, wd, _, rfl, rfl, rfl, by omega, by decide +kernel, by show 3 < sizeLine; omega, ?_⟩))
  have q1 : ("about " : Str).length = 6 := by decide +kernel
  have q2 : (": holds by " : Str).length = 11 := by decide +kernel
  have q3 : (" cases" : Str).length = 6 := by decide +kernel
  have q4 : (": fails" : Str).length = 7 := by decide +kernel
  have q5 : (": fails at a.left" : Str).length = 17 := by decide +kernel
  refine ⟨by omega, by omega, by simp only [strLen_append]; omega, _, rfl, tl.2, by simp only [strLen_append]; omega, by simp only [strLen_append]; omega, by omega, by simp only [strLen_append]; omega, by show 3 ≤ sizeLine; omega, ?_⟩
  refine ⟨by omega, by simp only [strLen_append]; omega, by show 1 ≤ sizeLine; omega, by show 3 + 1 ≤ sizeLine; omega, ?_⟩
  refine ⟨.lst [.str (a6 wd), .str (g6 wd ys.length), .str (bV wd), .str (g7 wd "a.left")], ?_, ⟨by show 4 < 2 ^ 20; decide, fun d hd => ?_⟩, ?_⟩
  ·rw [cJ, ir, eU, iu]
   rfl
  ·simp only [List.mem_cons, List.not_mem_nil, or_false] at hd
   rcases hd with rfl | rfl | rfl | rfl <;> rfl
  refine ⟨by show 4 ≤ sizeLine; omega, ?_⟩
  dsimp only [oD, iT]
  refine bz ?_
  refine ⟨true, iA, kit 0 0, false, iA, kit 0 1, false, iA, kit 0 2, false, iA, kit 0 3, Or.inl ⟨_, rfl, _, rfl, rfl, trivial, _, _, _, rfl, pA.cl, pA.a1, rfl, by show 6 ≤ sizeLine; omega, by show 0 < sizeLine; omega, ?_⟩⟩
  refine bz ?_
  refine ⟨true, iH, kit 1 0, true, iH, kit 1 1, false, iH, kit 1 2, false, iH, kit 1 3, Or.inr (Or.inl ⟨_, rfl, _, rfl, rfl, trivial, _, _, _, rfl, pH.cl, pH.a1, rfl, by show 6 ≤ sizeLine; omega, by show 1 < sizeLine; omega, ?_⟩)⟩
  refine bz ?_
  refine ⟨true, iF, kit 2 0, false, iF, kit 2 1, true, iF, kit 2 2, false, iF, kit 2 3, Or.inr (Or.inr (Or.inl ⟨_, rfl, _, rfl, rfl, trivial, _, _, _, rfl, pF.cl, pF.a1, rfl, by show 6 ≤ sizeLine; omega, by show 2 < sizeLine; omega, ?_⟩))⟩
  refine bz ?_
  refine ⟨true, iP, kit 3 0, false, iP, kit 3 1, true, iP, kit 3 2, true, iP, kit 3 3, Or.inr (Or.inr (Or.inr ⟨_, rfl, _, rfl, rfl, trivial, _, _, _, rfl, pP.cl, pP.a1, rfl, by show 6 ≤ sizeLine; omega, by show 3 < sizeLine; omega, ?_⟩))⟩
  refine ⟨by show 6 ≤ sizeLine; omega, by show 6 ≤ sizeLine; omega, by show 2 ≤ sizeLine; omega, ?_⟩
  refine ⟨by show 6 ≤ sizeLine; omega, by show 6 ≤ sizeLine; omega, by show 2 ≤ sizeLine; omega, by show 2 + 2 ≤ sizeLine; omega, ?_⟩
  refine ⟨_, rfl, ⟨by show 4 < 2 ^ 20; decide, fun d hd => ?_⟩, ?_⟩
  ·have h6 : ∀ a b c d e : Bool, c7 7 (.lst [.bl a, .bl b, .bl c, .bl d, .bl e, .str wd]) := fun a b c d e => ⟨by show 6 < 2 ^ 20; decide, fun y hy => by
    simp only [List.mem_cons, List.not_mem_nil, or_false] at hy
    rcases hy with rfl | rfl | rfl | rfl | rfl | rfl <;> rfl⟩
   simp only [List.nil_append, List.cons_append, List.mem_cons, List.not_mem_nil, or_false] at hd
   rcases hd with rfl | rfl | rfl | rfl <;> exact h6 ..
  refine ⟨_, rfl, .str wd, ys, rfl, rfl, ⟨by omega, by omega⟩, _, _, _, rfl, pP.cl, pP.a4, rfl, _, _, _, rfl, pP.cl, pP.a5, rfl, by show 3 ≤ sizeLine; omega, ?_⟩
  refine ⟨_, rfl, by show 3 ≤ sizeLine; omega, _, rfl, ⟨by show 3 < 2 ^ 20; decide, fun d hd => ?_⟩, ?_⟩
  ·simp only [List.mem_cons, List.not_mem_nil, or_false] at hd
   rcases hd with rfl | rfl | rfl
   ·rfl
   ·exact aJ (aJ fpg)
   ·rfl
  obtain ⟨more', rfl⟩ : ∃ more', m5 = MO.bag :: more' := by
   cases m5 with
   | nil => cases b5
   | cons z r =>
    cases b5
    exact ⟨r, rfl⟩
  exact (hn _ _ ⟨_, _, _, _, _, _, _, _, _, _, _, _, _, more', rfl, rfl⟩).1
 ·obtain ⟨v2, v3, v4, v5, v6, v7, v8, v9, v10, v11, v12, v13, v14, more, rfl, rfl⟩ := hi
  rfl
end
def fn : List He.DefD := [dD "_law_bag" bF, dD "_law_pull" br, dD "_law_of" ce, dD "_law_same" aV, dD "_law_low" bK, dD "_law_ratio" bh, dD "_law_names" aZ, dD "law" c9, dC "Answer" "__init__" "Answer.__init__" au, dC "Answer" "told" "Answer.told" aR, dC "Answer" "__bool__" "Answer.__bool__" ah, dC "Held" "weights" "Held.weights" ao, dC "Held" "__bool__" "Held.__bool__" aG, dC "Held" "__len__" "Held.__len__" aI, dC "Failed" "sizes" "Failed.sizes" ak, dC "Failed" "__bool__" "Answer.__bool__" ah, dC "Parted" "sizes" "Failed.sizes" ak, dC "Parted" "__bool__" "Answer.__bool__" ah]
def fa : List He.Fa := [.glo "_law_bag", .glo "_law_pull", .glo "_law_of", .glo "_law_same", .glo "_law_low", .glo "_law_ratio", .glo "_law_names", .glo "law", .glo "Answer", .glo "Held", .glo "Failed", .glo "Parted", .free "int", .free "list", .free "len", .free "isinstance", .free "tuple", .free "all", .free "range", .free "dict", .free "bool", .free "str", .free "abs", .free "sorted", .free "super"]
def bE : Str := (PySem.Challenge.rw_framesure_k24_answers_and_their_texts).prog.main.file
def exB (K : Frag) : Bool := (ip K (He.ga K "Answer")) && (ip K (He.ga K "Held")) && (ip K (He.ga K "Failed")) && (ip K (He.ga K "Parted")) && (io K (He.ga K "Answer")) && (io K (He.ga K "Held")) && (io K (He.ga K "Failed")) && (io K (He.ga K "Parted")) && (mkB K (He.ga K "Answer")) && (mkB K (He.ga K "Held")) && (mkB K (He.ga K "Failed")) && (mkB K (He.ga K "Parted")) && ((["told", "__bool__"] : List Str).all fun m => ec K (He.ga K "Answer") m) && ((["weights", "told", "__bool__", "__len__"] : List Str).all fun m => ec K (He.ga K "Held") m) && ((["sizes", "told", "__bool__"] : List Str).all fun m => ec K (He.ga K "Failed") m) && ((["sizes", "told", "__bool__"] : List Str).all fun m => ec K (He.ga K "Parted") m) && (ksB K bE "Held" "__init__" "Held.__init__") && (ksB K bE "Held" "told" "Held.told") && (ksB K bE "Failed" "__init__" "Failed.__init__") && (ksB K bE "Failed" "told" "Failed.told") && (ksB K bE "Parted" "__init__" "Parted.__init__") && (ksB K bE "Parted" "told" "Parted.told") && (cw K "Held" "Held" "Answer" "__init__") && (cw K "Held" "Held" "Answer" "told") && (cw K "Failed" "Failed" "Answer" "__init__") && (cw K "Failed" "Failed" "Answer" "told") && (cw K "Parted" "Parted" "Failed" "__init__") && (cw K "Parted" "Failed" "Answer" "__init__") && (cw K "Parted" "Parted" "Failed" "told") && (cw K "Parted" "Failed" "Answer" "told") && (kitB K "Answer" "Answer" true && kitB K "Answer" "Held" false && kitB K "Answer" "Failed" false && kitB K "Answer" "Parted" false && kitB K "Held" "Answer" true && kitB K "Held" "Held" true && kitB K "Held" "Failed" false && kitB K "Held" "Parted" false && kitB K "Failed" "Answer" true && kitB K "Failed" "Held" false && kitB K "Failed" "Failed" true && kitB K "Failed" "Parted" false && kitB K "Parted" "Answer" true && kitB K "Parted" "Held" false && kitB K "Parted" "Failed" true && kitB K "Parted" "Parted" true)
abbrev R : PySem.W.OpenRow := PySem.W.OpenLaw.row PySem.Challenge.rw_framesure_k24_answers_and_their_texts
def tf : List He.Defn := []
def tsL : List He.Tab := []
def cms : List (Str × Str) := [("Held", "__init__"), ("Held", "told"), ("Failed", "__init__"), ("Failed", "told"), ("Parted", "__init__"), ("Parted", "told")]
def cv : List He.FnW := [dKs "__init__" "Held.__init__" ae, dKs "told" "Held.told" aE, dKs "__init__" "Failed.__init__" aj, dKs "told" "Failed.told" aw, dKs "__init__" "Parted.__init__" al, dKs "told" "Parted.told" ax]
abbrev hk : PySem.W.Hook := kB 7 fa fn tsL tf exB cms cv
def ob (s : PySem.W.SharedT) : He.AlX × List He.FnW := jt 7 fa fn tsL tf exB cms (HandSHeadRun.getT s)
theorem mF (s : PySem.W.SharedT) : ob s = hk.obs s.abs := j0 (HandSHeadRun.getT_eq s)
def loose : List Str := (["Answer", "Held", "Failed", "Parted", "_law_bag", "_law_pull", "_law_of", "_law_same", "_law_low", "_law_ratio", "_law_names"] : List Str)
theorem run (w : World) : HandSHeadRun.RunEq R (PySem.W.view R.prog [13]) hk ob 6000 loose w := by
 intro os
 kernel_rfl
theorem mG {P : Program} {w : World} {K : Frag} {h : Heap} {mg : Str → Option Value} {f : Addr} (X : K.In h) (G : h.Ns mainGlobals mg) (hfa : mg ("law" : Str) = some (.ref f)) (c : He.SaysX fa fn tsL tf exB w h K) (cy : cmW cms K = cv) (hfile : ((P.main.file : Str) == bE) = true) (htop : (P.main.scope.names.lookup ("super" : Str)).isSome = false) :
  ∃ fd : FuncData, (∀ (s : Shared) (v : Value), BindsTo s fd ⟨[v], []⟩ [("_law_script", v)]) ∧ ∀ base : Heap, K.In base → base.Ns mainGlobals mg → FnOk P w K mg base CX0 20 f fd ["_law_script"] (ix K) := by
 have d := c.t.d
 obtain ⟨fd, FL⟩ := d.def_ 7 (d := dD "law" c9) rfl
 have e := hfa.symm.trans (He.glo_ok X G (d.fact 7 (f := .glo "law") rfl))
 cases e
 have b := FunD.bindsA (ps := ["_law_script"]) FL fun _ _ _ _ _ _ us hl => match us, hl with | [_], _ => rfl
 refine ⟨fd, fun s v => b s [v] rfl, fun base _ _ => ?_⟩
 have G__law_bag := dO X G d 0 0 "_law_bag" bF rfl rfl
 have G__law_pull := dO X G d 1 1 "_law_pull" br rfl rfl
 have G__law_of := dO X G d 2 2 "_law_of" ce rfl rfl
 have G__law_same := dO X G d 3 3 "_law_same" aV rfl rfl
 have G__law_low := dO X G d 4 4 "_law_low" bK rfl rfl
 have G__law_ratio := dO X G d 5 5 "_law_ratio" bh rfl rfl
 have G__law_names := dO X G d 6 6 "_law_names" aZ rfl rfl
 have c_Answer := He.glo_ok X G (d.fact 8 (f := .glo "Answer") rfl)
 have c_Held := He.glo_ok X G (d.fact 9 (f := .glo "Held") rfl)
 have c_Failed := He.glo_ok X G (d.fact 10 (f := .glo "Failed") rfl)
 have c_Parted := He.glo_ok X G (d.fact 11 (f := .glo "Parted") rfl)
 have m_int := aK X G d 12 "int" rfl
 have m_list := aK X G d 13 "list" rfl
 have m_len := aK X G d 14 "len" rfl
 have m_isinstance := aK X G d 15 "isinstance" rfl
 have m_tuple := aK X G d 16 "tuple" rfl
 have m_all := aK X G d 17 "all" rfl
 have m_range := aK X G d 18 "range" rfl
 have m_dict := aK X G d 19 "dict" rfl
 have m_bool := aK X G d 20 "bool" rfl
 have m_str := aK X G d 21 "str" rfl
 have m_abs := aK X G d 22 "abs" rfl
 have m_sorted := aK X G d 23 "sorted" rfl
 have m_super := aK X G d 24 "super" rfl
 have more := c.more
 unfold exB at more
 simp only [Bool.and_eq_true] at more
 obtain ⟨⟨⟨⟨⟨⟨⟨⟨⟨⟨⟨⟨⟨⟨⟨⟨⟨⟨⟨⟨⟨⟨⟨⟨⟨⟨⟨⟨⟨⟨xcA, xcH⟩, xcF⟩, xcP⟩, xiA⟩, xiH⟩, xiF⟩, xiP⟩, xmA⟩, xmH⟩, xmF⟩, xmP⟩, xsA⟩, xsH⟩, xsF⟩, xsP⟩, xk0⟩, xk1⟩, xk2⟩, xk3⟩, xk4⟩, xk5⟩, xu0⟩, xu1⟩, xu2⟩, xu3⟩, xu4⟩, xu5⟩, xu6⟩, xu7⟩, ⟨⟨⟨⟨⟨⟨⟨⟨⟨⟨⟨⟨⟨⟨⟨t0, t1⟩, t2⟩, t3⟩, t4⟩, t5⟩, t6⟩, t7⟩, t8⟩, t9⟩, t10⟩, t11⟩, t12⟩, t13⟩, t14⟩, t15⟩⟩ := more
 have pA := dN xcA
 have iA := dM pA.cl xiA
 have SA : ∀ m ∈ (["told", "__bool__"] : List Str), SpecC K (He.ga K "Answer") m := fun m hm => b6 (List.all_eq_true.mp xsA m hm)
 have pH := dN xcH
 have iH := dM pH.cl xiH
 have SH : ∀ m ∈ (["weights", "told", "__bool__", "__len__"] : List Str), SpecC K (He.ga K "Held") m := fun m hm => b6 (List.all_eq_true.mp xsH m hm)
 have pF := dN xcF
 have iF := dM pF.cl xiF
 have SF : ∀ m ∈ (["sizes", "told", "__bool__"] : List Str), SpecC K (He.ga K "Failed") m := fun m hm => b6 (List.all_eq_true.mp xsF m hm)
 have pP := dN xcP
 have iP := dM pP.cl xiP
 have SP : ∀ m ∈ (["sizes", "told", "__bool__"] : List Str), SpecC K (He.ga K "Parted") m := fun m hm => b6 (List.all_eq_true.mp xsP m hm)
 obtain ⟨fd0, FM0⟩ := d.def_ 8 rfl
 obtain ⟨fd1, FM1⟩ := d.def_ 9 rfl
 obtain ⟨fd2, FM2⟩ := d.def_ 10 rfl
 obtain ⟨fd3, FM3⟩ := d.def_ 11 rfl
 obtain ⟨fd4, FM4⟩ := d.def_ 12 rfl
 obtain ⟨fd5, FM5⟩ := d.def_ 13 rfl
 obtain ⟨fd6, FM6⟩ := d.def_ 14 rfl
 obtain ⟨fd7, FM7⟩ := d.def_ 15 rfl
 obtain ⟨fd8, FM8⟩ := d.def_ 16 rfl
 obtain ⟨fd9, FM9⟩ := d.def_ 17 rfl
 obtain ⟨cda0, cc0, fs0, FS0⟩ := cg (file := bE) (x := "Held") (m := "__init__") (q := "Held.__init__") (st := ae) (eS cy 0 rfl rfl) xk0
 obtain ⟨cda1, cc1, fs1, FS1⟩ := cg (file := bE) (x := "Held") (m := "told") (q := "Held.told") (st := aE) (eS cy 1 rfl rfl) xk1
 obtain ⟨cda2, cc2, fs2, FS2⟩ := cg (file := bE) (x := "Failed") (m := "__init__") (q := "Failed.__init__") (st := aj) (eS cy 2 rfl rfl) xk2
 obtain ⟨cda3, cc3, fs3, FS3⟩ := cg (file := bE) (x := "Failed") (m := "told") (q := "Failed.told") (st := aw) (eS cy 3 rfl rfl) xk3
 obtain ⟨cda4, cc4, fs4, FS4⟩ := cg (file := bE) (x := "Parted") (m := "__init__") (q := "Parted.__init__") (st := al) (eS cy 4 rfl rfl) xk4
 obtain ⟨cda5, cc5, fs5, FS5⟩ := cg (file := bE) (x := "Parted") (m := "told") (q := "Parted.told") (st := ax) (eS cy 5 rfl rfl) xk5
 have gBag := fF (P := P) (w := w) (base := base) G__law_bag m_int m_list
 have gPull := l5 (eV (P := P) (w := w) (base := base) G__law_pull m_int m_len)
 have gOf := gu G__law_of gPull m_len
 have gSame := fz (P := P) (w := w) (base := base) G__law_same m_isinstance m_tuple m_list m_all m_range m_len m_dict m_int m_bool m_str m_sorted 8
 have gNames := eh G__law_names gPull m_range m_int
 have gLow := fY (P := P) (w := w) (base := base) G__law_low m_abs
 have gRat := ej G__law_ratio gOf gPull gLow
 have b1 : ∀ {q x : Str} {st : Stmt} {f : Addr} {fd : FuncData} {a : Str}, FunD K x q (defArgs st) (defBody st) (defScope st) [] [] f fd → (∀ (kV doc pm : Value) (an : Option Addr) (cdv ct : Value) (us : List Value), us.length = [a].length → bindArgs (PySem.W.fnOf x q (defArgs st) (defBody st) (defScope st) .none kV doc pm an cdv ct) ⟨us, []⟩ = pure ([a].zip us)) → Binds K fd [a] [] := fun F h => F.bindsN h
 have bAI := FM0.bindsN (ps := ["self", "subject"]) fun _ _ _ _ _ _ us hl => match us, hl with | [_, _], _ => rfl
 have bAT := FM1.bindsN (ps := ["self"]) fun _ _ _ _ _ _ us hl => match us, hl with | [_], _ => rfl
 have hiH := jn (P := P) (w := w) (base := base) FS0 pH (ba xu0) bAI (dJ FM0 pH) m_super m_tuple hfile htop
 have toH := jq (P := P) (w := w) (base := base) FS1 pH (ba xu1) bAT (c5 FM1 pH) m_super m_len hfile htop
 have hiF := f8 (P := P) (w := w) (base := base) FS2 pF (ba xu2) bAI (dJ FM0 pF) m_super m_dict hfile htop
 have toF := gb (P := P) (w := w) (base := base) FS3 (ba xu3) bAT (c5 FM1 pF) m_super hfile htop
 have bFI := FS2.bindsN (ps := ["self", "subject", "sizes"]) (fun _ _ _ _ _ us hl => match us, hl with | [_, _, _], _ => rfl)
 have bFT := FS3.bindsN (ps := ["self"]) (fun _ _ _ _ _ us hl => match us, hl with | [_], _ => rfl)
 have hiP := jp (P := P) (w := w) (base := base) FS4 pP (ba xu4) bFI (f8 FS2 pP (ba xu5) bAI (dJ FM0 pP) m_super m_dict hfile htop) m_super hfile htop
 have toP := jr (P := P) (w := w) (base := base) FS5 pP (ba xu6) bFT (gb FS3 (ba xu7) bAT (c5 FM1 pP) m_super hfile htop) m_super hfile htop
 have gAk : GmK P w K mg base 3 "Answer" (He.ga K "Answer") ["subject"] (a8 (He.ga K "Answer")) := ⟨_, _, _, _, c_Answer, fA xmA, j2 (x := "__init__") (q := "Answer.__init__") (st := au) FM0 (fun _ _ _ _ _ _ us ws l1 l2 => match us, ws, l1, l2 with | [_], [_], _, _ => rfl), dJ FM0 pA⟩
 have gHeld : GmC P w K mg base 5 "Held" (He.ga K "Held") (cE (He.ga K "Held")) := ⟨_, _, _, c_Held, fA xmH, FS0.bindsN (fun _ _ _ _ _ us hl => match us, hl with | [_, _, _], _ => rfl), hiH⟩
 have gFail : GmC P w K mg base 5 "Failed" (He.ga K "Failed") (bp (He.ga K "Failed")) := ⟨_, _, _, c_Failed, fA xmF, bFI, hiF⟩
 have gPk : GmKP P w K mg base 7 "Parted" (He.ga K "Parted") ["edge", "page", "sizes", "subject"] d8 (cH (He.ga K "Parted")) := ⟨_, _, _, d8, c_Parted, fA xmP, FS4.kbn (n := 1) (fun _ _ _ _ _ us ws l1 l2 => match us, ws, l1, l2 with | [_], [_, _, _, _], _, _ => rfl) iq, hiP⟩
 have gWeO : GmM P w K mg base 3 (He.ga K "Held") "weights" (dj (He.ga K "Held")) := ⟨pH.cl, _, _, _, (SH "weights" (by simp)).meth, FM3.bindsN fun _ _ _ _ _ _ us hl => match us, hl with | [_], _ => rfl, gF FM3 pH m_list⟩
 have gWeD : GmM P w K mg base 3 (He.ga K "Held") "weights" (cF (He.ga K "Held")) := ⟨pH.cl, _, _, _, (SH "weights" (by simp)).meth, FM3.bindsN fun _ _ _ _ _ _ us hl => match us, hl with | [_], _ => rfl, f7 FM3 pH m_list⟩
 have gSzO : GmM P w K mg base 3 (He.ga K "Failed") "sizes" (d6 (He.ga K "Failed")) := ⟨pF.cl, _, _, _, (SF "sizes" (by simp)).meth, FM6.bindsN fun _ _ _ _ _ _ us hl => match us, hl with | [_], _ => rfl, ij FM6 pF m_dict⟩
 have gSzF : GmM P w K mg base 3 (He.ga K "Failed") "sizes" (bU (He.ga K "Failed")) := ⟨pF.cl, _, _, _, (SF "sizes" (by simp)).meth, FM6.bindsN fun _ _ _ _ _ _ us hl => match us, hl with | [_], _ => rfl, eO FM6 pF m_dict⟩
 have gSzP : GmM P w K mg base 3 (He.ga K "Parted") "sizes" (bU (He.ga K "Parted")) := ⟨pP.cl, _, _, _, (SP "sizes" (by simp)).meth, FM8.bindsN fun _ _ _ _ _ _ us hl => match us, hl with | [_], _ => rfl, eO FM8 pP m_dict⟩
 have gTA : GmM P w K mg base 3 (He.ga K "Answer") "told" (be (He.ga K "Answer") a6) := ⟨pA.cl, _, _, _, (SA "told" (by simp)).meth, bAT, c5 FM1 pA⟩
 have gTH : GmM P w K mg base 5 (He.ga K "Held") "told" (fx (He.ga K "Held")) := ⟨pH.cl, _, _, _, (SH "told" (by simp)).meth, FS1.bindsN (fun _ _ _ _ _ us hl => match us, hl with | [_], _ => rfl), toH⟩
 have gTF : GmM P w K mg base 5 (He.ga K "Failed") "told" (be (He.ga K "Failed") bV) := ⟨pF.cl, _, _, _, (SF "told" (by simp)).meth, bFT, toF⟩
 have gTP : GmM P w K mg base 7 (He.ga K "Parted") "told" (fy (He.ga K "Parted")) := ⟨pP.cl, _, _, _, (SP "told" (by simp)).meth, FS5.bindsN (fun _ _ _ _ _ us hl => match us, hl with | [_], _ => rfl), toP⟩
 have gBA : GmS P w K mg base 2 (He.ga K "Answer") "__bool__" (a9 (He.ga K "Answer") false) := ⟨_, _, _, (SA "__bool__" (by simp)).at_, (SA "__bool__" (by simp)).fn, FM2.bindsN fun _ _ _ _ _ _ us hl => match us, hl with | [_], _ => rfl, d3 FM2⟩
 have gBH : GmS P w K mg base 2 (He.ga K "Held") "__bool__" (a9 (He.ga K "Held") true) := ⟨_, _, _, (SH "__bool__" (by simp)).at_, (SH "__bool__" (by simp)).fn, FM4.bindsN fun _ _ _ _ _ _ us hl => match us, hl with | [_], _ => rfl, jo FM4⟩
 have gBF : GmS P w K mg base 2 (He.ga K "Failed") "__bool__" (a9 (He.ga K "Failed") false) := ⟨_, _, _, (SF "__bool__" (by simp)).at_, (SF "__bool__" (by simp)).fn, FM7.bindsN fun _ _ _ _ _ _ us hl => match us, hl with | [_], _ => rfl, d3 FM7⟩
 have gBP : GmS P w K mg base 2 (He.ga K "Parted") "__bool__" (a9 (He.ga K "Parted") false) := ⟨_, _, _, (SP "__bool__" (by simp)).at_, (SP "__bool__" (by simp)).fn, FM9.bindsN fun _ _ _ _ _ _ us hl => match us, hl with | [_], _ => rfl, d3 FM9⟩
 have gLenH : GmS P w K mg base 3 (He.ga K "Held") "__len__" (gG (He.ga K "Held")) := ⟨_, _, _, (SH "__len__" (by simp)).at_, (SH "__len__" (by simp)).fn, FM5.bindsN fun _ _ _ _ _ _ us hl => match us, hl with | [_], _ => rfl, jV FM5 pH m_len⟩
 have kit : ∀ i j : Fin 4, PySem.W.kitOne K (.ref ([He.ga K "Answer", He.ga K "Held", He.ga K "Failed", He.ga K "Parted"][i])) (.ref ([He.ga K "Answer", He.ga K "Held", He.ga K "Failed", He.ga K "Parted"][j])) = some ([[true, false, false, false], [true, true, false, false], [true, false, true, false], [true, false, true, true]][i][j]?.getD false) := fun i j => match i, j with
  | ⟨0, _⟩, ⟨0, _⟩ => aC t0
  | ⟨0, _⟩, ⟨1, _⟩ => aC t1
  | ⟨0, _⟩, ⟨2, _⟩ => aC t2
  | ⟨0, _⟩, ⟨3, _⟩ => aC t3
  | ⟨1, _⟩, ⟨0, _⟩ => aC t4
  | ⟨1, _⟩, ⟨1, _⟩ => aC t5
  | ⟨1, _⟩, ⟨2, _⟩ => aC t6
  | ⟨1, _⟩, ⟨3, _⟩ => aC t7
  | ⟨2, _⟩, ⟨0, _⟩ => aC t8
  | ⟨2, _⟩, ⟨1, _⟩ => aC t9
  | ⟨2, _⟩, ⟨2, _⟩ => aC t10
  | ⟨2, _⟩, ⟨3, _⟩ => aC t11
  | ⟨3, _⟩, ⟨0, _⟩ => aC t12
  | ⟨3, _⟩, ⟨1, _⟩ => aC t13
  | ⟨3, _⟩, ⟨2, _⟩ => aC t14
  | ⟨3, _⟩, ⟨3, _⟩ => aC t15
 exact lm gBag m_range m_dict m_str m_len m_list m_tuple m_bool m_isinstance gNames gRat gOf gPull gSame gAk gHeld gFail gPk gWeO gWeD gSzO gSzF gSzP gTA gTH gTF gTP gBA gBH gBF gBP gLenH c_Answer c_Held c_Failed c_Parted iA iH iF iP pA pH pF pP kit _ _ FL
end Fs
open PySem PySem.W PySem.Calls PyProof.Rows
theorem PySem.Challenge.cw_framesure_k24_answers_and_their_texts_holds : PySem.Challenge.rw_framesure_k24_answers_and_their_texts.Holds := by
 w_on; o_law
 refine HandSHeadRun.head_any (r := OpenLaw.row PySem.Challenge.rw_framesure_k24_answers_and_their_texts) (q := view (OpenLaw.row PySem.Challenge.rw_framesure_k24_answers_and_their_texts).prog [13]) (H := Fs.hk) (ob := Fs.ob) (M := 6000) (loose := Fs.loose) (d := HandSHeadRun.topDef (OpenLaw.row PySem.Challenge.rw_framesure_k24_answers_and_their_texts).prog 13) (kwd := []) Fs.mF
  (by kernel_rfl) (fun s => by kernel_rfl) Fs.run (by kernel_rfl) (by kernel_rfl) (by kernel_rfl) (by rfl) (by first | assumption | decide +kernel) (by decide +kernel) ⟨rfl, rfl, rfl, rfl, rfl, by decide +kernel⟩ ?hw ?hc
 case hw => w_witness2
 case hc =>
  refine L2.walk_ofE (l := PySem.Challenge.rw_framesure_k24_answers_and_their_texts) (n := 63) (k := 20) (x := "_law_script") (CX := L2.CX0) rfl (by decide) (by kernel_rfl) ⟨rfl, by decide, by decide⟩ ?F (fun _ _ _ _ z => z)
  intro w mg fa h Y G hmg0
  obtain ⟨K, KX, c, cy⟩ := Y
  have hmg : mg ("law" : PySem.Str) = some (.ref fa) := by
   have e : (HandSHeadRun.topDef (OpenLaw.row PySem.Challenge.rw_framesure_k24_answers_and_their_texts).prog 13).name = ("law" : PySem.Str) := by kernel_rfl
   rw [← e]
   exact hmg0
  obtain ⟨fd, hb, hF⟩ := Fs.mG (P := (PySem.Challenge.rw_framesure_k24_answers_and_their_texts).prog) (w := w) KX G hmg c cy (by kernel_rfl) (by kernel_rfl)
  exact ⟨K, fd, Fs.ix K, KX, hb, fun H a ns hl _ hS => ⟨a, ns, rfl, hS, hl, fun _ => rfl⟩, hF⟩
