import PyProof.Rows.All
import Wide.All
import OpenK.AllK
import Wide.FinOn
import KE.KStateDown
import HandS.ForMost
import HandS.Exc
import HandS.WordsExc
import HandS.Defaults
import HandS.IsInst
import HandS.Wide
import HandS.Flow
import HandS.Walk
import HandS.Head0
import HandS.Head1
import HandS.Head2
import HandS.HeadEnd
import HandS.HeadHook1
import HandS.HeadHook2
import HandS.HeadHook3
import HandS.HeadHook4
import HandS.ExcInitHot
import HandS.SetFor
import HandS.SetTxt0
import HandS.SetKeys
import HandS.HotCalls
import HandS.ExcField
import HandS.ExcInit
import KE.KTryMore
import HandS.Lambda
import HandS.EndTab
import HandS.HeadWalk
import HandS.DictComp
import HandS.TupAny
import HandS.Deep
import HandS.Strs
import HandS.Small
import HandS.FStr
import HandS.RaiseMore
import HandS.Codes
import HandS.Star
import HandS.TryOnly
import HandS.More
import PyProof.CollectIter
import PyProof.WalksMore
import PyProof.Rows.TupIter
import HandS.Dict
import HandS.Iter
import KE.KOpsOwn
import OpenK.KOps
import OpenK.KMeth
import KE.KEqDict
import HandS.MakeKw
import HandS.ClsMeth
import HandS.Finally
import PyProof.InstNe
import PyProof.Rows.PlainNe
import KE.KStar
import HandS.Style
import HandS.GenList
import HandS.SetBool
import HandS.TupSets
import PyProof.Rows.StrCountLaw
import KE.KSuper
import PyProof.CollectStr
import HandS.StrMore
import PySem.Challenge.RW_framesure_k60_texts_of_facts
set_option Elab.async false
set_option linter.all false
set_option maxRecDepth 100000
set_option maxHeartbeats 0
namespace Fs
open PySem PySem.Spec PyProof.Rows L2
abbrev Frag:=PySem.W.Frag
theorem aJ{H:Hp}{p:Addr}(h:H p=none)(o:HO):Same H (upd H p o):=fun b u q=>by
 rw [upd_ne (ne_of_none q h)]
 exact q
theorem Same.tup{K:Frag}{H H':Hp}{a:Addr}{xs:List V}(e:Same H H')(h:SqT K H a xs):SqT K H' a xs:=by
 rcases h with (h | ⟨o,h⟩) | h
 ·exact .inl (.inl (e _ _ h))
 ·exact .inl (.inr ⟨o,e _ _ h⟩)
 ·exact .inr h
theorem wc{X:Cx}{e:Expr}{t t':TE}(h:PE X e t)(k:∀σ H Q,t' σ H Q→t σ H Q):PE X e t':=⟨fun pins s σ H Q I q=>h.run pins s σ H Q I (k σ H Q q)⟩
def upA(t:TA):TA:=fun σ H K=>∃K0:List V→Hp→Prop,t σ H K0∧∀vs H1,K0 vs H1→K vs H1
theorem AE{X:Cx}{es:List Expr}{t:TA}(h:PA X es t):PA X es (upA t):=⟨fun pos pins s σ H Q I ⟨K0,q,k⟩=>thn (h.run pos pins s σ H K0 I q) fun us s1 ⟨vs,H1,I1,r,z⟩=>⟨vs,H1,I1,r,k _ _ z⟩⟩
def Cb(t:TA):TE:=fun σ H Q=>t σ H fun xs H1=>xs.length≤sizeLine∧∀p H',H1 p=none→Same H1 H'→H' p=some (.lst xs)→Q (.ref p) H'
theorem oI{X:Cx}{es:List Expr}{t:TA}{pos:Pos}(h:PA X es t):PE X (.List es pos) (Cb t):=
 wc (pe_lst (AE h)) fun σ H Q q=>⟨_,q,fun xs H1 z=>⟨z.1,fun p np=>z.2 p _ np (aJ np _) upd_same⟩⟩
def AF(t:TA):TE:=fun σ H Q=>t σ H fun xs H1=>xs.length≤sizeLine∧∀p H',H1 p=none→Same H1 H'→H' p=some (.tup xs)→Q (.ref p) H'
theorem yT{X:Cx}{es:List Expr}{t:TA}{x1:Nat}{pos:Pos}(h:PA X es t):PE X (.Tuple es x1 pos) (AF t):=
 wc (pe_tup (AE h)) fun σ H Q q=>⟨_,q,fun xs H1 z=>⟨z.1,fun p np=>z.2 p _ np (aJ np _) upd_same⟩⟩
theorem yU{t u:TS}{D:Ends}{σ:L2.St}{H:Hp}(M:L2.St→Hp→Prop)(ht:∀N:L2.St→Hp→Prop,(∀σ' H',M σ' H'→N σ' H')→t { D with nx:=N } σ H)(hu:∀σ' H',M σ' H'→u D σ' H'):tSeq t u D σ H:=ht (u D) hu
theorem nZ{α:Type}{xs:List α}{i:Int}(h0:0≤i)(h:i.toNat<xs.length):atI xs i=some xs[i.toNat]:=by
 have q:=atI_nat (xs:=xs) (j:=i.toNat) (List.getElem?_eq_getElem h)
 rw [Int.toNat_of_nonneg h0] at q
 exact q
structure Gd (P:Program) (w:World) (K:Frag) (mg:Str→Option Value) (base:Heap) (CX:CXT) (k:Nat) (x:Str) (ps:List Str) (sp:Sp):Prop where
 ex:∃f fd,mg x=some (.ref f)∧PySem.W.keepIn K (.ref f)=true∧Binds K fd ps []∧FnOk P w K mg base CX k f fd ps sp
theorem Gd.mono{P:Program}{w:World}{K:Frag}{mg:Str→Option Value}{base:Heap}{CX:CXT}{j k:Nat}{x:Str}{ps:List Str}{sp:Sp}(G:Gd P w K mg base CX j x ps sp)(h:j≤k):Gd P w K mg base CX k x ps sp:=by
 obtain ⟨f,fd,a,b,c,F⟩:=G.ex
 exact ⟨f,fd,a,b,c,F.mono h⟩
theorem Gd.imp{P:Program}{w:World}{K:Frag}{mg:Str→Option Value}{base:Heap}{CX:CXT}{k:Nat}{x:Str}{ps:List Str}{sp sp':Sp}(G:Gd P w K mg base CX k x ps sp)(h:∀vs H Q E,sp' vs H Q E→sp vs H Q E):Gd P w K mg base CX k x ps sp':=by
 obtain ⟨f,fd,a,b,c,F⟩:=G.ex
 exact ⟨f,fd,a,b,c,F.imp h⟩
theorem Cc{X:Cx}{CX:CXT}{E:XK}{k:Nat}{x:Str}{ps:List Str}{sp:Sp}{e:Expr}{es:List Expr}{p pos:Pos}{t:TA}(G:Gd X.prog X.w X.K X.mg X.base CX k x ps sp)(hr:Room k X.A)(hx:Passes CX X E)(ha:PA X (e::es) t)
  (hg:Gl X x:=by rfl) (hdb:(x == ("__debug__":Str))=false:=by decide) (he:starEach (e::es) X.env=(false,eval e X.env)::starEach es X.env:=by rfl) (hpl:(backTo pos (starEach es X.env)).any (·.1)=false:=by rfl):
  PE X (.Call (.Name x p) (e::es) [] pos) (tCall sp [] E t):=by
 obtain ⟨f,fd,a,b,c,F⟩:=G.ex
 exact pe_call F hr hg a b c .nil hx ha hdb he hpl
def Fo(P:Program)(w:World)(K:Frag)(mg:Str→Option Value)(base:Heap)(CX:CXT)(k:Nat)(x:Str)(st:Stmt)(dfl:List V)(kwd:List (Str×V))(ps:List Str)(sp:Sp):Prop:=
 ∀f fd,FunD K x x (defArgs st) (defBody st) (defScope st) dfl kwd f fd→FnOk P w K mg base CX k f fd ps sp
def Gsd(K:Frag)(mg:Str→Option Value)(x:Str)(st:Stmt)(dfl:List V)(kwd:List (Str×V)):Prop:=∃f fd,mg x=some (.ref f)∧FunD K x x (defArgs st) (defBody st) (defScope st) dfl kwd f fd
abbrev Gs(K:Frag)(mg:Str→Option Value)(x:Str)(st:Stmt):Prop:=Gsd K mg x st [] []
section
variable {P:Program} {w:World} {K:Frag} {mg:Str→Option Value} {base:Heap} {CX:CXT} {x:Str} {st:Stmt} {dfl:List V} {kwd:List (Str×V)} {N ps:List Str} {k:Nat} {sp:Sp}
theorem Cd(S:FnScope N ps (defScope st))(len:∀vs H Q E,sp vs H Q E→vs.length=ps.length)
  (hbody:∀(f:Addr) (cdv:Value) (A:Around) (outer:List Env) (s:Shared) (H:Hp) (vs:List V) (Q:VK) (E:XK),Room k (A.deeper (envOfC x (defScope st) s.heap.objs.size f cdv))→sp vs H Q E→
   ∃t,PSs (cxOf CX0 P w K mg base N x (defScope st) f cdv A outer s H E).nox (defBody st) t∧t { nx:=fun _ H'=>Q .non H',rt:=Q } (start N vs) H):Fo P w K mg base CX0 (k+1) x st dfl kwd ps sp:=fun f fd F=>by
 refine F.ok S len fun cdv A outer s H vs Q E hr h=>?_
 obtain ⟨t,h1,h2⟩:=hbody f cdv A outer s H vs Q E hr h
 exact ⟨t,h1.nox,h2⟩
theorem rO(S:FnScope N ps (defScope st))(len:∀vs H Q E,sp vs H Q E→vs.length=ps.length)
  (hbody:∀(f:Addr) (cdv:Value) (A:Around) (outer:List Env) (s:Shared) (H:Hp) (vs:List V) (Q:VK) (E:XK),Room k (A.deeper (envOfC x (defScope st) s.heap.objs.size f cdv))→sp vs H Q E→
   ∃t,PSs (cxOf (L2N.CX P w) P w K mg base N x (defScope st) f cdv A outer s H E) (defBody st) t∧t { nx:=fun _ H'=>Q .non H',rt:=Q } (start N vs) H):Fo P w K mg base (L2N.CX P w) (k+1) x st dfl kwd ps sp:=fun f fd F=>
 F.ok S len (hbody f)
theorem Fo.gd(F:Fo P w K mg base CX k x st [] [] ps sp)(G:Gs K mg x st)
  (hb:∀(kV doc pm:Value) (an:Option Addr) (cdv ct:Value) (us:List Value),us.length=ps.length→bindArgs (PySem.W.fnOf x x (defArgs st) (defBody st) (defScope st) .none kV doc pm an cdv ct) ⟨us,[]⟩=pure (ps.zip us)):Gd P w K mg base CX k x ps sp:=by
 obtain ⟨f,fd,a,D⟩:=G
 exact ⟨f,fd,a,D.kp,D.bindsN hb,F f fd D⟩
theorem Gsd.ok(G:Gs K mg x st)(S:FnScope N ps (defScope st))(len:∀vs H Q E,sp vs H Q E→vs.length=ps.length)
  (hb:∀(kV doc pm:Value) (an:Option Addr) (cdv ct:Value) (us:List Value),us.length=ps.length→bindArgs (PySem.W.fnOf x x (defArgs st) (defBody st) (defScope st) .none kV doc pm an cdv ct) ⟨us,[]⟩=pure (ps.zip us))
  (hbody:∀(f:Addr) (cdv:Value) (A:Around) (outer:List Env) (s:Shared) (H:Hp) (vs:List V) (Q:VK) (E:XK),Room k (A.deeper (envOfC x (defScope st) s.heap.objs.size f cdv))→sp vs H Q E→
   ∃t,PSs (cxOf CX0 P w K mg base N x (defScope st) f cdv A outer s H E).nox (defBody st) t∧t { nx:=fun _ H'=>Q .non H',rt:=Q } (start N vs) H):Gd P w K mg base CX0 (k+1) x ps sp:=(Cd S len hbody).gd G hb
theorem Gsd.okX(G:Gs K mg x st)(S:FnScope N ps (defScope st))(len:∀vs H Q E,sp vs H Q E→vs.length=ps.length)
  (hb:∀(kV doc pm:Value) (an:Option Addr) (cdv ct:Value) (us:List Value),us.length=ps.length→bindArgs (PySem.W.fnOf x x (defArgs st) (defBody st) (defScope st) .none kV doc pm an cdv ct) ⟨us,[]⟩=pure (ps.zip us))
  (hbody:∀(f:Addr) (cdv:Value) (A:Around) (outer:List Env) (s:Shared) (H:Hp) (vs:List V) (Q:VK) (E:XK),Room k (A.deeper (envOfC x (defScope st) s.heap.objs.size f cdv))→sp vs H Q E→
   ∃t,PSs (cxOf (L2N.CX P w) P w K mg base N x (defScope st) f cdv A outer s H E) (defBody st) t∧t { nx:=fun _ H'=>Q .non H',rt:=Q } (start N vs) H):Gd P w K mg base (L2N.CX P w) (k+1) x ps sp:=(rO S len hbody).gd G hb
end
structure Gk (P:Program) (w:World) (K:Frag) (mg:Str→Option Value) (base:Heap) (CX:CXT) (k:Nat) (x:Str) (n:Nat) (ks:List Str) (gV:List V→List V→List V) (ps:List Str) (sp:Sp):Prop where
 ex:∃f fd g,mg x=some (.ref f)∧PySem.W.keepIn K (.ref f)=true∧KBn K fd ps n ks g gV∧FnOk P w K mg base CX k f fd ps sp
section
variable {P:Program} {w:World} {K:Frag} {mg:Str→Option Value} {base:Heap} {CX:CXT} {x:Str} {st:Stmt} {dfl:List V} {kwd:List (Str×V)} {N ps:List Str} {k:Nat} {sp:Sp}
theorem Gk.mono{n:Nat}{ks:List Str}{gV:List V→List V→List V}{j:Nat}(G:Gk P w K mg base CX j x n ks gV ps sp)(h:j≤k):Gk P w K mg base CX k x n ks gV ps sp:=by
 obtain ⟨f,fd,g,a,b,c,F⟩:=G.ex
 exact ⟨f,fd,g,a,b,c,F.mono h⟩
theorem Fo.gk(F:Fo P w K mg base CX k x st [] [] ps sp)(G:Gs K mg x st)(n:Nat)(ks:List Str)(g:{α:Type}→List α→List α→List α)
  (hrel:∀{vs zs:List V} {us ws:List Value},Vals vs us→Vals zs ws→Vals (g vs zs) (g us ws))
  (hb:∀(kV doc pm:Value) (an:Option Addr) (cdv ct:Value) (us ws:List Value),us.length=n→ws.length=ks.length→bindArgs (PySem.W.fnOf x x (defArgs st) (defBody st) (defScope st) .none kV doc pm an cdv ct) ⟨us,ks.zip ws⟩=pure (ps.zip (g us ws))):
  Gk P w K mg base CX k x n ks (fun vs zs=>g vs zs) ps sp:=by
 obtain ⟨f,fd,a,D⟩:=G
 refine ⟨f,fd,fun us ws=>g us ws,a,D.kp,?_,F f fd D⟩
 obtain ⟨oc,od,dV,kV,doc,pm,an,cdv,ct,osl,rfl,lk,hcd,hD,hK⟩:=D.ex
 rcases hD with ⟨_,rfl⟩ | ⟨e,_⟩
 ·exact ⟨fun s us ws _ l1 l2=>BindsTo.of_eq (hb kV doc pm an cdv ct us ws l1 l2),fun r1 r2=>hrel r1 r2⟩
 ·exact absurd rfl e
end
structure Gdd (P:Program) (w:World) (K:Frag) (mg:Str→Option Value) (base:Heap) (CX:CXT) (k:Nat) (x:Str) (ps:List Str) (dv:List V) (sp:Sp):Prop where
 ex:∃f fd ds,mg x=some (.ref f)∧PySem.W.keepIn K (.ref f)=true∧Vals dv ds∧Binds K fd ps ds∧FnOk P w K mg base CX k f fd ps sp
section
variable {P:Program} {w:World} {K:Frag} {mg:Str→Option Value} {base:Heap} {CX:CXT} {x:Str} {st:Stmt} {dfl dv:List V} {N ps:List Str} {k:Nat} {sp:Sp}
theorem Gdd.gd(G:Gdd P w K mg base CX k x ps [] sp):Gd P w K mg base CX k x ps sp:=by
 obtain ⟨f,fd,ds,a,b,c,d,e⟩:=G.ex
 cases c
 exact ⟨f,fd,a,b,d,e⟩
end
theorem aw{X:Cx}{E:XK}(tk:L2N.Takes X (fun cls d _ H=>E cls d H)):Passes (L2N.CX X.prog X.w) X E:=L2N.passes_call tk fun _ _ _ _ h=>h
section
variable {X:Cx} {CX:CXT} {E:XK} {k n:Nat} {x:Str} {ps ks:List Str} {sp:Sp} {e:Expr} {es:List Expr} {kws:List Keyword} {p pos:Pos} {t tk:TA} {gV:List V→List V→List V}
theorem A6(G:Gk X.prog X.w X.K X.mg X.base CX k x 0 ks gV ps sp)(hr:Room k X.A)(hx:Passes CX X E)(hkw:PK X kws tk)(hg:Gl X x:=by rfl)
  (hall:(backToKw pos (keywordEach kws X.env)).all (·.1.isSome)=true:=by rfl) (hks:(backToKw pos (keywordEach kws X.env)).filterMap (·.1)=ks:=by rfl)
  (hdb:(x == ("__debug__":Str))=false:=by decide)
  (hpl:((backTo pos (starEach [] X.env)).any (·.1)||(backToKw pos (keywordEach kws X.env)).any (·.1.isNone))=false:=by rfl):
  PE X (.Call (.Name x p) [] kws pos) (tCallN 0 ks.length sp gV E tNil tk):=by
 obtain ⟨f,fd,g,a,b,c,F⟩:=G.ex
 refine ⟨fun pins s σ H Q I h=>?_⟩
 refine wpAny_Call_Name_kw (ld_glob I hg a ?_ hdb)
 refine PySem.W.callWith_KW0 (h₀:=X.base) I.ok.mod.kin b hall ?_ hpl
 refine thn (hkw.run pos pins s σ H _ I h) fun ws s2 ⟨zs,H2,I2,rz,l1,l2,q2⟩=>⟨I2.kIn,?_⟩
 rw [hks]
 exact run_fnN (us:=[]) (vs:=[]) F hr c hx I2 .nil rz rfl l2 q2
end
mutual
theorem Dp.to{K:Frag}{H H':Hp}(e:Same H H'):∀{v:V} {d:PyData},Dp K H v d→Dp K H' v d
 | _,_,.non=>.non
 | _,_,.bl b=>.bl b
 | _,_,.int i=>.int i
 | _,_,.str x=>.str x
 | _,_,.lst h a=>.lst (e.seq h) (DpAll.to e a)
 | _,_,.tup h a=>.tup (Same.tup e h) (DpAll.to e a)
theorem DpAll.to{K:Frag}{H H':Hp}(e:Same H H'):∀{vs:List V} {ds:List PyData},DpAll K H vs ds→DpAll K H' vs ds
 | _,_,.nil=>.nil
 | _,_,.cons h t=>.cons (Dp.to e h) (DpAll.to e t)
end
theorem DpAll.len{K:Frag}{H:Hp}:∀{vs:List V} {ds:List PyData},DpAll K H vs ds→vs.length=ds.length
 | _,_,.nil=>rfl
 | _,_,.cons _ t=>congrArg Nat.succ (DpAll.len t)
theorem DpAll.at{K:Frag}{H:Hp}:∀{vs:List V} {ds:List PyData} {i:Nat} {d:PyData},DpAll K H vs ds→ds[i]? =some d→∃v,vs[i]? =some v∧Dp K H v d
 | _,_,_,_,.nil,e=>by simp at e
 | _,_,0,d,.cons (v:=v) h _,e=>⟨v,rfl,by simp at e; subst e; exact h⟩
 | _,_,i+1,d,.cons _ t,e=>by
  obtain ⟨v,h1,h2⟩:=DpAll.at (i:=i) (d:=d) t (by simpa using e)
  exact ⟨v,by simpa using h1,h2⟩
def Hx(p:Addr)(H:Hp):Hp:=fun b=>if b=p then none else H b
theorem Hx.sub{p:Addr}{H:Hp}:Same (Hx p H) H:=fun b o e=>by
 unfold Hx at e
 split at e
 ·cases e
 ·exact e
theorem Hx.ne{p b:Addr}{H:Hp}(h:b≠p):Hx p H b=H b:=by
 unfold Hx
 rw [if_neg h]
theorem Hx.self{p:Addr}{H:Hp}:Hx p H p=none:=by
 unfold Hx
 rw [if_pos rfl]
abbrev SameX(p:Addr)(H H':Hp):Prop:=Same (Hx p H) (Hx p H')
theorem SameX.of{p:Addr}{H H':Hp}(h:∀b o,b≠p→H b=some o→H' b=some o):SameX p H H':=fun b o e=>by
 by_cases hb:b=p
 ·subst hb
  rw [Hx.self] at e
  cases e
 ·rw [Hx.ne hb] at e ⊢
  exact h b o hb e
theorem SameX.at{p b:Addr}{H H':Hp}{o:HO}(h:SameX p H H')(hb:b≠p)(e:H b=some o):H' b=some o:=by
 have q:=h b o (by rw [Hx.ne hb]; exact e)
 rw [Hx.ne hb] at q
 exact q
theorem SameX.same{p:Addr}{H H':Hp}(h:Same H H'):SameX p H H':=.of fun b o _ e=>h b o e
structure BagAt (H:Hp) (p l:Addr):Prop where
 ex:∃(i rest seed:Int) (ns:List Int),H p=some (.lst [.ref l,.int i,.int rest,.int seed])∧H l=some (.lst (ns.map V.int))∧0≤i∧0≤rest∧0≤seed∧seed<2147483647
theorem BagAt.to{H H':Hp}{p l:Addr}(B:BagAt H p l)(h:Same H H'):BagAt H' p l:=by
 obtain ⟨i,r,s,ns,a,b,c⟩:=B.ex
 exact ⟨i,r,s,ns,h _ _ a,h _ _ b,c⟩
def AG(K:Frag):Sp:=fun vs H Q _=>∃(a:Addr) (ns:List Int),vs=[.ref a]∧SqL K H a (ns.map V.int)∧∀p l H',H p=none→Same H H'→BagAt H' p l→Q (.ref p) H'
def rP:Sp:=fun vs H Q _=>∃(p l:Addr) (n:Int),vs=[.ref p,.int n]∧BagAt H p l∧0<n∧n<2 ^ 100∧∀(r:Int) H',0≤r→r<n→SameX p H H'→BagAt H' p l→Q (.int r) H'
def SqA(K:Frag)(H:Hp)(a:Addr)(xs:List V):Prop:=SqL K H a xs∨SqT K H a xs
theorem SqA.to{K:Frag}{H H':Hp}{a:Addr}{xs:List V}(e:Same H H')(h:SqA K H a xs):SqA K H' a xs:=h.elim (fun h=>.inl (e.seq h)) fun h=>.inr (Same.tup e h)
inductive Tg | list | tuple | dict | bool | int | str
def Tg.nm:Tg→String
 | .list=>"list" | .tuple=>"tuple" | .dict=>"dict" | .bool=>"bool" | .int=>"int" | .str=>"str"
def tyD:PyData→String
 | .none=>"NoneType" | .bool _=>"bool" | .int _=>"int" | .str _=>"str" | .list _=>"list" | .tuple _=>"tuple" | .dict _=>"dict"
def isT:Tg→PyData→Bool
 | .list,.list _=>true
 | .tuple,.tuple _=>true
 | .dict,.dict _=>true
 | .bool,.bool _=>true
 | .int,.bool _=>true
 | .int,.int _=>true
 | .str,.str _=>true
 | _,_=>false
theorem SqL.ty{K:Frag}{H:Hp}{a:Addr}{xs:List V}(h:SqL K H a xs):TyX K H (.ref a) (.type "list"):=by
 rcases h with (h | ⟨o,h⟩) | ⟨o,its,n,h1,h2,_⟩
 ·exact .base (.lst h)
 ·exact .base (.frz h)
 ·exact .kList h1 h2
theorem SqT.ty{K:Frag}{H:Hp}{a:Addr}{xs:List V}(h:SqT K H a xs):TyX K H (.ref a) (.type "tuple"):=by
 rcases h with (h | ⟨o,h⟩) | ⟨o,its,n,h1,h2,_⟩
 ·exact .base (.tup h)
 ·exact .fTuple h
 ·exact .kTuple h1 h2
theorem Dp.ty{K:Frag}{H:Hp}{v:V}{d:PyData}(h:Dp K H v d):TyX K H v (.type (tyD d)):=by
 cases h with
 | non=>exact .base .non
 | bl b=>exact .base (.bl b)
 | int i=>exact .base (.int i)
 | str x=>exact .base (.str x)
 | lst h _=>exact SqL.ty h
 | tup h _=>exact SqT.ty h
section
variable {X:Cx}
end
def rQ:PyData→List PyData
 | .list ds=>ds
 | .tuple ds=>ds
 | _=>[]
def Fit:Nat→PyData→Prop
 | 0,_=>False
 | n+1,d=>(rQ d).length≤1000000∧∀e∈rQ d,Fit n e
theorem Fit.mono:∀{n m:Nat} {d:PyData},Fit n d→n≤m→Fit m d
 | 0,_,_,h,_=>h.elim
 | n+1,0,_,_,h=>by omega
 | n+1,m+1,d,h,l=>⟨h.1,fun e he=>Fit.mono (h.2 e he) (by omega)⟩
theorem Dp.seq{K:Frag}{H:Hp}{v:V}{d:PyData}(h:Dp K H v d)(e:(isT .list d||isT .tuple d)=true):∃a xs,v=.ref a∧SqA K H a xs∧DpAll K H xs (rQ d):=by
 cases h with
 | lst hs ha=>exact ⟨_,_,rfl,.inl hs,ha⟩
 | tup hs ha=>exact ⟨_,_,rfl,.inr hs,ha⟩
 | non=>cases e
 | bl b=>cases e
 | int i=>cases e
 | str x=>cases e
theorem aN{c:Bool}{A B:Prop}(h1:c=true→A)(h2:c=false→B):if c=true then A else B:=by
 cases c with
 | true=>exact iteT (h1 rfl)
 | false=>exact iteF (h2 rfl)
theorem d9{c:Bool}{A B:Prop}(e:c=true)(h:A):if c=true then A else B:=by
 rw [if_pos e]
 exact h
theorem fq{c:Bool}{A B:Prop}(e:c=false)(h:B):if c=true then A else B:=by
 rw [e]
 exact iteF h
def Imm(H H':Hp):Prop:=∀b xs,Rd H b (.tup xs)→Rd H' b (.tup xs)
theorem Imm.refl(H:Hp):Imm H H:=fun _ _ h=>h
theorem Imm.trans{H H1 H2:Hp}(a:Imm H H1)(b:Imm H1 H2):Imm H H2:=fun c o h=>b c o (a c o h)
theorem Imm.same{H H':Hp}(s:Same H H'):Imm H H':=fun b xs h=>by
 rcases h with h | ⟨o,h⟩
 ·exact .inl (s _ _ h)
 ·exact .inr ⟨o,s _ _ h⟩
theorem Imm.upd{H:Hp}{D:Addr}{acc:List V}{o:HO}(h:H D=some (.lst acc)):Imm H (L2.upd H D o):=fun b xs e=>by
 have ne:b≠D:=fun z=>by
  subst z
  rcases e with e | ⟨o,e⟩ <;> rw [h] at e <;> cases e
 unfold L2.Rd at e ⊢
 rw [upd_ne ne]
 exact e
theorem Imm.bag{p l:Addr}{H H':Hp}(s:SameX p H H')(B:BagAt H p l):Imm H H':=fun b xs e=>by
 obtain ⟨i,r,sd,ns,hp,_⟩:=B.ex
 have ne:b≠p:=fun z=>by
  subst z
  rcases e with e | ⟨o,e⟩ <;> rw [hp] at e <;> cases e
 rcases e with e | ⟨o,e⟩
 ·exact .inl (s.at ne e)
 ·exact .inr ⟨o,s.at ne e⟩
mutual
def noL:PyData→Bool
 | .list _=>false
 | .tuple ds=>noLs ds
 | .dict _=>false
 | _=>true
def noLs:List PyData→Bool
 | []=>true
 | d::ds=>noL d&&noLs ds
end
theorem Imm.tup{K:Frag}{H H':Hp}{a:Addr}{xs:List V}(e:Imm H H')(h:SqT K H a xs):SqT K H' a xs:=by
 rcases h with h | h
 ·exact .inl (e _ _ h)
 ·exact .inr h
mutual
theorem Dp.imm{K:Frag}{H H':Hp}(e:Imm H H'):∀{v:V} {d:PyData},noL d=true→Dp K H v d→Dp K H' v d
 | _,_,_,.non=>.non
 | _,_,_,.bl b=>.bl b
 | _,_,_,.int i=>.int i
 | _,_,_,.str x=>.str x
 | _,_,n,.lst h a=>by cases n
 | _,_,n,.tup h a=>.tup (Imm.tup e h) (DpAll.imm e n a)
theorem DpAll.imm{K:Frag}{H H':Hp}(e:Imm H H'):∀{vs:List V} {ds:List PyData},noLs ds=true→DpAll K H vs ds→DpAll K H' vs ds
 | _,_,_,.nil=>.nil
 | _,_,n,.cons h t=>by
  have n':=Bool.and_eq_true_iff.mp n
  exact .cons (Dp.imm e n'.1 h) (DpAll.imm e n'.2 t)
end
theorem BagAt.ne{H:Hp}{p l D:Addr}(B:BagAt H p l)(h:H D=none):D≠p:=fun z=>by
 obtain ⟨i,r,sd,ns,hp,_⟩:=B.ex
 rw [z,hp] at h
 cases h
theorem BagAt.neL{H:Hp}{p l D:Addr}(B:BagAt H p l)(h:H D=none):BagAt (upd H D (.lst [])) p l:=B.to (aJ h _)
theorem fu{K:Frag}{H:Hp}{a:Addr}{xs:List V}(h:H a=some (.lst xs)):SqL K H a xs:=.inl (.inl h)
theorem Di(xs:List V)(n:Nat):cutV xs none (some (n:Int))=xs.take n:=by
 unfold cutV
 rw [HT.sIx_none,HT.sIx_nat]
 show List.take (min n xs.length - 0) xs=_
 rw [Nat.sub_zero]
 by_cases h:n≤xs.length
 ·rw [Nat.min_eq_left h]
 ·rw [Nat.min_eq_right (by omega),List.take_of_length_le (Nat.le_refl _),List.take_of_length_le (by omega)]
abbrev dD(x:Str)(st:Stmt):He.DefD:=⟨(x,none),x,x,defArgs st,defBody st,defScope st,[],[]⟩
theorem aO{fa:List He.Fa}{fn:List He.DefD}{K:Frag}{h:Heap}{mg:Str→Option Value}(X:K.In h)(G:h.Ns mainGlobals mg)(c:He.SaysD fa fn K)(i j:Nat)(x:Str)(st:Stmt)(hi:fn[i]? =some (dD x st))(hj:fa[j]? =some (.glo x)):Gs K mg x st:=by
 obtain ⟨fd,F⟩:=c.def_ i hi
 exact ⟨_,fd,He.glo_ok X G (c.fact j hj),F⟩
theorem bT{fa:List He.Fa}{fn:List He.DefD}{K:Frag}{h:Heap}{mg:Str→Option Value}(X:K.In h)(G:h.Ns mainGlobals mg)(c:He.SaysD fa fn K)(j:Nat)(x:Str)(hj:fa[j]? =some (.free x)):mg x=none:=He.free_ok X G (c.fact j hj)
def top(i:Nat):Stmt:=PySem.Challenge.pw_framesure_k60_texts_of_facts.main.body.getD i (.Pass ⟨0,0,0,0⟩)
section
open PySem.Froz
def TxR(P:Program)(w:World)(h:Heap)(a:Addr)(l:List Str):Prop:=
 ∃(es:Array (Int×Value)) (ep:Nat) (t:SetTable),h.get? a=some (sObj "set" (es,ep,t))∧TxOk P w (es,ep,t) l∧Ris t.place.toList∧(w.params.followText "set-order"=true∨t.led=true)
theorem TxR.at{P:Program}{w:World}{h h':Heap}{a:Addr}{l:List Str}(R:TxR P w h a l)(k:∀o,h.get? a=some o→h'.get? a=some o):TxR P w h' a l:=by
 obtain ⟨es,ep,t,ho,r⟩:=R
 exact ⟨es,ep,t,k _ ho,r⟩
section
variable {P:Program} {w:World} {A:Around} {E:Value→Shared→Prop} {s:Shared}
end
section
variable {prog:Program} {w:World} {A:Around} {R:Result→Shared→Prop} {I:Addr} {fp wr:List Addr} {G:Array GenState→Array GenState→Prop} {n:Nat} {P:Nat→Value→Prop} {St:Nat→Shared→Prop}
end
section
variable {prog:Program} {w:World} {A:Around} {E:Value→Shared→Prop} {s:Shared}
set_option maxHeartbeats 3200000 in
end
end
section
open PySem.Froz
section
variable {X:Cx}
end
end
def tXp(K:Frag)(a:Addr)(cls:Value)(d:Option Addr)(n:Str)(te:TE):TE:=fun σ H Q=>te σ H fun x H1=>x=.ref a∧∃(C dd:Addr) (fs:List (Str×V)) (v:V),cls=.ref C∧d=some dd∧XfC K C∧PySem.W.findIn K (.ref C) n=some none∧H1 dd=some (.xd fs)∧fs.lookup n=some v∧Q v H1
theorem cK{X:Cx}{p:Addr×Obj}{cls:Value}{d:Option Addr}{n:Str}{e:Expr}{te:TE}{pos:Pos}(hp:p∈X.pn)(hz:Zc cls d p.2)(hf:∃vs,p.2.data=.fields vs)(he:PE X e te)
  (hb:attributeBase e n X.env (eval e X.env)=eval e X.env:=by rfl):PE X (.Attribute e n pos) (tXp X.K p.1 cls d n te):=by
 constructor
 intro pins s σ H Q I h
 refine attr_of hb (thn (he.run pins s σ H _ I h) ?_)
 rintro u s1 ⟨x,H1,I1,rx,rfl,C,dd,fs,v,rfl,rfl,T,no,hd,hv,q⟩
 cases (show u=Value.ref p.1 from rx)
 have at_p:=(I1.pin p (List.mem_append_left _ hp)).1
 obtain ⟨vs,dv⟩:=hf
 obtain ⟨mA,hns,hr⟩:=(show ObjOk X.prog X.w H1 s1.heap dd (.xd fs) from I1.hok dd _ hd)
 obtain ⟨od,ho,hlk⟩:=lookIn_ns hns
 obtain ⟨u,hu,ru⟩:=RelO.some_of (v:=v) (o:=mA n) (by have z:=hr n; rw [hv] at z; exact z)
 have inst:PySem.W.InstAt s1.heap p.1 p.2 C (some od):=⟨at_p,hz.1,(by unfold PySem.W.notCls; rw [dv] <;> rfl),(by rw [hz.2]; exact ho)⟩
 exact HandSPX.exc_get I1.kIn inst T.ga T.gg T.exC (PySem.W.findObj_own T.hdC no rfl (by rw [hlk,hu])) (handed_of ru) ⟨v,H1,I1.tok _,ru,q⟩
def FnP(P:Program)(w:World)(K:Frag)(mg:Str→Option Value)(base:Heap)(p:Addr×Obj)(k:Nat)(f:Addr)(sp:List V→Hp→VK→Prop):Prop:=
 ∀(A:Around) (outer:List Env) (s:Shared) (H:Hp) (us:List Value) (vs:List V) (Q:VK),L2H.RoomH k A→L2H.PinOk outer H s p→Env0 P w K mg base A outer s H→Vals vs us→sp vs H Q→
  codeAny (model P w) A (.call (.ref f) ⟨us,[]⟩) (CR CX0 outer P w H s Q E0) s
section
variable {P:Program} {w:World} {K:Frag} {mg:Str→Option Value} {base:Heap}
theorem A7{x qual:Str}{st:Stmt}{N ps:List Str}{k:Nat}{p:Addr×Obj}{f:Addr}{fd:FuncData}{sp:List V→Hp→VK→Prop}(D:FunD K x qual (defArgs st) (defBody st) (defScope st) [] [] f fd)(S:FnScope N ps (defScope st))(len:∀vs H Q,sp vs H Q→vs.length=ps.length)(hb:Binds K fd ps [])
  (body:∀(cdv:Value) (A:Around) (outer:List Env) (s:Shared) (H:Hp) (vs:List V) (Q:VK),sp vs H Q→
   ∃t,PSs (L2H.cxH CX0 P w K mg base N qual (defScope st) f cdv A outer s H E0 p) (defBody st) t∧t { nx:=fun _ H'=>Q .non H',rt:=Q } (start N vs) H):FnP P w K mg base p (k+1) f sp:=by
 intro A outer s H us vs Q room pin e0 r h
 have nvs:=len _ _ _ h
 have KX:K.In s.heap:=e0.mod.kin.keeps fun b o e=>(e0.bs b o e).1
 have bt:BindsTo s fd ⟨us,[]⟩ (ps.zip us):=by
  have z:=hb s us KX (by rw [List.append_nil,←r.length]; exact nvs)
  rw [List.append_nil] at z
  exact z
 obtain ⟨oc,od,dV,kV,doc,pm,an,cdv,ct,osl,rfl,lk,hcd,_,_⟩:=D.ex
 refine codeAny_call_function room.depth (KX _ _ lk) rfl S.co S.gen rfl (PySem.W.codeRec_of KX hcd) (bt _ _ _ _ (wpAny_newFunctionEnv_cells S.kind ?_ ?_))
 ·intro y hy
  rcases S.par y.1 (List.of_mem_zip hy).1 with q | q
  ·exact .inl q
  ·exact .inr ⟨q,PySem.W.cellsFrom_some _ _ _ (.inl q)⟩
 ·intro env he s1 x
  subst he
  refine ⟨(e0.mod.nolimit.keeps fun b o e=>(e0.bs b o e).1).keeps x.toInCall.keep,codeAny_func ?_⟩
  obtain ⟨t,ht,hq⟩:=body cdv A outer s H vs Q h
  refine wpAny_mono (ht.run [] s1 _ H _ (L2H.inv_startH S pin e0 nvs r x) hq) ?_ fun e s' z=>z
  intro fl s' z
  cases fl with
  | ret u=>
   obtain ⟨v,σ',H',J,rv,qv⟩:=z
   exact ⟨v,H',J.os,J.bare,J.base,J.hok,rv,qv⟩
  | next=>
   obtain ⟨σ',H',J,qv⟩:=z
   exact ⟨.non,H',J.os,J.bare,J.base,J.hok,rfl,qv⟩
  | brk=>
   obtain ⟨_,_,_,no⟩:=z
   exact no.elim
  | cont=>
   obtain ⟨_,_,_,no⟩:=z
   exact no.elim
end
def we(sp:List V→Hp→VK→Prop)(t:TA):TE:=fun σ H Q=>t σ H fun vs H1=>sp vs H1 Q
theorem wg{X:Cx}{k:Nat}{f:Addr}{x:Str}{sp:List V→Hp→VK→Prop}{p:Addr×Obj}{t:TA}{e:Expr}{es:List Expr}{q pos:Pos}(F:FnP X.prog X.w X.K X.mg X.base p k f sp)(hp:p∈X.pn)(room:L2H.RoomH k X.A)(hm:X.mg x=some (.ref f))(hk:PySem.W.keepIn X.K (.ref f)=true)
  (ha:PA X (e::es) t) (hg:Gl X x:=by rfl) (hdb:(x == ("__debug__":Str))=false:=by decide) (he:starEach (e::es) X.env=(false,eval e X.env)::starEach es X.env:=by rfl) (hpl:(backTo pos (starEach es X.env)).any (·.1)=false:=by rfl):
  PE X (.Call (.Name x q) (e::es) [] pos) (we sp t):=by
 constructor
 intro pins s σ H Q I h
 refine wpAny_Call_Name_kw (ld_glob I hg hm (PySem.W.callWith_K (h₀:=X.base) I.ok.mod.kin hk (thn (ha.run pos pins s σ H _ I h) ?_) he hpl) hdb)
 rintro us s1 ⟨vs,H1,I1,r,hq⟩
 refine ⟨I1.kIn,?_⟩
 obtain ⟨g1,g2,g3,g4,g5⟩:=I1.pin p (List.mem_append_left _ hp)
 have pin:L2H.PinOk X.stack H1 s1 p:=⟨g1,g2,fun m=>(List.mem_cons.mp (I1.stkSub p.1 m)).elim g3 g4,g5⟩
 refine wpAny_call (codeAny_mono (F X.A X.stack s1 H1 us vs Q room pin I1.env0 r hq) ?_)
 intro z s2 hz
 cases z with
 | error e=>exact (show False from hz).elim
 | ok fl=>
  cases fl with
  | ret u=>exact I1.after hz
  | next=>exact (show False from hz).elim
  | brk=>exact (show False from hz).elim
  | cont=>exact (show False from hz).elim
def w3(K:Frag)(m:Nat)(cs:List Value)(i:Nat)(ts:Addr→Value→Option Addr→TS)(D:Ends):WX:=fun cls d σ H=>
 PySem.W.exmAny K cls cs=some true∧∀a,H a=none→σ.length=m→ts a cls d { nx:=fun σ' H'=>D.nx (σ'.set i none) H',rt:=D.rt,bk:=fun σ' H'=>D.bk (σ'.set i none) H',ct:=fun σ' H'=>D.ct (σ'.set i none) H' } (σ.set i (some (.ref a))) H
theorem kL{B:Heap}{l:List Env}{a:Addr}{Z:Obj→Prop}{h h':Heap}(k:∀b o,h.get? b=some o→h'.get? b=some o)(x:HandSPX.FlyingZ B l a Z h):HandSPX.FlyingZ B l a Z h':=by
 obtain ⟨x1,x2,x3,oe,vs,T,oT,ts,y1,y2,y3,y4,y5,y6,y7,y8⟩:=x
 exact ⟨fun b o e=>k b o (x1 b o e),x2,Heap.FunFrames.of_keeps (fun b o e _=>⟨o,k b o e,rfl⟩) x3,oe,vs,T,oT,ts,k _ _ y1,y2,y3,y4,y5,y6,k _ _ y7,y8⟩
section
variable {X:Cx} {x1 x2 x3 n:Str} {C1 C2 C3:Addr} {i:Nat} {body suite:List Stmt} {b₀:Stmt} {p1 p2 p3 np pos pos':Pos} {k:Nat} {tb:WX→TS} {ts:Addr→Value→Option Addr→TS}
end
abbrev aY:Stmt:=top 47
abbrev jw:List Str:=["_law_e"]
abbrev oJ:List Str:=["_law_e"]
abbrev ak:Stmt:=top 48
abbrev bP:List Str:=["_law_ask","_law_e"]
abbrev iX:List Str:=["_law_ask"]
theorem nv:FnScope jw oJ (defScope aY):=⟨rfl,rfl,rfl,by decide+kernel,rfl,by decide+kernel,by decide+kernel⟩
theorem kM:FnScope bP iX (defScope ak):=⟨rfl,rfl,rfl,by decide+kernel,rfl,by decide+kernel,by decide+kernel⟩
def bE:List Str:=["code","most","name","index","at","claim","word","cause","limit","line"]
structure ExK (K:Frag) (C:Addr):Prop where
 xf:XfC K C
 no:∀n∈bE,PySem.W.findIn K (.ref C) n=some none
def wj(code:Str):Option Str:=
 if inV (.str code) ([("TooMany":Str),"Full"].map V.str)=true then some "most"
 else if inV (.str code) ([("InvalidSizes":Str),"UnknownThing","InvalidName","DuplicateName","WrongKind","UnknownName"].map V.str)=true then some "name"
 else if decide (V.str code=V.str "InvalidFact")=true then some "index"
 else if decide (V.str code=V.str "InvalidText")=true then some "at"
 else if inV (.str code) ([("InUse":Str),"UnknownClaim"].map V.str)=true then some "claim"
 else if decide (V.str code=V.str "InvalidCommand")=true then some "word"
 else if decide (V.str code=V.str "InvalidLimit")=true then some "limit"
 else if decide (V.str code=V.str "ParseError")=true then some "line"
 else none
def yV(code:Str)(fs:List (Str×V))(v:V):Prop:=match wj code with
 | some f=>fs.lookup f=some v
 | none=>v=.non
structure ErrAt (K:Frag) (H:Hp) (C dd:Addr) (fs:List (Str×V)) (code:Str) (v:V):Prop where
 ex:ExK K C
 at_:H dd=some (.xd fs)
 cod:fs.lookup ("code":Str)=some (.str code)
 nst:decide (V.str code=V.str "Stopped")=false
 val:yV code fs v
theorem ErrAt.to{K:Frag}{H H':Hp}{C dd:Addr}{fs:List (Str×V)}{code:Str}{v:V}(e:ErrAt K H C dd fs code v)(s:Same H H'):ErrAt K H' C dd fs code v:=⟨e.ex,s _ _ e.at_,e.cod,e.nst,e.val⟩
def sY(K:Frag)(a:Addr)(cls:Value)(d:Option Addr):List V→Hp→VK→Prop:=fun vs H Q=>∃(C dd:Addr) (fs:List (Str×V)) (code:Str) (v:V),vs=[.ref a]∧cls=.ref C∧d=some dd∧ErrAt K H C dd fs code v∧∀H',Same H H'→Q v H'
section
variable {P:Program} {w:World} {K:Frag} {mg:Str→Option Value} {base:Heap}
theorem nw{f:Addr}{fd:FuncData}(D:FunD K "_law_field" "_law_field" (defArgs aY) (defBody aY) (defScope aY) [] [] f fd){p:Addr×Obj}{cls:Value}{d:Option Addr}(hz:Zc cls d p.2)(hf:∃vs,p.2.data=.fields vs):
  FnP P w K mg base p 1 f (sY K p.1 cls d):=by
 refine A7 D nv (fun vs H Q h=>?_) (D.bindsN fun _ _ _ _ _ _ us hl=>match us,hl with | [_],_=>rfl) (fun cdv A outer s H vs Q h=>?_)
 ·obtain ⟨C,dd,fs,code,v,rfl,_⟩:=h
  rfl
 obtain ⟨C,dd,fs,code,v,rfl,rfl,rfl,T,q⟩:=h
 have hp:p∈(L2H.cxH CX0 P w K mg base jw "_law_field" (defScope aY) f cdv A outer s H E0 p).pn:=List.mem_cons_self
 refine ⟨_,(pss_cons (ps_if (pt_cmpR op_in_seq (cK hp hz hf (pv 0)) (oI (pa_cons pe_str (pa_cons pe_str pa_nil))) (by rfl)) (pss_one (ps_ret (cK hp hz hf (pv 0)))) pss_nil)
  (pss_cons (ps_if (pt_cmpR op_in_seq (cK hp hz hf (pv 0)) (oI (pa_cons pe_str (pa_cons pe_str (pa_cons pe_str (pa_cons pe_str (pa_cons pe_str (pa_cons pe_str pa_nil))))))) (by rfl)) (pss_one (ps_ret (cK hp hz hf (pv 0)))) pss_nil)
  (pss_cons (ps_if (pt_cmpR op_eq (cK hp hz hf (pv 0)) pe_str (nomark _)) (pss_one (ps_ret (cK hp hz hf (pv 0)))) pss_nil)
  (pss_cons (ps_if (pt_cmpR op_eq (cK hp hz hf (pv 0)) pe_str (nomark _)) (pss_one (ps_ret (cK hp hz hf (pv 0)))) pss_nil)
  (pss_cons (ps_if (pt_cmpR op_in_seq (cK hp hz hf (pv 0)) (oI (pa_cons pe_str (pa_cons pe_str pa_nil))) (by rfl)) (pss_one (ps_ret (cK hp hz hf (pv 0)))) pss_nil)
  (pss_cons (ps_if (pt_cmpR op_eq (cK hp hz hf (pv 0)) pe_str (nomark _)) (pss_one (ps_ret (cK hp hz hf (pv 0)))) pss_nil)
  (pss_cons (ps_if (pt_cmpR op_eq (cK hp hz hf (pv 0)) pe_str (nomark _)) pss_never pss_nil)
  (pss_cons (ps_if (pt_cmpR op_eq (cK hp hz hf (pv 0)) pe_str (nomark _)) (pss_one (ps_ret (cK hp hz hf (pv 0)))) pss_nil)
  (pss_one (ps_ret (pe_ifExp (pt_cmpR op_eq (cK hp hz hf (pv 0)) pe_str (nomark _)) (cK hp hz hf (pv 0)) pe_non))))))))))),?_⟩
 have no:=T.ex.no
 have hv:=T.val
 unfold yV wj at hv
 have nc:=no "code" (by simp [bE])
 -- a test by membership
 refine ⟨_,rfl,rfl,C,dd,fs,_,rfl,rfl,T.ex.xf,nc,T.at_,T.cod,(by show 2≤sizeLine; decide),fun l H1 nl s1 hl=>⟨l,_,rfl,.inl (fu hl),rfl,rfl,_,rfl,?_⟩⟩
 have T1:=T.to s1
 by_cases c1:inV (.str code) ([("TooMany":Str),"Full"].map V.str)=true
 ·rw [if_pos c1] at hv
  exact d9 c1 ⟨_,rfl,rfl,C,dd,fs,_,rfl,rfl,T.ex.xf,no _ (by simp [bE]),T1.at_,hv,q _ s1⟩
 rw [if_neg c1] at hv
 refine fq (Bool.eq_false_iff.mpr c1) ?_
 refine ⟨_,rfl,rfl,C,dd,fs,_,rfl,rfl,T.ex.xf,nc,T1.at_,T1.cod,(by show 6≤sizeLine; decide),fun l2 H2 nl2 s2 hl2=>⟨l2,_,rfl,.inl (fu hl2),rfl,rfl,_,rfl,?_⟩⟩
 have T2:=T1.to s2
 by_cases c2:inV (.str code) ([("InvalidSizes":Str),"UnknownThing","InvalidName","DuplicateName","WrongKind","UnknownName"].map V.str)=true
 ·rw [if_pos c2] at hv
  exact d9 c2 ⟨_,rfl,rfl,C,dd,fs,_,rfl,rfl,T.ex.xf,no _ (by simp [bE]),T2.at_,hv,q _ (s1.trans s2)⟩
 rw [if_neg c2] at hv
 refine fq (Bool.eq_false_iff.mpr c2) ?_
 refine ⟨_,rfl,rfl,C,dd,fs,_,rfl,rfl,T.ex.xf,nc,T2.at_,T2.cod,rfl,_,rfl,?_⟩
 by_cases c3:decide (V.str code=V.str "InvalidFact")=true
 ·rw [if_pos c3] at hv
  exact d9 c3 ⟨_,rfl,rfl,C,dd,fs,_,rfl,rfl,T.ex.xf,no _ (by simp [bE]),T2.at_,hv,q _ (s1.trans s2)⟩
 rw [if_neg c3] at hv
 refine fq (Bool.eq_false_iff.mpr c3) ?_
 refine ⟨_,rfl,rfl,C,dd,fs,_,rfl,rfl,T.ex.xf,nc,T2.at_,T2.cod,rfl,_,rfl,?_⟩
 by_cases c4:decide (V.str code=V.str "InvalidText")=true
 ·rw [if_pos c4] at hv
  exact d9 c4 ⟨_,rfl,rfl,C,dd,fs,_,rfl,rfl,T.ex.xf,no _ (by simp [bE]),T2.at_,hv,q _ (s1.trans s2)⟩
 rw [if_neg c4] at hv
 refine fq (Bool.eq_false_iff.mpr c4) ?_
 refine ⟨_,rfl,rfl,C,dd,fs,_,rfl,rfl,T.ex.xf,nc,T2.at_,T2.cod,(by show 2≤sizeLine; decide),fun l3 H3 nl3 s3 hl3=>⟨l3,_,rfl,.inl (fu hl3),rfl,rfl,_,rfl,?_⟩⟩
 have T3:=T2.to s3
 have s13:=s1.trans (s2.trans s3)
 by_cases c5:inV (.str code) ([("InUse":Str),"UnknownClaim"].map V.str)=true
 ·rw [if_pos c5] at hv
  exact d9 c5 ⟨_,rfl,rfl,C,dd,fs,_,rfl,rfl,T.ex.xf,no _ (by simp [bE]),T3.at_,hv,q _ s13⟩
 rw [if_neg c5] at hv
 refine fq (Bool.eq_false_iff.mpr c5) ?_
 refine ⟨_,rfl,rfl,C,dd,fs,_,rfl,rfl,T.ex.xf,nc,T3.at_,T3.cod,rfl,_,rfl,?_⟩
 by_cases c6:decide (V.str code=V.str "InvalidCommand")=true
 ·rw [if_pos c6] at hv
  exact d9 c6 ⟨_,rfl,rfl,C,dd,fs,_,rfl,rfl,T.ex.xf,no _ (by simp [bE]),T3.at_,hv,q _ s13⟩
 rw [if_neg c6] at hv
 refine fq (Bool.eq_false_iff.mpr c6) ?_
 refine ⟨_,rfl,rfl,C,dd,fs,_,rfl,rfl,T.ex.xf,nc,T3.at_,T3.cod,rfl,_,rfl,fq T.nst ?_⟩
 refine ⟨_,rfl,rfl,C,dd,fs,_,rfl,rfl,T.ex.xf,nc,T3.at_,T3.cod,rfl,_,rfl,?_⟩
 by_cases c7:decide (V.str code=V.str "InvalidLimit")=true
 ·rw [if_pos c7] at hv
  exact d9 c7 ⟨_,rfl,rfl,C,dd,fs,_,rfl,rfl,T.ex.xf,no _ (by simp [bE]),T3.at_,hv,q _ s13⟩
 rw [if_neg c7] at hv
 refine fq (Bool.eq_false_iff.mpr c7) ?_
 refine ⟨_,rfl,rfl,C,dd,fs,_,rfl,rfl,T.ex.xf,nc,T3.at_,T3.cod,rfl,_,rfl,?_⟩
 by_cases c8:decide (V.str code=V.str "ParseError")=true
 ·rw [if_pos c8] at hv
  exact d9 c8 ⟨_,rfl,rfl,C,dd,fs,_,rfl,rfl,T.ex.xf,no _ (by simp [bE]),T3.at_,hv,q _ s13⟩
 rw [if_neg c8] at hv
 subst hv
 exact fq (Bool.eq_false_iff.mpr c8) (q _ s13)
end
def AH(H:Hp)(x y:V)(Q:VK):Prop:=[x,y].length≤sizeLine∧∀p H',H p=none→Same H H'→H' p=some (.tup [x,y])→Q (.ref p) H'
section
variable {X:Cx}
end
def rMk(C:Addr)(sp:Sp):List V→Hp→XK→Prop:=fun vs H1 Q=>vs.length≤1000∧∀a,H1 a=none→sp (.ref a::vs) (upd H1 a (exo a C none))
 (fun v H2=>v=.non∧∃(d:Addr) (fs:List (Str×V)),H2 a=some (exo a C (some d))∧H2 d=some (exd d fs)∧H1 d=none∧Q (.ref C) (some d) (upd (L2.del H2 a) d (.xd fs))) E0
structure OexM (P:Program) (w:World) (K:Frag) (mg:Str→Option Value) (base:Heap) (k:Nat) (C:Addr) (sp:Sp):Prop where
 cls:OexC K C
 ini:∃fI fd ps,PySem.W.findIn K (.ref C) "__init__"=some (some (.ref fI))∧PySem.W.typeIn K (.ref fI)=some (.type "function")∧FnOk P w K mg base CX0 k fI fd ps sp∧Binds K fd ps []
section
variable {X:Cx} {pins:List (Addr×Obj)} {σ:L2.St} {H1:Hp} {s1:Shared} {C:Addr} {k:Nat} {sp:Sp}
theorem n4{us:List Value}{vs:List V}{Q:XK}(M:OexM X.prog X.w X.K X.mg X.base k C sp)(room:Room (k+1) X.A)(I:Inv X pins σ H1 s1)(r:Vals vs us)(h:rMk C sp vs H1 Q):
  wpAny (model X.prog X.w) X.A (call (.ref C) us) (L2N.MkP X pins σ Q) X.xe s1:=by
 obtain ⟨fI,fd,ps,iC,tI,F,bind⟩:=M.ini
 obtain ⟨nm,q,N,bs,bm,sn,sub,ab,col,dd,k0,k1,k2,k3,k5,hC,hbm⟩:=M.cls.cls
 obtain ⟨small,want⟩:=h
 obtain ⟨hp,g,dr,tk,os⟩:=s1
 have le1:hp.objs.size≤hp.objs.size+1:=Nat.le_succ _
 have hq:=want (hp.objs.size+1) (I.hok.fresh le1)
 have more:∀b o,hp.get? b=some o→((hp.push (PySem.W.kdv_tup us)).push (PySem.HandSPX.excO C hp.objs.size)).get? b=some o:=fun b o e=>Heap.get?_push_of_some _ (Heap.get?_push_of_some _ e)
 have new:((hp.push (PySem.W.kdv_tup us)).push (PySem.HandSPX.excO C hp.objs.size)).get? (hp.objs.size+1)=some (PySem.HandSPX.excO C hp.objs.size):=by heap_get
 have J:Inv X pins σ (upd H1 (hp.objs.size+1) (exo (hp.objs.size+1) C none)) ⟨(hp.push (PySem.W.kdv_tup us)).push (PySem.HandSPX.excO C hp.objs.size),g,dr,tk,os⟩:=
  I.laid (t':=tk) (a:=hp.objs.size+1) (h':=(hp.push (PySem.W.kdv_tup us)).push (PySem.HandSPX.excO C hp.objs.size)) more le1 (exo_ok new)
 have rv:Vals (V.ref (hp.objs.size+1)::vs) (Value.ref (hp.objs.size+1)::us):=.cons rfl r
 have nps:(Value.ref (hp.objs.size+1)::us).length=ps.length:=by
  rw [←rv.length]
  exact F.len _ _ _ _ hq
 have bt:BindsTo (⟨(hp.push (PySem.W.kdv_tup us)).push (PySem.HandSPX.excO C hp.objs.size),g,dr,tk,os⟩:Shared) fd ⟨Value.ref (hp.objs.size+1)::us,[]⟩ (ps.zip (Value.ref (hp.objs.size+1)::us)):=by
  have z:=bind ⟨(hp.push (PySem.W.kdv_tup us)).push (PySem.HandSPX.excO C hp.objs.size),g,dr,tk,os⟩ (Value.ref (hp.objs.size+1)::us) J.kIn (by rw [List.append_nil]; exact nps)
  rw [List.append_nil] at z
  exact z
 have uz:us.length≤sizeLine:=by
  rw [←Paired.length r,sizeLine_eq]
  omega
 refine wpAny_call (PySem.HandSPX.call_own _root_.PySem.F.excBase_ValueError (fun Y=>PySem.HandSPX.refsVE_contains Y bm hbm) (I.kIn _ _ hC) (PySem.W.looks_findIn I.kIn iC) (fun self=>PySem.W.bind_fn I.kIn self tI) uz
  (codeAny_mono (F.run _ X.stack _ _ ⟨Value.ref (hp.objs.size+1)::us,[]⟩ (Value.ref (hp.objs.size+1)::us) _ _ E0 (room.make C us []) (J.env0.make C us []) bt rv hq) ?_))
 intro z s2 hz
 cases z with
 | error er=>exact (show False from hz).elim
 | ok fl=>
  cases fl with
  | ret u=>
   obtain ⟨v,H2,os2,bare2,un2,hok2,rv2,ev,d,fs,ea,ed,nd,q2⟩:=hz
   subst ev
   obtain ⟨h2,g2,d2,t2,os'⟩:=s2
   obtain ⟨t0,G,J2,kG,ge,hoe,na⟩:=mk_end0 (d2:=d2) (t2:=t2) I le1 more un2 hok2 os2 bare2 ea ed nd
   exact ⟨rv2,hp.objs.size+1,_,_,⟨G,g2,d2,t2,os'⟩,_,.ref C,some d,rfl,J2,kG,ge,hoe,⟨rfl,rfl,fun vs hv=>by cases hv; rfl⟩,rfl,rfl,na,rfl,bare2,raises_own M.cls.exC M.cls.tyC,q2⟩
  | next=>exact (show False from hz).elim
  | brk=>exact (show False from hz).elim
  | cont=>exact (show False from hz).elim
theorem A8{x:Str}{p pos:Pos}(M:OexM X.prog X.w X.K X.mg X.base k C sp)(room:Room (k+1) X.A)(hm:X.mg x=some (.ref C))(hg:Gl X x:=by rfl)(hdb:(x == ("__debug__":Str))=false:=by decide):
  L2N.PMk X (.Call (.Name x p) [] [] pos) (fun σ H Q=>rMk C sp [] H Q):=by
 intro pins s σ H Q I h
 exact wpAny_Call_Name_kw (ld_glob I hg hm (PySem.W.callWith_K0 I.kIn M.cls.kC (n4 (us:=[]) M room I .nil h)) hdb)
theorem Ce{x:Str}{e:Expr}{es:List Expr}{ta:TA}{p pos:Pos}(M:OexM X.prog X.w X.K X.mg X.base k C sp)(room:Room (k+1) X.A)(hm:X.mg x=some (.ref C))(ha:PA X (e::es) ta)(hg:Gl X x:=by rfl)(hdb:(x == ("__debug__":Str))=false:=by decide)
  (he:starEach (e::es) X.env=(false,eval e X.env)::starEach es X.env:=by rfl) (hpl:(backTo pos (starEach es X.env)).any (·.1)=false:=by rfl):
  L2N.PMk X (.Call (.Name x p) (e::es) [] pos) (fun σ H Q=>ta σ H fun vs H1=>rMk C sp vs H1 Q):=by
 intro pins s σ H Q I h
 refine wpAny_Call_Name_kw (ld_glob I hg hm (PySem.W.callWith_K (h₀:=X.base) I.ok.mod.kin M.cls.kC (thn (ha.run pos pins s σ H _ I h) ?_) he hpl) hdb)
 rintro us s1 ⟨vs,H1,I1,r,q⟩
 exact ⟨I1.kIn,n4 M room I1 r q⟩
end
def cb(C:Addr)(n:Nat)(fs:List V→List (Str×V)):Sp:=fun vs H Q _=>∃(a:Addr) (ws:List V),vs=.ref a::ws∧ws.length=n∧H a=some (exo a C none)∧
 ∀d H',H d=none→d≠a→H' a=some (exo a C (some d))→H' d=some (exd d (fs ws))→(∀b o,b≠a→H b=some o→H' b=some o)→Q .non H'
theorem rR{C:Addr}{n:Nat}{fs:List V→List (Str×V)}{vs:List V}{H:Hp}{Q:XK}(hn:vs.length=n)(h1:n≤1000)(h:∀d H',H d=none→H' d=some (.xd (fs vs))→Same H H'→Q (.ref C) (some d) H'):rMk C (cb C n fs) vs H Q:=by
 refine ⟨by omega,fun a na=>⟨a,vs,rfl,hn,upd_same,fun d H' nd da ea ed keep=>⟨rfl,d,fs vs,ea,ed,?_,?_⟩⟩⟩
 ·rw [upd_ne da] at nd
  exact nd
 ·rw [upd_ne da] at nd
  refine h d _ nd upd_same fun b o e=>?_
  have ba:b≠a:=ne_of_none e na
  rw [upd_ne (ne_of_none e nd),L2.del_ne ba]
  exact keep b o ba (by rw [upd_ne ba]; exact e)
def A9(K:Frag)(C:Addr):Bool:=match K.lookup C with
 | some o=>(match o.cls,o.data,o.slots.toList with
  | .type t,.cls d,[_,_,_,_,some (.builtin b),_]=>(match d.mro with
   | .ref c::bm=>decide (t="type")&&decide (b="ValueError.__new__")&&decide (c=C)&&d.hasDict&& !d.hasDel&&PySem.HandSPX.refsVE bm
   | _=>false)
  | _,_,_=>false)
 | none=>false
theorem yW{K:Frag}{C:Addr}(h:A9 K C=true):∃nm q N bs bm sn sub ab col dd k0 k1 k2 k3 k5,K.lookup C=some (excClassObj nm q C N bs bm true sn sub ab col dd k0 k1 k2 k3 k5 "ValueError.__new__")∧PySem.HandSPX.refsVE bm=true:=by
 unfold A9 at h
 split at h
 ·rename_i o ho
  split at h
  ·rename_i t d k0 k1 k2 k3 b k5 e1 e2 e3
   split at h
   ·rename_i c bm e4
    simp only [Bool.and_eq_true,decide_eq_true_eq,Bool.not_eq_true'] at h
    obtain ⟨⟨⟨⟨⟨rfl,rfl⟩,rfl⟩,h4⟩,h5⟩,h6⟩:=h
    obtain ⟨oc,od,dt,sl⟩:=o
    obtain ⟨nm,bs,mro,ns,qn,hd,sn,sub,ab,col,del⟩:=d
    obtain ⟨sl⟩:=sl
    dsimp only at e1 e2 e3 e4 h4 h5
    subst e1 e2 e3 e4 h4 h5
    exact ⟨nm,qn,ns,bs,bm,sn,sub,ab,col,od,k0,k1,k2,k3,k5,ho,h6⟩
   ·cases h
  ·cases h
 ·cases h
def Ba(K:Frag)(C:Addr):Bool:=A9 K C&&(decide (PySem.W.findIn K (.ref C) "__setattr__"=some (some (.builtin "object.__setattr__")))&&(decide (PySem.W.subIn K (.ref C) (.type "BaseException")=some true)&&
 (decide (PySem.W.typeIn K (.ref C)=some (.type "type"))&&(PySem.W.keepIn K (.ref C)&&(xfB K C&&(bE.all fun n=>decide (PySem.W.findIn K (.ref C) n=some none)))))))
structure ErrC (K:Frag) (C:Addr):Prop where
 ox:OexC K C
 ex:ExK K C
theorem yX{K:Frag}{C:Addr}(h:Ba K C=true):ErrC K C:=by
 unfold Ba at h
 simp only [Bool.and_eq_true,decide_eq_true_eq,List.all_eq_true] at h
 obtain ⟨h1,h2,h3,h4,h5,h6,h7⟩:=h
 exact ⟨⟨yW h1,h2,h3,h4,h5⟩,⟨xfB_ok h6,h7⟩⟩
def Dj(K:Frag)(x:Str):Bool:=decide (PySem.W.findIn K (.ref (He.ga K x)) "__init__"=some (some (.ref (He.fAd K (x,some "__init__")))))&&decide (PySem.W.typeIn K (.ref (He.fAd K (x,some "__init__")))=some (.type "function"))
def AI(K:Frag)(xs:List Str):Bool:=xs.all fun x=>Ba K (He.ga K x)&&Dj K x
abbrev dI(x q:Str)(st:Stmt):He.DefD:=⟨(x,some "__init__"),"__init__",q,defArgs st,defBody st,defScope st,[],[]⟩
theorem qb{K:Frag}{xs:List Str}(h:AI K xs=true)(x:Str)(hx:x∈xs):ErrC K (He.ga K x)∧PySem.W.findIn K (.ref (He.ga K x)) "__init__"=some (some (.ref (He.fAd K (x,some "__init__"))))∧PySem.W.typeIn K (.ref (He.fAd K (x,some "__init__")))=some (.type "function"):=by
 have z:=List.all_eq_true.mp h x hx
 obtain ⟨z1,z2⟩:=Bool.and_eq_true_iff.mp z
 obtain ⟨z3,z4⟩:=Bool.and_eq_true_iff.mp z2
 exact ⟨yX z1,of_decide_eq_true z3,of_decide_eq_true z4⟩
def sZ(K:Frag)(xs:List Str):Bool:=xs.all fun x=>decide (PySem.W.exmAny K (.ref (He.ga K x)) [.ref (He.ga K "FrameError"),.ref (He.ga K "Missing"),.ref (He.ga K "NothingLeft")]=some true)
theorem rS{K:Frag}{xs:List Str}(h:sZ K xs=true)(x:Str)(hx:x∈xs):PySem.W.exmAny K (.ref (He.ga K x)) [.ref (He.ga K "FrameError"),.ref (He.ga K "Missing"),.ref (He.ga K "NothingLeft")]=some true:=of_decide_eq_true (List.all_eq_true.mp h x hx)
section
variable {P:Program} {w:World} {K:Frag} {mg:Str→Option Value} {base:Heap}
abbrev aB:Stmt:=inClass (top 4) 0
abbrev fT:List Str:=["self","at"]
abbrev fU:List Str:=["self","at"]
theorem gQ:FnScope fT fU (defScope aB):=⟨rfl,rfl,rfl,by decide+kernel,rfl,by decide+kernel,by decide+kernel⟩
theorem kX{C:Addr}{q:Str}{f:Addr}{fd:FuncData}(D:FunD K "__init__" q (defArgs aB) (defBody aB) (defScope aB) [] [] f fd)(T:ErrC K C):FnOk P w K mg base CX0 1 f fd ["self","at"] (cb C 1 fun vs=>[("at",vs.headD .non),("code",.str "InvalidText")]):=by
 refine D.ok gQ (fun vs H Q E h=>?_) (fun cdv A outer s H vs Q E hr h=>?_)
 ·obtain ⟨a,ws,rfl,hl,_⟩:=h
  rw [List.length_cons,hl]
  rfl
 obtain ⟨a,ws,rfl,hl,ha,q⟩:=h
 match ws,hl with
 | [x],_=>
  refine ⟨_,PSs.nox (pss_cons (ps_ost (pv 0) pe_str) (pss_one (ps_ost (pv 0) (pv 1)))),?_⟩
  refine ⟨_,rfl,a,C,rfl,T.ox,T.ex.no _ (by simp [bE]),.inl ⟨ha,fun d nd da=>?_⟩⟩
  refine ⟨_,rfl,_,rfl,a,C,rfl,T.ox,T.ex.no _ (by simp [bE]),.inr ⟨d,_,upd_same,(by rw [upd_ne da,upd_same]),(by simp),?_⟩⟩
  refine q d _ nd da (by rw [upd_ne da.symm,upd_same]) upd_same fun b o hb e=>?_
  rw [upd_ne (ne_of_none e nd),upd_ne hb,upd_ne (ne_of_none e nd)]
  exact e
end
abbrev iY:Stmt:=top 42
abbrev rU:List Str:=["_law_script","_law_salt","_law_cell"]
abbrev iZ:List Str:=["_law_script"]
abbrev gR:Stmt:=top 43
abbrev qc:List Str:=["_law_bag_here","_law_amount","_law_cell","_law_got","_law_seed"]
abbrev br:List Str:=["_law_bag_here","_law_amount"]
theorem eQ:FnScope rU iZ (defScope iY):=⟨rfl,rfl,rfl,by decide+kernel,rfl,by decide+kernel,by decide+kernel⟩
section
variable {P:Program} {w:World} {K:Frag} {mg:Str→Option Value} {base:Heap}
theorem qg(G:Gs K mg "_law_bag" iY)(mint:mg "int"=none)(mlist:mg "list"=none):Gd P w K mg base CX0 1 "_law_bag" iZ (AG K):=by
 refine G.ok eQ (fun vs H Q E h=>?_) (fun _ _ _ _ _ _ us hl=>match us,hl with | [_],_=>rfl) (fun f cdv A outer s H vs Q E hr h=>?_)
 ·obtain ⟨a,ns,rfl,_⟩:=h
  rfl
 obtain ⟨a,ns,rfl,hS,q⟩:=h
 refine ⟨_,pss_cons (ps_set (i:=1) eQ.nd rfl (.inl rfl) pe_int)
  (pss_cons (ps_for PassesOwn.never rfl (pi_list (pe_slice sl_list (pv 0) po_none (po_some pe_int))) (pg_name (i:=2) eQ.nd rfl (.inl rfl))
   (pss_one (ps_set (i:=1) eQ.nd rfl (.inl rfl) (pe_op op_mod (pe_op op_add (pe_op op_add (pe_op op_mul (pv 1) pe_int) (pe_op op_mod (pe_callTy call_int1 (by rfl) mint (by decide+kernel) (pa_cons (pv 2) pa_nil)) pe_int)) pe_int) pe_int))))
  (pss_one (ps_ret (pe_lst (pa_cons (pe_callTy call_list_of (by rfl) mlist (by decide+kernel) (pa_cons (pe_slice sl_list (pv 0) po_none (po_some pe_int)) pa_nil)) (pa_cons pe_int (pa_cons pe_int (pa_cons (pv 1) pa_nil)))))))),?_⟩
 refine ⟨_,rfl,_,rfl,a,_,rfl,hS,fun c nc=>?_⟩
 have e63:cutV (ns.map V.int) none (some 63)=(ns.take 63).map V.int:=by
  rw [show (63:Int)=((63:Nat):Int) from rfl,Di,List.map_take]
 rw [e63]
 refine ⟨c,rfl,⟨_,fu upd_same⟩,for_list (K:=K) (a:=c) (xs:=(ns.take 63).map V.int)
  (fun i σ H'=>∃(salt:Int) (v:Option V),σ=[some (.ref a),some (.int salt),v]∧0≤salt∧salt<2147483647∧Same (upd H c (.lst ((ns.take 63).map V.int))) H')
  ⟨3841,none,rfl,by decide,by decide,Same.refl _⟩ (fun i σ H' _ ⟨_,_,_,_,_,s1⟩=>fu (s1 _ _ upd_same)) ?_ ?_⟩
 ·rintro i x σ H' hi ⟨salt,v,rfl,h0,h1,s1⟩
  obtain ⟨z,hz,rfl⟩:∃z,(ns.take 63)[i]? =some z∧x=V.int z:=by
   rw [List.getElem?_map] at hi
   cases e:(ns.take 63)[i]? with
   | none=>
    rw [e] at hi
    cases hi
   | some z=>
    rw [e] at hi
    exact ⟨z,rfl,(Option.some.inj hi).symm⟩
  refine ⟨_,rfl,_,_,rfl,rfl,.inl ⟨by omega,by omega⟩,_,rfl,.inl ⟨_,rfl,_,_,rfl,rfl,(by show (0:Int)<_; decide),_,_,rfl,rfl,_,_,rfl,rfl,_,_,rfl,rfl,(by show (0:Int)<_; decide),_,_,rfl,?_,?_,s1⟩⟩
  ·omega
  ·omega
 ·rintro σ H' ⟨salt,v,rfl,h0,h1,s1⟩
  refine ⟨_,rfl,_,rfl,a,_,rfl,(aJ nc _ |>.trans s1).seq hS,fun d nd=>?_⟩
  refine ⟨d,_,rfl,.inl (fu upd_same),fun l nl=>?_⟩
  refine ⟨_,rfl,(by show 4≤sizeLine; decide),fun p np=>?_⟩
  have s2:Same H' (upd (upd (upd H' d (.lst (cutV (ns.map V.int) none (some 63)))) l (.lst (cutV (ns.map V.int) none (some 63)))) p (.lst [.ref l,.int 0,.int 0,.int salt])):=(aJ nd _).trans ((aJ nl _).trans (aJ np _))
  have s3:=(aJ nc (.lst ((ns.take 63).map V.int))).trans (s1.trans s2)
  refine q p l _ ?_ s3 ⟨0,0,salt,ns.take 63,upd_same,?_,by decide,by decide,h0,h1⟩
  ·have z:=((aJ nc _).trans (s1.trans ((aJ nd _).trans (aJ nl _)))).free np
   exact z
  ·rw [←e63,upd_ne (ne_of_none upd_same np),upd_same]
theorem dQ:FnScope qc br (defScope gR):=⟨rfl,rfl,rfl,by decide+kernel,rfl,by decide+kernel,by decide+kernel⟩
theorem oK(G:Gs K mg "_law_pull" gR)(mint:mg "int"=none)(mlen:mg "len"=none):Gd P w K mg base CX0 1 "_law_pull" br rP:=by
 refine G.ok dQ (fun vs H Q E h=>?_) (fun _ _ _ _ _ _ us hl=>match us,hl with | [_,_],_=>rfl) (fun f cdv A outer s H vs Q E hr h=>?_)
 ·obtain ⟨p,l,n,rfl,_⟩:=h
  rfl
 obtain ⟨p,l,n,rfl,B,n0,n1,q⟩:=h
 refine ⟨_,pss_cons (ps_if (PW.pt (pw_and (pt_cmpR op_eq (pe_ix ix_list (pv 0) pe_int (fun _ _=>rfl)) pe_int (nomark _)) (pw_and1 (pt_cmpR op_lt (pe_ix ix_list (pv 0) pe_int (fun _ _=>rfl)) (pe_callB call_len_seq (by rfl) mlen PySem.boot_len (pa_cons (pe_ix ix_list (pv 0) pe_int (fun _ _=>rfl)) pa_nil)) (nomark _)))))
   (pss_cons (ps_set (i:=2) dQ.nd rfl (.inl rfl) (pe_ix ix_list (pe_ix ix_list (pv 0) pe_int (fun _ _=>rfl)) (pe_ix ix_list (pv 0) pe_int (fun _ _=>rfl)) (fun _ _=>rfl)))
   (pss_cons (ps_asg (pe_op op_add (pe_ix ix_list (pv 0) pe_int (fun _ _=>rfl)) pe_int) (pg_sub (pv 0) pe_int set_list))
   (pss_one (ps_if (pt_cmpR op_ge (pv 2) (pe_op op_pow pe_int pe_int) (nomark _))
    (pss_one (ps_asg (pv 2) (pg_sub (pv 0) pe_int set_list)))
    (pss_one (ps_asg (pe_op op_mod (pe_op op_add (pe_op op_add (pe_op op_mul (pe_ix ix_list (pv 0) pe_int (fun _ _=>rfl)) pe_int) (pe_op op_mul (pe_op op_mod (pe_callTy call_int1 (by rfl) mint (by decide+kernel) (pa_cons (pv 2) pa_nil)) pe_int) pe_int)) pe_int) pe_int) (pg_sub (pv 0) pe_int set_list)))))))
   pss_nil)
  (pss_cons (ps_if (pt_cmpR op_gt (pe_ix ix_list (pv 0) pe_int (fun _ _=>rfl)) pe_int (nomark _))
   (pss_cons (ps_set (i:=3) dQ.nd rfl (.inl rfl) (pe_op op_mod (pe_callTy call_int1 (by rfl) mint (by decide+kernel) (pa_cons (pe_ix ix_list (pv 0) pe_int (fun _ _=>rfl)) pa_nil)) (pv 1)))
   (pss_cons (ps_asg (pe_op op_fdivW (pe_ix ix_list (pv 0) pe_int (fun _ _=>rfl)) (pv 1)) (pg_sub (pv 0) pe_int set_list))
   (pss_one (ps_ret (pv 3))))) pss_nil)
  (pss_cons (ps_set (i:=4) dQ.nd rfl (.inl rfl) (pe_ix ix_list (pv 0) pe_int (fun _ _=>rfl)))
  (pss_cons (ps_asg (pe_op op_mod (pe_op op_add (pe_op op_add (pe_op op_mul (pv 4) (pv 4)) (pe_op op_mul (pv 4) pe_int)) pe_int) pe_int) (pg_sub (pv 0) pe_int set_list))
  (pss_one (ps_ret (pe_op op_mod (pe_op op_add (pe_op op_fdiv (pe_ix ix_list (pv 0) pe_int (fun _ _=>rfl)) pe_int) (pe_op op_mul (pe_op op_mod (pe_callTy call_int1 (by rfl) mint (by decide+kernel) (pa_cons (pe_ix ix_list (pv 0) pe_int (fun _ _=>rfl)) pa_nil)) pe_int) pe_int)) (pv 1))))))),?_⟩
 obtain ⟨i,rest,seed,ns,hp,hl,hi,hrest,hs0,hs1⟩:=B.ex
 have npl:l≠p:=ne_of hl hp (fun z=>by
  injection z with z
  have z2:=congrArg List.length z
  cases ns with
  | nil=>simp at z
  | cons x r=>
   rw [List.map_cons] at z
   injection z with z _
   cases z)
 have a0:∀{x y z u:V},atI [x,y,z,u] 0=some x:=rfl
 have a1:∀{x y z u:V},atI [x,y,z,u] 1=some y:=rfl
 have a2:∀{x y z u:V},atI [x,y,z,u] 2=some z:=rfl
 have a3:∀{x y z u:V},atI [x,y,z,u] 3=some u:=rfl
 refine yU (fun σ' H'=>∃(i rest seed:Int) (v:Option V),σ'=[some (.ref p),some (.int n),v,none,none]∧SameX p H H'∧H' p=some (.lst [.ref l,.int i,.int rest,.int seed])∧0≤i∧0≤rest∧0≤seed∧seed<2147483647) (fun N hN=>?_) ?_
 ·have done:N (start ["_law_bag_here","_law_amount","_law_cell","_law_got","_law_seed"] [V.ref p,V.int n]) H:=hN _ _ ⟨i,rest,seed,none,rfl,Same.refl _,hp,hi,hrest,hs0,hs1⟩
  refine ⟨_,rfl,p,_,_,_,rfl,rfl,fu hp,a2,rfl,_,rfl,?_⟩
  by_cases c:V.int rest=V.int 0
  ·rw [decide_eq_true c]
   refine iteT ?_
   refine ⟨_,rfl,p,_,_,_,rfl,rfl,fu hp,a1,_,rfl,p,_,_,_,rfl,rfl,fu hp,a0,l,_,rfl,.inl (fu hl),_,_,rfl,rfl,_,rfl,?_⟩
   by_cases c2:i<((ns.map V.int).length:Int)
   ·rw [decide_eq_true c2]
    refine iteT ?_
    rw [List.length_map] at c2
    have hk:i.toNat<ns.length:=by omega
    have ek:i=((i.toNat:Nat):Int):=by omega
    have ai:atI (ns.map V.int) i=some (.int ns[i.toNat]):=by
     have z:=nZ (xs:=ns.map V.int) hi (by rw [List.length_map]; exact hk)
     rw [List.getElem_map] at z
     exact z
    -- the cell,the place
    refine ⟨_,rfl,p,_,_,_,rfl,rfl,fu hp,a0,_,rfl,p,_,_,_,rfl,rfl,fu hp,a1,l,_,_,_,rfl,rfl,fu hl,ai,?_⟩
    refine ⟨_,rfl,p,_,_,_,rfl,rfl,fu hp,a1,_,_,rfl,rfl,_,rfl,p,_,_,_,rfl,rfl,hp,rfl,?_⟩
    -- if cell >= 10 ** 18
    refine ⟨_,rfl,_,_,rfl,rfl,⟨by decide,by decide,by decide⟩,_,_,rfl,rfl,_,rfl,?_⟩
    refine ite2 (fun c3=>?_) (fun c3=>?_)
    ·have c3':=of_decide_eq_true c3
     refine ⟨_,rfl,_,rfl,p,_,_,_,rfl,rfl,upd_same,rfl,?_⟩
     refine hN _ _ ⟨i+1,ns[i.toNat],seed,some (.int ns[i.toNat]),rfl,.of fun b o hb e=>?_,upd_same,by omega,?_,hs0,hs1⟩
     ·rw [upd_ne hb,upd_ne hb]
      exact e
     ·exact Int.le_trans (by decide) c3'
    ·refine ⟨_,rfl,p,_,_,_,rfl,rfl,fu upd_same,a3,_,_,rfl,rfl,.inl ⟨by omega,by omega⟩,_,rfl,.inl ⟨_,rfl,_,_,rfl,rfl,(by show (0:Int)<_; decide),_,_,rfl,rfl,.inr ⟨by decide,by decide⟩,_,_,rfl,rfl,_,_,rfl,rfl,_,_,rfl,rfl,(by show (0:Int)<_; decide),_,rfl,p,_,_,_,rfl,rfl,upd_same,rfl,?_⟩⟩
     refine hN _ _ ⟨i+1,rest,_,some (.int ns[i.toNat]),rfl,.of fun b o hb e=>?_,upd_same,by omega,hrest,Int.emod_nonneg _ (by decide),Int.emod_lt_of_pos _ (by decide)⟩
     rw [upd_ne hb,upd_ne hb]
     exact e
   ·rw [decide_eq_false c2]
    exact iteF done
  ·rw [decide_eq_false c]
   exact iteF done
 ·rintro σ' H' ⟨i,rest,seed,v,rfl,sx,hp,hi,hrest,hs0,hs1⟩
  have hl':=sx.at npl hl
  have fin:∀(i rest seed:Int) (H2:Hp),(∀b o,b≠p→H' b=some o→H2 b=some o)→H2 p=some (.lst [.ref l,.int i,.int rest,.int seed])→0≤i→0≤rest→0≤seed→seed<2147483647→SameX p H H2∧BagAt H2 p l:=fun i rest seed H2 k e h0 h1 h2 h3=>
   ⟨sx.trans (SameX.of k),⟨i,rest,seed,ns,e,k _ _ npl hl',h0,h1,h2,h3⟩⟩
  refine ⟨_,rfl,p,_,_,_,rfl,rfl,fu hp,a2,_,_,rfl,rfl,_,rfl,?_⟩
  refine ite2 (fun c=>?_) (fun c=>?_)
  ·refine ⟨_,rfl,p,_,_,_,rfl,rfl,fu hp,a2,.inl ⟨_,rfl,_,rfl,_,_,rfl,rfl,n0,?_⟩⟩
   refine ⟨_,rfl,p,_,_,_,rfl,rfl,fu hp,a2,_,rfl,_,_,rfl,rfl,wide_div n0 (b:=100) (by omega) (by decide) (by decide),_,rfl,p,_,_,_,rfl,rfl,hp,rfl,_,rfl,?_⟩
   obtain ⟨x1,x2⟩:=fin i (rest / n) seed (upd H' p (.lst [.ref l,.int i,.int (rest / n),.int seed])) (fun b o hb e=>by rw [upd_ne hb]; exact e) upd_same hi (Int.ediv_nonneg hrest (by omega)) hs0 hs1
   exact q _ _ (Int.emod_nonneg _ (by omega)) (Int.emod_lt_of_pos _ n0) x1 x2
  ·refine ⟨_,rfl,p,_,_,_,rfl,rfl,fu hp,a3,?_⟩
   refine ⟨_,rfl,_,rfl,_,_,rfl,rfl,.inl ⟨by omega,by omega⟩,_,rfl,_,_,rfl,rfl,.inr ⟨by decide,by decide⟩,_,_,rfl,rfl,_,_,rfl,rfl,_,_,rfl,rfl,(by show (0:Int)<_; decide),_,rfl,p,_,_,_,rfl,rfl,hp,rfl,?_⟩
   refine ⟨_,rfl,p,_,_,_,rfl,rfl,fu upd_same,a3,_,_,rfl,rfl,⟨by decide,by decide⟩,_,rfl,p,_,_,_,rfl,rfl,fu upd_same,a3,.inl ⟨_,rfl,_,_,rfl,rfl,(by show (0:Int)<_; decide),_,_,rfl,rfl,.inr ⟨by decide,by decide⟩,_,_,rfl,rfl,_,rfl,_,_,rfl,rfl,n0,?_⟩⟩
   obtain ⟨x1,x2⟩:=fin i rest ((seed * seed+seed * 48271+1013904223) % 2147483647) (upd H' p (.lst [.ref l,.int i,.int rest,.int ((seed * seed+seed * 48271+1013904223) % 2147483647)])) (fun b o hb e=>by rw [upd_ne hb]; exact e) upd_same hi hrest (Int.emod_nonneg _ (by decide)) (Int.emod_lt_of_pos _ (by decide))
   exact q _ _ (Int.emod_nonneg _ (by omega)) (Int.emod_lt_of_pos _ n0) x1 x2
end
section
variable {X:Cx}
end
theorem uX{T:List (Addr×Str)}{H H':Hp}(t:LamX.Tabs T H)(s:Same H H'):LamX.Tabs T H':=t.ext s
theorem yY{T:List (Addr×Str)}{H H':Hp}{p l:Addr}(t:LamX.Tabs T H)(B:BagAt H p l)(s:SameX p H H'):LamX.Tabs T H':=fun q hq=>by
 obtain ⟨ps,h1,h2,h3⟩:=t q hq
 obtain ⟨i,r,sd,ns,hp,_⟩:=B.ex
 have nt:q.1≠p:=fun z=>by
  rw [z,hp] at h1
  cases h1
 refine ⟨ps,s.at nt h1,h2,fun pos cv hc=>?_⟩
 obtain ⟨c,e1,e2⟩:=h3 pos cv hc
 have nc:c≠p:=fun z=>by
  rw [z,hp] at e2
  have z2:=Option.some.inj e2
  unfold LamX.CodeO at z2
  cases z2
 exact ⟨c,e1,s.at nc e2⟩
structure Lv (T:List (Addr×Str)) (H:Hp) (p l:Addr):Prop where
 bag:BagAt H p l
 tab:LamX.Tabs T H
theorem Lv.to{T:List (Addr×Str)}{H H':Hp}{p l:Addr}(L:Lv T H p l)(s:Same H H'):Lv T H' p l:=⟨L.bag.to s,uX L.tab s⟩
theorem Lv.sx{T:List (Addr×Str)}{H H':Hp}{p l:Addr}(L:Lv T H p l)(s:SameX p H H')(B:BagAt H' p l):Lv T H' p l:=⟨B,yY L.tab L.bag s⟩
inductive D where
 | non | bl (b:Bool) | int (i:Int) | str (x:Str) | ty (n:String) | fn (a:Addr)
 | tup (xs:List D) | lst (xs:List D) | dic (kvs:List (Key×D)) | obj (C:Addr) (fs:List (Str×D)) | exc (C:Addr) (fs:List (Str×D)) | lam (os:List (Addr×Obj)) (c:Addr) (q:Str)
def Dk(a:Addr)(o:Obj):HO:=.ext fun h=>h.get? a=some o
inductive W where
 | v (d:D) | loc (n:Nat)
inductive MO where
 | lst (xs:List D) | dic (kvs:List (Key×D)) | ins (C:Addr) (fs:List (Str×W)) | bag | tab (p:Addr) (q:Str) | gone
def MO.live:MO→Bool
 | .gone=>false
 | _=>true
abbrev En:=List (Option W)
abbrev Me:=List MO
structure Er where
 C:Addr
 fs:List (Str×D)
def tj:Key→Prop
 | .inl _=>True
 | .inr x=>PySem.PyData.strOk x=true
def TqT(K:Frag)(B:Hp)(a:Addr)(xs:List V):Prop:=
 B a=some (.tup xs)∨∃(o:Obj) (its:Array Value) (n:Nat),K.lookup a=some o∧o.cls=.type "tuple"∧o.data=.seq its n∧its.size≤sizeLine∧Vals xs its.toList
theorem TqT.sq{K:Frag}{B:Hp}{a:Addr}{xs:List V}(h:TqT K B a xs):SqT K B a xs:=h.elim (fun e=>.inl (.inl e)) .inr
theorem TqT.to{K:Frag}{B B':Hp}(e:Same B B'){a:Addr}{xs:List V}(h:TqT K B a xs):TqT K B' a xs:=h.elim (fun z=>.inl (e _ _ z)) .inr
mutual
inductive Rv (K:Frag) (B:Hp):V→D→Prop
 | non:Rv K B .non .non
 | bl (b:Bool):Rv K B (.bl b) (.bl b)
 | int (i:Int):Rv K B (.int i) (.int i)
 | str {x:Str}:PySem.PyData.strOk x=true→Rv K B (.str x) (.str x)
 | ty (n:String):Rv K B (.ty n) (.ty n)
 | fn (a:Addr):Rv K B (.ref a) (.fn a)
 | tup {a:Addr} {xs:List V} {ds:List D}:TqT K B a xs→RvL K B xs ds→Rv K B (.ref a) (.tup ds)
 | lst {a:Addr} {xs:List V} {ds:List D}:B a=some (.lst xs)→RvL K B xs ds→Rv K B (.ref a) (.lst ds)
 | dic {a:Addr} {od:Obj} {xs:List (Key×V)} {ds:List (Key×D)}:B a=some (.frz od (.dK xs))→RvK K B xs ds→Rv K B (.ref a) (.dic ds)
 | obj {a C dx:Addr} {xs:List (Str×V)} {ds:List (Str×D)}:B a=some (.ins C dx xs)→RvF K B xs ds→Rv K B (.ref a) (.obj C ds)
 | exc {a C dx:Addr} {xs:List (Str×V)} {ds:List (Str×D)}:B a=some (exo a C (some dx))→B dx=some (exd dx xs)→RvF K B xs ds→Rv K B (.ref a) (.exc C ds)
 | lam {f c:Addr} {ob:Obj} {r:List (Addr×Obj)} {q:Str}:(B c=some (LamX.CodeO c q)∧∀p∈(f,ob)::r,B p.1=some (Dk p.1 p.2))→Rv K B (.ref f) (.lam ((f,ob)::r) c q)
inductive RvL (K:Frag) (B:Hp):List V→List D→Prop
 | nil:RvL K B [] []
 | cons {v:V} {vs:List V} {d:D} {ds:List D}:Rv K B v d→RvL K B vs ds→RvL K B (v::vs) (d::ds)
inductive RvK (K:Frag) (B:Hp):List (Key×V)→List (Key×D)→Prop
 | nil:RvK K B [] []
 | cons {k:Key} {v:V} {vs:List (Key×V)} {d:D} {ds:List (Key×D)}:tj k→Rv K B v d→RvK K B vs ds→RvK K B ((k,v)::vs) ((k,d)::ds)
inductive RvF (K:Frag) (B:Hp):List (Str×V)→List (Str×D)→Prop
 | nil:RvF K B [] []
 | cons {k:Str} {v:V} {vs:List (Str×V)} {d:D} {ds:List (Str×D)}:Rv K B v d→RvF K B vs ds→RvF K B ((k,v)::vs) ((k,d)::ds)
end
def Le(B H:Hp):Prop:=∀a o,B a=some o→H a=some o
theorem Le.refl(B:Hp):Le B B:=fun _ _ h=>h
theorem Le.of{B H:Hp}(h:Same B H):Le B H:=h
theorem Le.same{B B' H:Hp}(s:Same B B')(h:Le B' H):Le B H:=fun a o e=>h a o (s a o e)
theorem Le.rd{B H:Hp}(h:Le B H){a:Addr}{u:HO}(r:Rd B a u):Rd H a u:=r.elim (fun r=>.inl (h _ _ r)) fun ⟨o,r⟩=>.inr ⟨o,h _ _ r⟩
theorem Le.seq{K:Frag}{B H:Hp}(h:Le B H){a:Addr}{xs:List V}(r:SqL K B a xs):SqL K H a xs:=r.elim (fun r=>.inl (h.rd r)) .inr
theorem Le.tup{K:Frag}{B H:Hp}(h:Le B H){a:Addr}{xs:List V}(r:TqT K B a xs):SqT K H a xs:=r.elim (fun r=>.inl (.inl (h _ _ r))) .inr
theorem Le.ins{B H:Hp}(h:Le B H){a C dx:Addr}{xs:List (Str×V)}(r:B a=some (.ins C dx xs)):H a=some (.ins C dx xs):=h _ _ r
theorem Le.some{B H:Hp}(h:Le B H){a:Addr}{o:HO}(r:B a=some o):H a≠none:=by
 rw [h _ _ r]
 exact fun z=>nomatch z
theorem Same.rd{B H:Hp}(h:Same B H){a:Addr}{u:HO}(r:Rd B a u):Rd H a u:=r.elim (fun r=>.inl (h _ _ r)) fun ⟨o,r⟩=>.inr ⟨o,h _ _ r⟩
mutual
theorem Rv.to{K:Frag}{B B':Hp}(e:Same B B'):∀{v:V} {d:D},Rv K B v d→Rv K B' v d
 | _,_,.non=>.non
 | _,_,.bl b=>.bl b
 | _,_,.int i=>.int i
 | _,_,.str h=>.str h
 | _,_,.ty n=>.ty n
 | _,_,.fn a=>.fn a
 | _,_,.tup h a=>.tup (TqT.to e h) (RvL.to e a)
 | _,_,.lst h a=>.lst (e _ _ h) (RvL.to e a)
 | _,_,.dic h a=>.dic (e _ _ h) (RvK.to e a)
 | _,_,.obj h a=>.obj (e _ _ h) (RvF.to e a)
 | _,_,.exc h g a=>.exc (e _ _ h) (e _ _ g) (RvF.to e a)
 | _,_,.lam h=>.lam ⟨e _ _ h.1,fun p hp=>e _ _ (h.2 p hp)⟩
theorem RvL.to{K:Frag}{B B':Hp}(e:Same B B'):∀{vs:List V} {ds:List D},RvL K B vs ds→RvL K B' vs ds
 | _,_,.nil=>.nil
 | _,_,.cons h t=>.cons (Rv.to e h) (RvL.to e t)
theorem RvK.to{K:Frag}{B B':Hp}(e:Same B B'):∀{vs:List (Key×V)} {ds:List (Key×D)},RvK K B vs ds→RvK K B' vs ds
 | _,_,.nil=>.nil
 | _,_,.cons k h t=>.cons k (Rv.to e h) (RvK.to e t)
theorem RvF.to{K:Frag}{B B':Hp}(e:Same B B'):∀{vs:List (Str×V)} {ds:List (Str×D)},RvF K B vs ds→RvF K B' vs ds
 | _,_,.nil=>.nil
 | _,_,.cons h t=>.cons (Rv.to e h) (RvF.to e t)
end
theorem RvL.len{K:Frag}{H:Hp}:∀{vs:List V} {ds:List D},RvL K H vs ds→vs.length=ds.length
 | _,_,.nil=>rfl
 | _,_,.cons _ t=>congrArg Nat.succ (RvL.len t)
theorem RvL.at{K:Frag}{H:Hp}:∀{vs:List V} {ds:List D} {i:Nat} {d:D},RvL K H vs ds→ds[i]? =some d→∃v,vs[i]? =some v∧Rv K H v d
 | _,_,_,_,.nil,e=>by simp at e
 | _,_,0,d,.cons (v:=v) h _,e=>⟨v,rfl,by simp at e; subst e; exact h⟩
 | _,_,i+1,d,.cons _ t,e=>by
  obtain ⟨v,h1,h2⟩:=RvL.at (i:=i) (d:=d) t (by simpa using e)
  exact ⟨v,by simpa using h1,h2⟩
theorem RvL.at'{K:Frag}{H:Hp}:∀{vs:List V} {ds:List D} {i:Nat} {v:V},RvL K H vs ds→vs[i]? =some v→∃d,ds[i]? =some d∧Rv K H v d
 | _,_,_,_,.nil,e=>by simp at e
 | _,_,0,v,.cons (d:=d) h _,e=>⟨d,rfl,by simp at e; subst e; exact h⟩
 | _,_,i+1,v,.cons _ t,e=>by
  obtain ⟨d,h1,h2⟩:=RvL.at' (i:=i) (v:=v) t (by simpa using e)
  exact ⟨d,by simpa using h1,h2⟩
theorem RvL.append{K:Frag}{H:Hp}:∀{vs us:List V} {ds es:List D},RvL K H vs ds→RvL K H us es→RvL K H (vs++us) (ds++es)
 | _,_,_,_,.nil,r=>r
 | _,_,_,_,.cons h t,r=>.cons h (RvL.append t r)
theorem RvL.one{K:Frag}{H:Hp}{v:V}{d:D}(h:Rv K H v d):RvL K H [v] [d]:=.cons h .nil
theorem RvL.take{K:Frag}{H:Hp}:∀{vs:List V} {ds:List D} (n:Nat),RvL K H vs ds→RvL K H (vs.take n) (ds.take n)
 | _,_,0,_=>by simp; exact .nil
 | _,_,_+1,.nil=>by simp; exact .nil
 | _,_,n+1,.cons h t=>.cons h (RvL.take n t)
theorem RvL.drop{K:Frag}{H:Hp}:∀{vs:List V} {ds:List D} (n:Nat),RvL K H vs ds→RvL K H (vs.drop n) (ds.drop n)
 | _,_,0,r=>r
 | _,_,_+1,.nil=>by simp; exact .nil
 | _,_,n+1,.cons _ t=>RvL.drop n t
theorem RvL.set{K:Frag}{H:Hp}{v:V}{d:D}(h:Rv K H v d):∀{vs:List V} {ds:List D} (n:Nat),RvL K H vs ds→RvL K H (vs.set n v) (ds.set n d)
 | _,_,_,.nil=>.nil
 | _,_,0,.cons _ t=>.cons h t
 | _,_,n+1,.cons a t=>.cons a (RvL.set h n t)
theorem RvK.len{K:Frag}{H:Hp}:∀{vs:List (Key×V)} {ds:List (Key×D)},RvK K H vs ds→vs.length=ds.length
 | _,_,.nil=>rfl
 | _,_,.cons _ _ t=>congrArg Nat.succ (RvK.len t)
theorem RvF.look{K:Frag}{H:Hp}{f:Str}{d:D}:∀{vs:List (Str×V)} {ds:List (Str×D)},RvF K H vs ds→ds.lookup f=some d→∃v,vs.lookup f=some v∧Rv K H v d
 | _,_,.nil,e=>by simp at e
 | _,_,.cons (k:=k) (v:=v) (vs:=vs) (d:=d2) (ds:=ds) h t,e=>by
  rw [List.lookup_cons] at e ⊢
  cases q:f == k with
  | true=>rw [q] at e; cases e; exact ⟨_,rfl,h⟩
  | false=>rw [q] at e; exact RvF.look t e
def RW(K:Frag)(B:Hp)(μ:List Addr):V→W→Prop
 | v,.v d=>Rv K B v d
 | v,.loc n=>∃a,v=.ref a∧μ[n]? =some a
inductive RWs (K:Frag) (B:Hp) (μ:List Addr):List V→List W→Prop
 | nil:RWs K B μ [] []
 | cons {v:V} {vs:List V} {w:W} {ws:List W}:RW K B μ v w→RWs K B μ vs ws→RWs K B μ (v::vs) (w::ws)
inductive RWf (K:Frag) (B:Hp) (μ:List Addr):List (Str×V)→List (Str×W)→Prop
 | nil:RWf K B μ [] []
 | cons {k:Str} {v:V} {vs:List (Str×V)} {w:W} {ws:List (Str×W)}:RW K B μ v w→RWf K B μ vs ws→RWf K B μ ((k,v)::vs) ((k,w)::ws)
structure BagB (B H:Hp) (p:Addr):Prop where
 ex:∃(l:Addr) (i rest seed:Int) (ns:List Int),H p=some (.lst [.ref l,.int i,.int rest,.int seed])∧B l=some (.lst (ns.map V.int))∧0≤i∧0≤rest∧0≤seed∧seed<2147483647
structure TabB (B H:Hp) (p:Addr) (q:Str):Prop where
 ex:∃ps:Array Value,H p=some (.tbl ps)∧TriplesOk ps.toList∧∀(pos:Pos) (cv:Value),codeAmong pos ps.toList=some cv→∃c,cv=.ref c∧B c=some (LamX.CodeO c q)
def OO(K:Frag)(B:Hp)(μ:List Addr)(H:Hp)(a:Addr):MO→Prop
 | .lst ds=>∃vs,H a=some (.lst vs)∧RvL K B vs ds
 | .dic ds=>∃vs,H a=some (.dK vs)∧RvK K B vs ds
 | .ins C fs=>∃dx vs,H a=some (.ins C dx vs)∧RWf K B μ vs fs
 | .bag=>BagB B H a
 | .tab p q=>a=p∧TabB B H a q
 | .gone=>True
def Live(μ:List Addr)(mem:List MO)(a:Addr):Prop:=∃(n:Nat) (m:MO),μ[n]? =some a∧mem[n]? =some m∧m.live=true
structure MemOk (K:Frag) (B:Hp) (μ:List Addr) (mem:List MO) (H:Hp):Prop where
 le:Le B H
 len:μ.length=mem.length
 off:∀a,Live μ mem a→B a=none
 at_:∀(n:Nat) (a:Addr) (m:MO),μ[n]? =some a→mem[n]? =some m→m.live=true→OO K B μ H a m
 inj:∀(n k:Nat) (a:Addr) (m m':MO),μ[n]? =some a→μ[k]? =some a→mem[n]? =some m→mem[k]? =some m'→m.live=true→m'.live=true→n=k
 ntb:∀(a:Addr) (ps:Array Value),B a≠some (.tbl ps)
structure Rel (K:Frag) (B:Hp) (μ:List Addr) (env:En) (mem:Me) (σ:L2.St) (H:Hp):Prop where
 mem:MemOk K B μ mem H
 len:σ.length=env.length
 env:∀(i:Nat) (x:W),env[i]? =some (some x)→∃v,σ[i]? =some (some v)∧RW K B μ v x
structure Stp (B:Hp) (μ:List Addr) (mem:List MO) (H:Hp) (B':Hp) (μ':List Addr) (mem':List MO) (H':Hp):Prop where
 same:Same B B'
 pre:μ<+:μ'
 out:∀a o,¬Live μ mem a→H a=some o→(∀ps,o≠ .tbl ps)→H' a=some o
 hid:∀a o,¬Live μ mem a→H a=some o→((∀q,o≠LamX.CodeO a q)∧∀ps,o≠ .tbl ps)→B a=none→B' a=none∧¬Live μ' mem' a
theorem Stp.refl{B:Hp}{μ:List Addr}{mem:List MO}{H:Hp}:Stp B μ mem H B μ mem H:=⟨Same.refl _,List.prefix_refl _,fun _ _ _ h _=>h,fun _ _ n _ _ b=>⟨b,n⟩⟩
theorem de{μ μ':List Addr}{n:Nat}{a:Addr}(h:μ<+:μ')(e:μ[n]? =some a):μ'[n]? =some a:=by
 obtain ⟨t,rfl⟩:=h
 rw [List.getElem?_append_left (List.getElem?_eq_some_iff.mp e).1]
 exact e
theorem RW.to{K:Frag}{B B':Hp}{μ μ':List Addr}(s:Same B B')(p:μ<+:μ'):∀{v:V} {w:W},RW K B μ v w→RW K B' μ' v w
 | _,.v _,h=>Rv.to s h
 | _,.loc _,⟨a,e,h⟩=>⟨a,e,de p h⟩
theorem RWs.to{K:Frag}{B B':Hp}{μ μ':List Addr}(s:Same B B')(p:μ<+:μ'):∀{v:List V} {w:List W},RWs K B μ v w→RWs K B' μ' v w
 | _,_,.nil=>.nil
 | _,_,.cons h t=>.cons (RW.to s p h) (RWs.to s p t)
theorem RWf.to{K:Frag}{B B':Hp}{μ μ':List Addr}(s:Same B B')(p:μ<+:μ'):∀{v:List (Str×V)} {w:List (Str×W)},RWf K B μ v w→RWf K B' μ' v w
 | _,_,.nil=>.nil
 | _,_,.cons h t=>.cons (RW.to s p h) (RWf.to s p t)
theorem RWs.len{K:Frag}{B:Hp}{μ:List Addr}:∀{v:List V} {w:List W},RWs K B μ v w→v.length=w.length
 | _,_,.nil=>rfl
 | _,_,.cons _ t=>congrArg Nat.succ (RWs.len t)
theorem OO.to{K:Frag}{B B':Hp}{μ μ':List Addr}{H H':Hp}{a:Addr}(s:Same B B')(p:μ<+:μ')(e:∀o,H a=some o→H' a=some o):∀{m:MO},OO K B μ H a m→OO K B' μ' H' a m
 | .lst _,⟨vs,h,r⟩=>⟨vs,e _ h,RvL.to s r⟩
 | .dic _,⟨vs,h,r⟩=>⟨vs,e _ h,RvK.to s r⟩
 | .ins _ _,⟨dx,vs,h,r⟩=>⟨dx,vs,e _ h,RWf.to s p r⟩
 | .bag,⟨l,i,r,sd,ns,h,hl,k⟩=>⟨l,i,r,sd,ns,e _ h,s _ _ hl,k⟩
 | .tab _ _,⟨z,ps,h,h2,h3⟩=>⟨z,ps,e _ h,h2,fun pos cv z=>let ⟨c,e1,e2⟩:=h3 pos cv z; ⟨c,e1,s _ _ e2⟩⟩
 | .gone,_=>trivial
theorem OO.there{K:Frag}{B:Hp}{μ:List Addr}{H:Hp}{a:Addr}:∀{m:MO},m.live=true→OO K B μ H a m→H a≠none
 | .lst _,_,⟨vs,h,r⟩=>by rw [h]; exact fun z=>nomatch z
 | .dic _,_,⟨vs,h,r⟩=>by rw [h]; exact fun z=>nomatch z
 | .ins _ _,_,⟨dx,vs,h,r⟩=>by rw [h]; exact fun z=>nomatch z
 | .bag,_,⟨l,i,r,sd,ns,h,hl,k⟩=>by rw [h]; exact fun z=>nomatch z
 | .tab _ _,_,⟨_,ps,h,_⟩=>by rw [h]; exact fun z=>nomatch z
theorem OO.noext{K:Frag}{B:Hp}{μ:List Addr}{H:Hp}{a:Addr}{φ:Heap→Prop}:∀{m:MO},m.live=true→OO K B μ H a m→H a≠some (.ext φ)
 | .lst _,_,⟨vs,h,r⟩=>by rw [h]; exact fun z=>nomatch z
 | .dic _,_,⟨vs,h,r⟩=>by rw [h]; exact fun z=>nomatch z
 | .ins _ _,_,⟨dx,vs,h,r⟩=>by rw [h]; exact fun z=>nomatch z
 | .bag,_,⟨l,i,r,sd,ns,h,hl,k⟩=>by rw [h]; exact fun z=>nomatch z
 | .tab _ _,_,⟨_,ps,h,_⟩=>by rw [h]; exact fun z=>nomatch z
theorem Stp.trans{K:Frag}{B B1 B2:Hp}{μ μ1 μ2:List Addr}{mem mem1 mem2:List MO}{H H1 H2:Hp}(a:Stp B μ mem H B1 μ1 mem1 H1)(m1:MemOk K B1 μ1 mem1 H1)(b:Stp B1 μ1 mem1 H1 B2 μ2 mem2 H2)(le:Le B H):Stp B μ mem H B2 μ2 mem2 H2 where
 same:=a.same.trans b.same
 pre:=a.pre.trans b.pre
 out:=fun x o n h nt=>by
  have h1:=a.out x o n h nt
  refine b.out x o (fun l=>?_) h1 nt
  have z:=m1.off x l
  cases e:B x with
  | some u=>rw [a.same _ _ e] at z; cases z
  | none=>
   cases o with
   | ext φ=>
    obtain ⟨k,mo,e1,e2,e3⟩:=l
    exact OO.noext e3 (m1.at_ k x mo e1 e2 e3) h1
   | tbl ps=>exact nt ps rfl
   | _=>exact (a.hid x _ n h ⟨(fun _ z=>nomatch z),(fun _ z=>nomatch z)⟩ e).2 l
 hid:=fun x o n h ne e=>by
  obtain ⟨e1,n1⟩:=a.hid x o n h ne e
  exact b.hid x o n1 (a.out x o n h ne.2) ne e1
theorem MemOk.there{K:Frag}{B:Hp}{μ:List Addr}{mem:List MO}{H:Hp}(h:MemOk K B μ mem H){a:Addr}(l:Live μ mem a):H a≠none:=by
 obtain ⟨n,m,h1,h2,h3⟩:=l
 exact OO.there h3 (h.at_ n a m h1 h2 h3)
theorem MemOk.laid{K:Frag}{B:Hp}{μ:List Addr}{mem:List MO}{H:Hp}(h:MemOk K B μ mem H){p:Addr}{o:HO}(np:H p=none)(no:∀ps,o≠ .tbl ps:=by exact fun _ z=>nomatch z):MemOk K (upd B p o) μ mem (upd H p o):=by
 have nb:B p=none:=by
  cases e:B p with
  | none=>rfl
  | some u=>exact absurd np (h.le.some e)
 refine ⟨fun a u e=>?_,h.len,fun a l=>?_,fun n a m e1 e2 e3=>?_,h.inj,fun a ps e=>by
  by_cases c:a=p
  ·subst c
   rw [upd_same] at e
   exact no ps (Option.some.inj e)
  ·rw [upd_ne c] at e
   exact h.ntb a ps e⟩
 ·by_cases c:a=p
  ·subst c
   rw [upd_same] at e
   rw [upd_same]
   exact e
  ·rw [upd_ne c] at e
   rw [upd_ne c]
   exact h.le a u e
 ·have c:a≠p:=fun z=>by subst z; exact h.there l np
  rw [upd_ne c]
  exact h.off a l
 ·have c:a≠p:=fun z=>by subst z; exact h.there ⟨n,m,e1,e2,e3⟩ np
  exact OO.to (aJ nb o) (List.prefix_refl _) (fun u q=>by rw [upd_ne c]; exact q) (h.at_ n a m e1 e2 e3)
theorem Stp.laid{K:Frag}{B:Hp}{μ:List Addr}{mem:List MO}{H:Hp}(h:MemOk K B μ mem H){p:Addr}{o:HO}(np:H p=none):Stp B μ mem H (upd B p o) μ mem (upd H p o):=by
 have nb:B p=none:=by
  cases e:B p with
  | none=>rfl
  | some u=>exact absurd np (h.le.some e)
 refine ⟨aJ nb o,List.prefix_refl _,fun a u _ e _=>?_,fun a o' n e _ b=>⟨?_,n⟩⟩
 ·rw [upd_ne (ne_of_none e np)]
  exact e
 ·have c:a≠p:=ne_of_none e np
  rw [upd_ne c]
  exact b
theorem n6{K:Frag}{B:Hp}{μ:List Addr}{mem:List MO}{H:Hp}(h:MemOk K B μ mem H){p:Addr}{o:HO}(np:H p=none):Same B (upd B p o):=(Stp.laid h np (o:=o)).same
theorem MemOk.push{K:Frag}{B:Hp}{μ:List Addr}{mem:List MO}{H H':Hp}(h:MemOk K B μ mem H){p:Addr}{m:MO}(np:H p=none)(le:Le B H')(keep:∀a o,a≠p→H a=some o→H' a=some o)(new:OO K B (μ++[p]) H' p m):MemOk K B (μ++[p]) (mem++[m]) H':=by
 have nb:B p=none:=by
  cases e:B p with
  | none=>rfl
  | some u=>exact absurd np (h.le.some e)
 have sp:∀{n:Nat} {a:Addr},(μ++[p])[n]? =some a→(μ[n]? =some a)∨(n=mem.length∧a=p):=fun {n a} e=>by
  by_cases c:n<μ.length
  ·rw [List.getElem?_append_left c] at e
   exact .inl e
  ·rw [List.getElem?_append_right (by omega)] at e
   have z:=(List.getElem?_eq_some_iff.mp e).1
   simp at z
   have z2:n=μ.length:=by omega
   subst z2
   simp at e
   exact .inr ⟨h.len,e.symm⟩
 have sm:∀{n:Nat} {x:MO} {a:Addr},μ[n]? =some a→(mem++[m])[n]? =some x→mem[n]? =some x:=fun {n x a} e q=>by
  have z:=(List.getElem?_eq_some_iff.mp e).1
  rw [List.getElem?_append_left (by have:=h.len; omega)] at q
  exact q
 refine ⟨le,by simp [h.len],fun a l=>?_,fun n a x e1 e2 e3=>?_,fun n k a x y e1 e2 e3 e4 l1 l2=>?_,h.ntb⟩
 ·obtain ⟨n,x,e1,e2,e3⟩:=l
  rcases sp e1 with e | ⟨_,rfl⟩
  ·exact h.off a ⟨n,x,e,sm e e2,e3⟩
  ·exact nb
 ·rcases sp e1 with e | ⟨rfl,rfl⟩
  ·have q:=h.at_ n a x e (sm e e2) e3
   have c:a≠p:=fun z=>by subst z; exact OO.there e3 q np
   exact OO.to (Same.refl _) (List.prefix_append _ _) (fun u z=>keep a u c z) q
  ·rw [List.getElem?_append_right (Nat.le_refl _),Nat.sub_self] at e2
   have z:m=x:=Option.some.inj e2
   subst z
   exact new
 ·rcases sp e1 with u1 | ⟨rfl,rfl⟩
  ·rcases sp e2 with u2 | ⟨rfl,rfl⟩
   ·exact h.inj n k a x y u1 u2 (sm u1 e3) (sm u2 e4) l1 l2
   ·exact absurd np (OO.there l1 (h.at_ n _ x u1 (sm u1 e3) l1))
  ·rcases sp e2 with u2 | ⟨rfl,_⟩
   ·exact absurd np (OO.there l2 (h.at_ k _ y u2 (sm u2 e4) l2))
   ·rfl
theorem Stp.push{K:Frag}{B:Hp}{μ:List Addr}{mem:List MO}{H H':Hp}(h:MemOk K B μ mem H){p:Addr}{m:MO}(np:H p=none)(keep:∀a o,a≠p→H a=some o→H' a=some o):Stp B μ mem H B (μ++[p]) (mem++[m]) H':=by
 refine ⟨Same.refl _,List.prefix_append _ _,fun a o _ e _=>keep a o (ne_of_none e np) e,fun a o n e _ b=>⟨b,fun l=>?_⟩⟩
 obtain ⟨k,x,e1,e2,e3⟩:=l
 by_cases c:k<μ.length
 ·rw [List.getElem?_append_left c] at e1
  rw [List.getElem?_append_left (by have:=h.len; omega)] at e2
  exact n ⟨k,x,e1,e2,e3⟩
 ·rw [List.getElem?_append_right (by omega)] at e1
  have z:=List.mem_of_getElem? e1
  rw [List.mem_singleton] at z
  rw [z,np] at e
  cases e
theorem MemOk.store{K:Frag}{B:Hp}{μ:List Addr}{mem:List MO}{H H':Hp}(h:MemOk K B μ mem H){n:Nat}{a:Addr}{m m':MO}(ha:μ[n]? =some a)(hm:mem[n]? =some m)(hl:m.live=true)(hl':m'.live=true)(keep:∀b o,b≠a→H b=some o→H' b=some o)(new:OO K B μ H' a m'):MemOk K B μ (mem.set n m') H':=by
 have lv:∀{k:Nat} {x:MO},(mem.set n m')[k]? =some x→x.live=true→∃y,mem[k]? =some y∧y.live=true:=fun {k x} e l=>by
  by_cases c:k=n
  ·subst c
   exact ⟨m,hm,hl⟩
  ·rw [List.getElem?_set_ne (fun z=>c z.symm)] at e
   exact ⟨x,e,l⟩
 have off:∀b,Live μ (mem.set n m') b→B b=none:=fun b l=>by
  obtain ⟨k,x,e1,e2,e3⟩:=l
  obtain ⟨y,e4,e5⟩:=lv e2 e3
  exact h.off b ⟨k,y,e1,e4,e5⟩
 have nb:=h.off a ⟨n,m,ha,hm,hl⟩
 refine ⟨fun b u e=>?_,by simp [h.len],off,fun k b x e1 e2 e3=>?_,fun k j b x y e1 e2 e3 e4 l1 l2=>?_,h.ntb⟩
 ·have c:b≠a:=ne_of_none e nb
  exact keep b u c (h.le b u e)
 ·by_cases c:k=n
  ·subst c
   rw [List.getElem?_set_self (List.getElem?_eq_some_iff.mp hm).1] at e2
   have z:m'=x:=Option.some.inj e2
   subst z
   have z2:a=b:=Option.some.inj (ha.symm.trans e1)
   subst z2
   exact new
  ·rw [List.getElem?_set_ne (fun z=>c z.symm)] at e2
   have ne:b≠a:=fun z=>by
    subst z
    exact c (h.inj k n b x m e1 ha e2 hm e3 hl)
   exact OO.to (Same.refl _) (List.prefix_refl _) (fun u z=>keep b u ne z) (h.at_ k b x e1 e2 e3)
 ·obtain ⟨x',q1,q2⟩:=lv e3 l1
  obtain ⟨y',q3,q4⟩:=lv e4 l2
  exact h.inj k j b x' y' e1 e2 q1 q3 q2 q4
theorem Stp.store{B:Hp}{μ:List Addr}{mem:List MO}{H H':Hp}{n:Nat}{a:Addr}{m m':MO}(ha:μ[n]? =some a)(hm:mem[n]? =some m)(hl:m.live=true)(keep:∀b o,b≠a→H b=some o→H' b=some o):Stp B μ mem H B μ (mem.set n m') H':=by
 have la:Live μ mem a:=⟨n,m,ha,hm,hl⟩
 refine ⟨Same.refl _,List.prefix_refl _,fun b o nl e _=>keep b o (fun z=>nl (z ▸la)) e,fun b o nl e _ q=>⟨q,fun l=>?_⟩⟩
 obtain ⟨k,x,e1,e2,e3⟩:=l
 by_cases c:k=n
 ·subst c
  have z2:a=b:=Option.some.inj (ha.symm.trans e1)
  exact nl (z2 ▸la)
 ·rw [List.getElem?_set_ne (fun z=>c z.symm)] at e2
  exact nl ⟨k,x,e1,e2,e3⟩
theorem MemOk.freeze{K:Frag}{B:Hp}{μ:List Addr}{mem:List MO}{H:Hp}(h:MemOk K B μ mem H){n:Nat}{a:Addr}{m:MO}{o:HO}(ha:μ[n]? =some a)(hm:mem[n]? =some m)(hl:m.live=true)(ho:H a=some o)(no:∀ps,o≠ .tbl ps:=by exact fun _ z=>nomatch z):MemOk K (upd B a o) μ (mem.set n .gone) H:=by
 have nb:=h.off a ⟨n,m,ha,hm,hl⟩
 have lv:∀{k:Nat} {x:MO},(mem.set n .gone)[k]? =some x→x.live=true→k≠n∧mem[k]? =some x:=fun {k x} e l=>by
  by_cases c:k=n
  ·subst c
   rw [List.getElem?_set_self (List.getElem?_eq_some_iff.mp hm).1] at e
   cases e
   cases l
  ·rw [List.getElem?_set_ne (fun z=>c z.symm)] at e
   exact ⟨c,e⟩
 refine ⟨fun b u e=>?_,by simp [h.len],fun b l=>?_,fun k b x e1 e2 e3=>?_,fun k j b x y e1 e2 e3 e4 l1 l2=>?_,fun b ps e=>by
  by_cases c:b=a
  ·subst c
   rw [upd_same] at e
   exact no ps (Option.some.inj e)
  ·rw [upd_ne c] at e
   exact h.ntb b ps e⟩
 ·by_cases c:b=a
  ·subst c
   rw [upd_same] at e
   cases e
   exact ho
  ·rw [upd_ne c] at e
   exact h.le b u e
 ·obtain ⟨k,x,e1,e2,e3⟩:=l
  obtain ⟨c,e4⟩:=lv e2 e3
  have ne:b≠a:=fun z=>by
   subst z
   exact c (h.inj k n b x m e1 ha e4 hm e3 hl)
  rw [upd_ne ne]
  exact h.off b ⟨k,x,e1,e4,e3⟩
 ·obtain ⟨c,e4⟩:=lv e2 e3
  exact OO.to (aJ nb o) (List.prefix_refl _) (fun _ z=>z) (h.at_ k b x e1 e4 e3)
 ·exact h.inj k j b x y e1 e2 (lv e3 l1).2 (lv e4 l2).2 l1 l2
theorem Stp.freeze{B:Hp}{μ:List Addr}{mem:List MO}{H:Hp}{n:Nat}{a:Addr}{m:MO}{o:HO}(ha:μ[n]? =some a)(hm:mem[n]? =some m)(hl:m.live=true)(nb:B a=none):Stp B μ mem H (upd B a o) μ (mem.set n .gone) H:=by
 have la:Live μ mem a:=⟨n,m,ha,hm,hl⟩
 refine ⟨aJ nb o,List.prefix_refl _,fun _ _ _ e _=>e,fun b _ nl e _ q=>⟨?_,fun l=>?_⟩⟩
 ·have ne:b≠a:=fun z=>by
   subst z
   exact nl la
  rw [upd_ne ne]
  exact q
 ·obtain ⟨k,x,e1,e2,e3⟩:=l
  by_cases c:k=n
  ·subst c
   rw [List.getElem?_set_self (List.getElem?_eq_some_iff.mp hm).1] at e2
   cases e2
   cases e3
  ·rw [List.getElem?_set_ne (fun z=>c z.symm)] at e2
   exact nl ⟨k,x,e1,e2,e3⟩
theorem Live.take{μ:List Addr}{mem:List MO}{n:Nat}{a:Addr}(l:Live (μ.take n) (mem.take n) a):Live μ mem a:=by
 obtain ⟨k,x,e1,e2,e3⟩:=l
 rw [List.getElem?_take] at e1 e2
 by_cases c:k<n
 ·rw [if_pos c] at e1 e2
  exact ⟨k,x,e1,e2,e3⟩
 ·rw [if_neg c] at e1
  cases e1
theorem RW.d{K:Frag}{B:Hp}{μ:List Addr}{v:V}{d:D}(h:Rv K B v d):RW K B μ v (.v d):=h
theorem RW.back{K:Frag}{B B':Hp}{μ μ':List Addr}{u v:V}(bk:∀{n:Nat} {a:Addr},n<μ.length→μ'[n]? =some a→μ[n]? =some a):∀{w:W},RW K B μ u w→RW K B' μ' v w→RW K B' μ v w
 | .v _,_,h=>h
 | .loc _,⟨_,_,m0⟩,⟨a1,e1,m1⟩=>⟨a1,e1,bk (List.getElem?_eq_some_iff.mp m0).1 m1⟩
theorem RWf.back{K:Frag}{B B':Hp}{μ μ':List Addr}(bk:∀{n:Nat} {a:Addr},n<μ.length→μ'[n]? =some a→μ[n]? =some a):∀{us vs:List (Str×V)} {ws:List (Str×W)},RWf K B μ us ws→RWf K B' μ' vs ws→RWf K B' μ vs ws
 | _,_,_,.nil,.nil=>.nil
 | _,_,_,.cons a t,.cons b u=>.cons (RW.back bk a b) (RWf.back bk t u)
theorem MemOk.drop{K:Frag}{B B':Hp}{μ μ':List Addr}{mem more:List MO}{H H':Hp}(h0:MemOk K B μ mem H)(p:μ<+:μ')(h:MemOk K B' μ' (mem++more) H'):MemOk K B' μ mem H':=by
 have up:∀{n:Nat} {m:MO},mem[n]? =some m→(mem++more)[n]? =some m:=fun {n m} e=>by
  rw [List.getElem?_append_left (List.getElem?_eq_some_iff.mp e).1]
  exact e
 have bk:∀{n:Nat} {a:Addr},n<μ.length→μ'[n]? =some a→μ[n]? =some a:=fun {n a} l e=>by
  obtain ⟨t,rfl⟩:=p
  rw [List.getElem?_append_left l] at e
  exact e
 refine ⟨h.le,h0.len,fun a l=>?_,fun n a m e1 e2 e3=>?_,fun n k a m m' e1 e2 e3 e4 l1 l2=>?_,h.ntb⟩
 ·obtain ⟨n,m,e1,e2,e3⟩:=l
  exact h.off a ⟨n,m,de p e1,up e2,e3⟩
 ·have q0:=h0.at_ n a m e1 e2 e3
  have q:=h.at_ n a m (de p e1) (up e2) e3
  cases m with
  | lst ds=>exact q
  | dic ds=>exact q
  | bag=>exact q
  | gone=>trivial
  | tab _ _=>exact q
  | ins C fs=>
   obtain ⟨dx0,vs0,_,r0⟩:=q0
   obtain ⟨dx,vs,hh,r⟩:=q
   exact ⟨dx,vs,hh,RWf.back bk r0 r⟩
 ·exact h.inj n k a m m' (de p e1) (de p e2) (up e3) (up e4) l1 l2
theorem Stp.drop{B B':Hp}{μ μ':List Addr}{mem more:List MO}{H H':Hp}(s:Stp B μ mem H B' μ' (mem++more) H'):Stp B μ mem H B' μ mem H':=
 ⟨s.same,List.prefix_refl _,s.out,fun a o n e x b=>⟨(s.hid a o n e x b).1,n⟩⟩
def ExOf(K:Frag)(E:XK)(B:Hp)(μ:List Addr)(mem:List MO)(H:Hp)(Qx:Er→List MO→Prop):Prop:=
 ∀B' μ' mem' H' (er:Er) (dd:Addr) fvs,Stp B μ mem H B' μ' mem' H'→MemOk K B' μ' mem' H'→H' dd=some (.xd fvs)→RvF K B' fvs er.fs→Qx er mem'→E (.ref er.C) (some dd) H'
theorem ExOf.step{K:Frag}{E:XK}{B B1:Hp}{μ μ1:List Addr}{mem mem1:List MO}{H H1:Hp}{Qx:Er→List MO→Prop}(h:ExOf K E B μ mem H Qx)(s:Stp B μ mem H B1 μ1 mem1 H1)(m1:MemOk K B1 μ1 mem1 H1)(le:Le B H):ExOf K E B1 μ1 mem1 H1 Qx:=
 fun B' μ' mem' H' er dd fvs s' m' hd r q=>h B' μ' mem' H' er dd fvs (s.trans m1 s' le) m' hd r q
abbrev QX:=Er→Me→Prop
abbrev DTE:=En→Me→(W→Me→Prop)→QX→Prop
abbrev DTA:=En→Me→(List W→Me→Prop)→QX→Prop
abbrev DTT:=En→Me→(Bool→Me→Prop)→QX→Prop
def SE(X:Cx)(E:XK)(t:TE)(T:DTE):Prop:=∀B μ en m σ H (Q:W→Me→Prop) (Qx:QX) (QV:VK),Rel X.K B μ en m σ H→ExOf X.K E B μ m H Qx→T en m Q Qx→
 (∀B' μ' m' H' x v,Stp B μ m H B' μ' m' H'→Rel X.K B' μ' en m' σ H'→RW X.K B' μ' v x→Q x m'→QV v H')→t σ H QV
def SA(X:Cx)(E:XK)(t:TA)(T:DTA):Prop:=∀B μ en m σ H (Q:List W→Me→Prop) (Qx:QX) (QV:List V→Hp→Prop),Rel X.K B μ en m σ H→ExOf X.K E B μ m H Qx→T en m Q Qx→
 (∀B' μ' m' H' x v,Stp B μ m H B' μ' m' H'→Rel X.K B' μ' en m' σ H'→RWs X.K B' μ' v x→Q x m'→QV v H')→t σ H QV
def ST(X:Cx)(E:XK)(t:TT)(T:DTT):Prop:=∀B μ en m σ H (Q:Bool→Me→Prop) (Qx:QX) (QV:Bool→Hp→Prop),Rel X.K B μ en m σ H→ExOf X.K E B μ m H Qx→T en m Q Qx→
 (∀B' μ' m' H' b,Stp B μ m H B' μ' m' H'→Rel X.K B' μ' en m' σ H'→Q b m'→QV b H')→t σ H QV
structure DE (X:Cx) (E:XK) (e:Expr) (T:DTE):Prop where
 ex:∃t,PE X e t∧SE X E t T
structure DA (X:Cx) (E:XK) (es:List Expr) (T:DTA):Prop where
 ex:∃t,PA X es t∧SA X E t T
structure DT (X:Cx) (E:XK) (e:Expr) (T:DTT):Prop where
 ex:∃t,PT X e t∧ST X E t T
structure DW (X:Cx) (E:XK) (e:Expr) (T:DTT):Prop where
 ex:∃t,PW X e t∧ST X E t T
structure Dn where
 nx:En→Me→Prop
 rt:W→Me→Prop
 bk:En→Me→Prop
 ct:En→Me→Prop
 xc:QX
abbrev DTS:=En→Me→Dn→Prop
def NxOf(K:Frag)(B:Hp)(μ:List Addr)(mem:Me)(H:Hp)(N:En→Me→Prop)(n:L2.St→Hp→Prop):Prop:=∀B' μ' en' m' σ' H',Stp B μ mem H B' μ' m' H'→Rel K B' μ' en' m' σ' H'→N en' m'→n σ' H'
def RtOf(K:Frag)(B:Hp)(μ:List Addr)(mem:Me)(H:Hp)(N:W→Me→Prop)(n:VK):Prop:=∀B' μ' mem' H' x v,Stp B μ mem H B' μ' mem' H'→MemOk K B' μ' mem' H'→RW K B' μ' v x→N x mem'→n v H'
structure EndsOf (K:Frag) (B:Hp) (μ:List Addr) (mem:Me) (H:Hp) (N:Dn) (D:Ends):Prop where
 nx:NxOf K B μ mem H N.nx D.nx
 rt:RtOf K B μ mem H N.rt D.rt
 bk:NxOf K B μ mem H N.bk D.bk
 ct:NxOf K B μ mem H N.ct D.ct
theorem NxOf.step{K:Frag}{B B1:Hp}{μ μ1:List Addr}{mem mem1:Me}{H H1:Hp}{N n}(h:NxOf K B μ mem H N n)(s:Stp B μ mem H B1 μ1 mem1 H1)(m1:MemOk K B1 μ1 mem1 H1)(le:Le B H):NxOf K B1 μ1 mem1 H1 N n:=
 fun B' μ' en' m' σ' H' s' r q=>h B' μ' en' m' σ' H' (s.trans m1 s' le) r q
theorem RtOf.step{K:Frag}{B B1:Hp}{μ μ1:List Addr}{mem mem1:Me}{H H1:Hp}{N n}(h:RtOf K B μ mem H N n)(s:Stp B μ mem H B1 μ1 mem1 H1)(m1:MemOk K B1 μ1 mem1 H1)(le:Le B H):RtOf K B1 μ1 mem1 H1 N n:=
 fun B' μ' mem' H' x v s' m r q=>h B' μ' mem' H' x v (s.trans m1 s' le) m r q
theorem EndsOf.step{K:Frag}{B B1:Hp}{μ μ1:List Addr}{mem mem1:Me}{H H1:Hp}{N:Dn}{D:Ends}(h:EndsOf K B μ mem H N D)(s:Stp B μ mem H B1 μ1 mem1 H1)(m1:MemOk K B1 μ1 mem1 H1)(le:Le B H):EndsOf K B1 μ1 mem1 H1 N D:=
 ⟨h.nx.step s m1 le,h.rt.step s m1 le,h.bk.step s m1 le,h.ct.step s m1 le⟩
def SS(X:Cx)(E:XK)(t:TS)(T:DTS):Prop:=∀B μ en m σ H (N:Dn) (D:Ends),Rel X.K B μ en m σ H→ExOf X.K E B μ m H N.xc→T en m N→EndsOf X.K B μ m H N D→t D σ H
structure DS (X:Cx) (E:XK) (st:Stmt) (T:DTS):Prop where
 ex:∃t,PS X st t∧SS X E t T
structure DSs (X:Cx) (E:XK) (st:List Stmt) (T:DTS):Prop where
 ex:∃t,PSs X st t∧SS X E t T
def En.get(en:En)(i:Nat):Option W:=(en[i]?).getD none
def tV(i:Nat):DTE:=fun en m Q _=>match En.get en i with
 | some x=>Q x m
 | none=>False
def tK(d:D):DTE:=fun _ m Q _=>Q (.v d) m
section
variable {X:Cx} {E:XK}
theorem En.get_some{en:En}{i:Nat}{x:W}(h:En.get en i=some x):en[i]? =some (some x):=by
 unfold En.get at h
 cases e:en[i]? with
 | none=>rw [e] at h; cases h
 | some y=>
  rw [e] at h
  cases h
  rfl
theorem Cf{i:Nat}{x:Str}{pos:Pos}(hN:X.N[i]? =some x)(hv:Vis X.env.scope x)(hd:(x == ("__debug__":Str))=false:=by decide)(hcd:(x == ("__classdict__":Str))=false:=by decide):DE X E (.Name x pos) (tV i):=by
 refine ⟨_,pe_var hN hv hd hcd,fun B μ en m σ H Q Qx QV R hx T k=>?_⟩
 unfold tV at T
 split at T
 ·rename_i x e
  obtain ⟨v,hv,rv⟩:=R.env i x (En.get_some e)
  exact ⟨v,hv,k B μ m H x v .refl R rv T⟩
 ·exact T.elim
theorem SE.const{v:V}{d:D}(h:∀B,Rv X.K B v d):SE X E (tC v) (tK d):=fun B μ en m σ H Q Qx QV R hx T k=>k B μ m H (.v d) v .refl R (h B) T
theorem ah{i j pos}:DE X E (.Constant (.int i) j pos) (tK (.int i)):=⟨_,pe_int,SE.const fun _=>.int i⟩
theorem lX{b j pos}:DE X E (.Constant (.bool b) j pos) (tK (.bl b)):=⟨_,pe_bl,SE.const fun _=>.bl b⟩
theorem tm{j pos}:DE X E (.Constant .none j pos) (tK .non):=⟨_,pe_non,SE.const fun _=>.non⟩
theorem aj{x j pos}(h:PySem.PyData.strOk x=true:=by decide+kernel):DE X E (.Constant (.str x) j pos) (tK (.str x)):=⟨_,pe_str,SE.const fun _=>.str h⟩
theorem j6{x:Str}{v:V}{d:D}{u:Value}{pos:Pos}(hm:X.mg x=some u)(r:RelV v u)(hr:∀B,Rv X.K B v d)(hg:Gl X x:=by rfl)(hd:(x == ("__debug__":Str))=false:=by decide):DE X E (.Name x pos) (tK d):=
 ⟨_,pe_glob hg hm r hd,SE.const hr⟩
theorem fV{x:Str}{n:String}{pos:Pos}(hm:X.mg x=none)(hv:bootBuiltins x=some (.type n))(hg:Gl X x:=by rfl)(hn:x≠"__name__":=by decide)(hd:(x == ("__debug__":Str))=false:=by decide):DE X E (.Name x pos) (tK (.ty n)):=
 ⟨_,pe_bltn (v:=.ty n) hg hm hv rfl hn hd,SE.const fun _=>.ty n⟩
def tN:DTA:=fun _ m Q _=>Q [] m
def tCn(te:DTE)(ta:DTA):DTA:=fun en m Q Qx=>te en m (fun x m1=>ta en m1 (fun xs m2=>Q (x::xs) m2) Qx) Qx
theorem ac:DA X E [] tN:=⟨_,pa_nil,fun B μ en m σ H Q Qx QV R hx T k=>k B μ m H [] [] .refl R .nil T⟩
theorem aa{e:Expr}{es:List Expr}{te:DTE}{ta:DTA}(he:DE X E e te)(ha:DA X E es ta)(hs:starEach (e::es) X.env=(false,eval e X.env)::starEach es X.env:=by rfl):DA X E (e::es) (tCn te ta):=by
 obtain ⟨t1,p1,k1⟩:=he.ex
 obtain ⟨t2,p2,k2⟩:=ha.ex
 refine ⟨_,pa_cons p1 p2 hs,fun B μ en m σ H Q Qx QV R hx T k=>?_⟩
 refine k1 B μ en m σ H _ Qx _ R hx T fun B1 μ1 m1 H1 x v s1 R1 r1 T1=>?_
 refine k2 B1 μ1 en m1 σ H1 _ Qx _ R1 (hx.step s1 R1.mem R.mem.le) T1 fun B2 μ2 m2 H2 xs vs s2 R2 r2 T2=>?_
 exact k B2 μ2 m2 H2 _ _ (s1.trans R1.mem s2 R.mem.le) R2 (.cons (r1.to s2.same s2.pre) r2) T2
abbrev DOp:=W→W→Me→(D→Prop)→Prop
def SO(X:Cx)(r:R2)(o:DOp):Prop:=∀B μ mem H x y v u (Q:D→Prop) (QV:VK),MemOk X.K B μ mem H→RW X.K B μ v x→RW X.K B μ u y→o x y mem Q→
 (∀B' H' d z,Stp B μ mem H B' μ mem H'→MemOk X.K B' μ mem H'→Rv X.K B' z d→Q d→QV z H')→r v u H QV
def OpD(X:Cx)(f:Value→Value→Sem Value)(o:DOp):Prop:=∃r:R2,OpR X f r∧SO X r o
def tO2(o:DOp)(ta tb:DTE):DTE:=fun en m Q Qx=>ta en m (fun x m1=>tb en m1 (fun y m2=>o x y m2 fun d=>Q (.v d) m2) Qx) Qx
theorem Rel.stp{K:Frag}{B B':Hp}{μ μ':List Addr}{en:En}{m m':Me}{σ:L2.St}{H H':Hp}(R:Rel K B μ en m σ H)(s:Stp B μ m H B' μ' m' H')(mo:MemOk K B' μ' m' H'):Rel K B' μ' en m' σ H':=
 ⟨mo,R.len,fun i x e=>let ⟨v,h,r⟩:=R.env i x e; ⟨v,h,r.to s.same s.pre⟩⟩
section
variable {a b:Expr} {ta tb:DTE} {o:DOp} {pos:Pos}
theorem SE.two{r:R2}{t1 t2:TE}(ho:SO X r o)(k1:SE X E t1 ta)(k2:SE X E t2 tb):SE X E (tOp r t1 t2) (tO2 o ta tb):=by
 intro B μ en m σ H Q Qx QV R hx T k
 refine k1 B μ en m σ H _ Qx _ R hx T fun B1 μ1 m1 H1 x v s1 R1 r1 T1=>?_
 refine k2 B1 μ1 en m1 σ H1 _ Qx _ R1 (hx.step s1 R1.mem R.mem.le) T1 fun B2 μ2 m2 H2 y u s2 R2 r2 T2=>?_
 refine ho B2 μ2 m2 H2 x y v u _ _ R2.mem (r1.to s2.same s2.pre) r2 T2 fun B3 H3 d z s3 m3 rz q=>?_
 exact k B3 μ2 m2 H3 (.v d) z ((s1.trans R1.mem s2 R.mem.le).trans R2.mem s3 R.mem.le) (R2.stp s3 m3) rz q
theorem aM{op:Operator}(ho:OpD X (binaryOp op) o)(ha:DE X E a ta)(hb:DE X E b tb):DE X E (.BinOp a op b pos) (tO2 o ta tb):=by
 obtain ⟨t1,p1,k1⟩:=ha.ex
 obtain ⟨t2,p2,k2⟩:=hb.ex
 obtain ⟨r,h1,h2⟩:=ho
 exact ⟨_,pe_op h1 p1 p2,SE.two h2 k1 k2⟩
theorem fH{op:CmpOp}(ho:OpD X (compareOp op) o)(ha:DE X E a ta)(hb:DE X E b tb)(hm:behindInMarks op b=false):DE X E (.Compare a [op] [b] pos) (tO2 o ta tb):=by
 obtain ⟨t1,p1,k1⟩:=ha.ex
 obtain ⟨t2,p2,k2⟩:=hb.ex
 obtain ⟨r,h1,h2⟩:=ho
 exact ⟨_,pe_cmpR h1 p1 p2 hm,SE.two h2 k1 k2⟩
def bD:W→(Bool→Prop)→Prop
 | .v (.bl b),Q=>Q b
 | _,_=>False
theorem n8{K:Frag}{B:Hp}{μ:List Addr}{v:V}:∀{x:W} {Q:Bool→Prop},RW K B μ v x→bD x Q→∃b,x=.v (.bl b)∧v=.bl b∧Q b
 | .v (.bl b),_,r,q=>by cases r; exact ⟨b,rfl,rfl,q⟩
 | .v .non,_,_,q=>q.elim
 | .v (.int _),_,_,q=>q.elim
 | .v (.str _),_,_,q=>q.elim
 | .v (.ty _),_,_,q=>q.elim
 | .v (.fn _),_,_,q=>q.elim
 | .v (.tup _),_,_,q=>q.elim
 | .v (.lst _),_,_,q=>q.elim
 | .v (.dic _),_,_,q=>q.elim
 | .v (.obj _ _),_,_,q=>q.elim
 | .v (.exc _ _),_,_,q=>q.elim
 | .v (.lam _ _ _),_,_,q=>q.elim
 | .loc _,_,_,q=>q.elim
def tBl(te:DTE):DTT:=fun en m Q Qx=>te en m (fun x m1=>bD x fun b=>Q b m1) Qx
theorem SE.test{t:TE}(h:SE X E t ta):ST X E (tTest t) (tBl ta):=by
 intro B μ en m σ H Q Qx QV R hx T k
 refine h B μ en m σ H _ Qx _ R hx T fun B' μ' m' H' x v s R' r' q=>?_
 obtain ⟨b,rfl,rfl,q⟩:=n8 r' q
 exact ⟨b,rfl,k B' μ' m' H' b s R' q⟩
theorem ay{op:CmpOp}(ho:OpD X (compareOp op) o)(ha:DE X E a ta)(hb:DE X E b tb)(hm:behindInMarks op b=false):DT X E (.Compare a [op] [b] pos) (tBl (tO2 o ta tb)):=by
 obtain ⟨t1,p1,k1⟩:=ha.ex
 obtain ⟨t2,p2,k2⟩:=hb.ex
 obtain ⟨r,h1,h2⟩:=ho
 exact ⟨_,pt_cmpR h1 p1 p2 hm,(SE.two h2 k1 k2).test⟩
theorem aP{e:Expr}{t:DTE}(h:DE X E e t)(he:∀whole,isTrue e X.env whole=(do let v ←whole; standAt e.pos; holding [v] (truthy v)):=by intro _; rfl):DT X E e (tBl t):=by
 obtain ⟨t1,p1,k1⟩:=h.ex
 exact ⟨_,pt_val p1 he,k1.test⟩
def tCh(o o2:DOp)(ta tb tc:DTE):DTE:=fun en m Q Qx=>ta en m (fun x m1=>tb en m1 (fun y m2=>o x y m2 fun d=>bD (.v d) fun c=>if c=true then tc en m2 (fun z m3=>o2 y z m3 fun d2=>Q (.v d2) m3) Qx else Q (.v (.bl false)) m2) Qx) Qx
theorem SE.chain{c:Expr}{tc:DTE}{o2:DOp}{r r':R2}{t1 t2 t3:TE}(ho:SO X r o)(ho2:SO X r' o2)(k1:SE X E t1 ta)(k2:SE X E t2 tb)(k3:SE X E t3 tc):SE X E (tChain r r' t1 t2 t3) (tCh o o2 ta tb tc):=by
 intro B μ en m σ H Q Qx QV R hx T k
 refine k1 B μ en m σ H _ Qx _ R hx T fun B1 μ1 m1 H1 x v s1 R1 r1 T1=>?_
 refine k2 B1 μ1 en m1 σ H1 _ Qx _ R1 (hx.step s1 R1.mem R.mem.le) T1 fun B2 μ2 m2 H2 y u s2 R2 r2 T2=>?_
 have s12:=s1.trans R1.mem s2 R.mem.le
 refine ho B2 μ2 m2 H2 x y v u _ _ R2.mem (r1.to s2.same s2.pre) r2 T2 fun B3 H3 d z s3 m3 rz q=>?_
 have s13:=s12.trans R2.mem s3 R.mem.le
 obtain ⟨b,hb,rfl,q⟩:=n8 (μ:=μ2) (x:=.v d) rz q
 refine ⟨b,rfl,?_⟩
 have R3:=R2.stp s3 m3
 cases b with
 | false=>exact iteF (k B3 μ2 m2 H3 (.v (.bl false)) _ s13 R3 (.bl false) q)
 | true=>
  refine iteT (k3 B3 μ2 en m2 σ H3 _ Qx _ R3 (hx.step s13 m3 R.mem.le) q fun B4 μ4 m4 H4 y2 u2 s4 R4 r4 T4=>?_)
  refine ho2 B4 μ4 m4 H4 y y2 u u2 _ _ R4.mem ((r2.to s3.same s3.pre).to s4.same s4.pre) r4 T4 fun B5 H5 d z s5 m5 rz q=>?_
  exact k B5 μ4 m4 H5 (.v d) z ((s13.trans R3.mem s4 R.mem.le).trans R4.mem s5 R.mem.le) (R4.stp s5 m5) rz q
theorem yZ{c:Expr}{tc:DTE}{o2:DOp}{op op':CmpOp}(ho:OpD X (compareOp op) o)(ho2:OpD X (compareOp op') o2)(ha:DE X E a ta)(hb:DE X E b tb)(hc:DE X E c tc)
  (hm:lastMarks [op,op'] [b,c]=false:=by with_unfolding_all rfl):DE X E (.Compare a [op,op'] [b,c] pos) (tCh o o2 ta tb tc):=by
 obtain ⟨t1,p1,k1⟩:=ha.ex
 obtain ⟨t2,p2,k2⟩:=hb.ex
 obtain ⟨t3,p3,k3⟩:=hc.ex
 obtain ⟨r,h1,h2⟩:=ho
 obtain ⟨r',h3,h4⟩:=ho2
 exact ⟨_,pe_chain h1 h3 p1 p2 p3 hm,SE.chain (c:=c) h2 h4 k1 k2 k3⟩
theorem qh{c:Expr}{tc:DTE}{o2:DOp}{op op':CmpOp}(ho:OpD X (compareOp op) o)(ho2:OpD X (compareOp op') o2)(ha:DE X E a ta)(hb:DE X E b tb)(hc:DE X E c tc)
  (hm:lastMarks [op,op'] [b,c]=false:=by with_unfolding_all rfl):DT X E (.Compare a [op,op'] [b,c] pos) (tBl (tCh o o2 ta tb tc)):=by
 obtain ⟨t1,p1,k1⟩:=ha.ex
 obtain ⟨t2,p2,k2⟩:=hb.ex
 obtain ⟨t3,p3,k3⟩:=hc.ex
 obtain ⟨r,h1,h2⟩:=ho
 obtain ⟨r',h3,h4⟩:=ho2
 exact ⟨_,pt_chain h1 h3 p1 p2 p3 hm,(SE.chain (c:=c) h2 h4 k1 k2 k3).test⟩
end
def Cg(t u:DTT):DTT:=fun en m Q Qx=>t en m (fun c m1=>if c=true then u en m1 Q Qx else Q false m1) Qx
def Ch(t u:DTT):DTT:=fun en m Q Qx=>t en m (fun c m1=>if c=true then Q true m1 else u en m1 Q Qx) Qx
def wn(t:DTT):DTT:=fun en m Q Qx=>t en m (fun c m1=>Q (!c) m1) Qx
section
variable {a b c:Expr} {rest:List Expr} {tA tB':DTT} {pos:Pos}
theorem DW.dt(h:DW X E a tA):DT X E a tA:=by
 obtain ⟨t,p,k⟩:=h.ex
 exact ⟨t,p.pt,k⟩
theorem lA(ha:DT X E a tA):DW X E (.BoolOp .And [a] pos) tA:=by
 obtain ⟨t,p,k⟩:=ha.ex
 exact ⟨_,pw_and1 p,k⟩
theorem du(ha:DT X E a tA):DW X E (.BoolOp .Or [a] pos) tA:=by
 obtain ⟨t,p,k⟩:=ha.ex
 exact ⟨_,pw_or1 p,k⟩
theorem i8(ha:DT X E a tA)(hb:DW X E (.BoolOp .And (b::rest) pos) tB'):DW X E (.BoolOp .And (a::b::rest) pos) (Cg tA tB'):=by
 obtain ⟨t1,p1,k1⟩:=ha.ex
 obtain ⟨t2,p2,k2⟩:=hb.ex
 refine ⟨_,pw_and p1 p2,fun B μ en m σ H Q Qx QV R hx T k=>?_⟩
 refine k1 B μ en m σ H _ Qx _ R hx T fun B1 μ1 m1 H1 b s1 R1 q=>?_
 cases b with
 | true=>exact iteT (k2 B1 μ1 en m1 σ H1 _ Qx _ R1 (hx.step s1 R1.mem R.mem.le) q fun B2 μ2 m2 H2 b s2 R2 q=>k B2 μ2 m2 H2 b (s1.trans R1.mem s2 R.mem.le) R2 q)
 | false=>exact iteF (k B1 μ1 m1 H1 false s1 R1 q)
theorem dH(ha:DT X E a tA)(hb:DW X E (.BoolOp .Or (b::rest) pos) tB'):DW X E (.BoolOp .Or (a::b::rest) pos) (Ch tA tB'):=by
 obtain ⟨t1,p1,k1⟩:=ha.ex
 obtain ⟨t2,p2,k2⟩:=hb.ex
 refine ⟨_,pw_or p1 p2,fun B μ en m σ H Q Qx QV R hx T k=>?_⟩
 refine k1 B μ en m σ H _ Qx _ R hx T fun B1 μ1 m1 H1 b s1 R1 q=>?_
 cases b with
 | false=>exact iteF (k2 B1 μ1 en m1 σ H1 _ Qx _ R1 (hx.step s1 R1.mem R.mem.le) q fun B2 μ2 m2 H2 b s2 R2 q=>k B2 μ2 m2 H2 b (s1.trans R1.mem s2 R.mem.le) R2 q)
 | true=>exact iteT (k B1 μ1 m1 H1 true s1 R1 q)
theorem bF(ha:DT X E a tA):DT X E (.UnaryOp .Not a pos) (wn tA):=by
 obtain ⟨t1,p1,k1⟩:=ha.ex
 exact ⟨_,pt_not p1,fun B μ en m σ H Q Qx QV R hx T k=>k1 B μ en m σ H _ Qx _ R hx T fun B1 μ1 m1 H1 b s1 R1 q=>k B1 μ1 m1 H1 _ s1 R1 q⟩
def rV(t:DTT)(ta tb:DTE):DTE:=fun en m Q Qx=>t en m (fun c m1=>if c=true then ta en m1 Q Qx else tb en m1 Q Qx) Qx
theorem SE.on{t:TE}{T:DTE}(h:SE X E t T){B B1:Hp}{μ μ1:List Addr}{en:En}{m m1:Me}{σ:L2.St}{H H1:Hp}{Q:W→Me→Prop}{Qx:QX}{QV:VK}(R:Rel X.K B μ en m σ H)(hx:ExOf X.K E B μ m H Qx)(k:∀B' μ' m' H' x v,Stp B μ m H B' μ' m' H'→Rel X.K B' μ' en m' σ H'→RW X.K B' μ' v x→Q x m'→QV v H')
  (s1:Stp B μ m H B1 μ1 m1 H1) (R1:Rel X.K B1 μ1 en m1 σ H1) (q:T en m1 Q Qx):t σ H1 QV:=
 h B1 μ1 en m1 σ H1 _ Qx _ R1 (hx.step s1 R1.mem R.mem.le) q fun B2 μ2 m2 H2 x v s2 R2 r q=>k B2 μ2 m2 H2 x v (s1.trans R1.mem s2 R.mem.le) R2 r q
theorem j7{ta tb:DTE}(hc:DT X E c tA)(ha:DE X E a ta)(hb:DE X E b tb):DE X E (.IfExp c a b pos) (rV tA ta tb):=by
 obtain ⟨t0,p0,k0⟩:=hc.ex
 obtain ⟨t1,p1,k1⟩:=ha.ex
 obtain ⟨t2,p2,k2⟩:=hb.ex
 refine ⟨_,pe_ifExp p0 p1 p2,fun B μ en m σ H Q Qx QV R hx T k=>?_⟩
 refine k0 B μ en m σ H _ Qx _ R hx T fun B1 μ1 m1 H1 b s1 R1 q=>?_
 cases b with
 | true=>exact iteT (k1.on R hx k s1 R1 q)
 | false=>exact iteF (k2.on R hx k s1 R1 q)
def Ci(ta tb:DTE):DTE:=fun en m Q Qx=>ta en m (fun x m1=>bD x fun c=>if c=true then tb en m1 Q Qx else Q (.v (.bl false)) m1) Qx
def Dl(ta tb:DTE):DTE:=fun en m Q Qx=>ta en m (fun x m1=>bD x fun c=>if c=true then Q (.v (.bl true)) m1 else tb en m1 Q Qx) Qx
def Cj(ta:DTE):DTE:=fun en m Q Qx=>ta en m (fun x m1=>bD x fun c=>Q (.v (.bl (!c))) m1) Qx
theorem iN{op}{t:DTE}(h:DE X E a t):DE X E (.BoolOp op [a] pos) t:=by
 obtain ⟨t1,p1,k1⟩:=h.ex
 exact ⟨_,pe_one p1,k1⟩
theorem jx{ta tb:DTE}(ha:DE X E a ta)(hb:DE X E (.BoolOp .And (b::rest) pos) tb):DE X E (.BoolOp .And (a::b::rest) pos) (Ci ta tb):=by
 obtain ⟨t1,p1,k1⟩:=ha.ex
 obtain ⟨t2,p2,k2⟩:=hb.ex
 refine ⟨_,pe_and p1 p2,fun B μ en m σ H Q Qx QV R hx T k=>?_⟩
 refine k1 B μ en m σ H _ Qx _ R hx T fun B1 μ1 m1 H1 x v s1 R1 r1 q=>?_
 obtain ⟨c,rfl,rfl,q⟩:=n8 r1 q
 refine ⟨c,rfl,?_⟩
 cases c with
 | true=>exact iteT (k2.on R hx k s1 R1 q)
 | false=>exact iteF (k B1 μ1 m1 H1 _ _ s1 R1 r1 q)
theorem Dm{ta tb:DTE}(ha:DE X E a ta)(hb:DE X E (.BoolOp .Or (b::rest) pos) tb):DE X E (.BoolOp .Or (a::b::rest) pos) (Dl ta tb):=by
 obtain ⟨t1,p1,k1⟩:=ha.ex
 obtain ⟨t2,p2,k2⟩:=hb.ex
 refine ⟨_,pe_or p1 p2,fun B μ en m σ H Q Qx QV R hx T k=>?_⟩
 refine k1 B μ en m σ H _ Qx _ R hx T fun B1 μ1 m1 H1 x v s1 R1 r1 q=>?_
 obtain ⟨c,rfl,rfl,q⟩:=n8 r1 q
 refine ⟨c,rfl,?_⟩
 cases c with
 | true=>exact iteT (k B1 μ1 m1 H1 _ _ s1 R1 r1 q)
 | false=>exact iteF (k2.on R hx k s1 R1 q)
theorem Ck{ta:DTE}(ha:DE X E a ta):DE X E (.UnaryOp .Not a pos) (Cj ta):=by
 obtain ⟨t1,p1,k1⟩:=ha.ex
 refine ⟨_,pe_not p1,fun B μ en m σ H Q Qx QV R hx T k=>?_⟩
 refine k1 B μ en m σ H _ Qx _ R hx T fun B1 μ1 m1 H1 x v s1 R1 r1 q=>?_
 obtain ⟨c,rfl,rfl,q⟩:=n8 r1 q
 exact ⟨c,rfl,k B1 μ1 m1 H1 (.v (.bl !c)) _ s1 R1 (.bl _) q⟩
end
def sNx:DTS:=fun en m N=>N.nx en m
def fv(t u:DTS):DTS:=fun en m N=>t en m { N with nx:=fun en1 m1=>u en1 m1 N }
theorem aD:DSs X E [] sNx:=⟨_,pss_nil,fun B μ en m σ H N D R hx T e=>e.nx B μ en m σ H .refl R T⟩
theorem af{st:Stmt}{t:DTS}(h:DS X E st t):DSs X E [st] t:=by
 obtain ⟨t1,p1,k1⟩:=h.ex
 exact ⟨_,pss_one p1,k1⟩
theorem SS.seq{t u:TS}{T U:DTS}(k1:SS X E t T)(k2:SS X E u U):SS X E (tSeq t u) (fv T U):=by
 intro B μ en m σ H N D R hx T e
 refine k1 B μ en m σ H { N with nx:=fun en1 m1=>U en1 m1 N } _ R hx T ⟨fun B1 μ1 en1 m1 σ1 H1 s1 R1 q=>?_,e.rt,e.bk,e.ct⟩
 exact k2 B1 μ1 en1 m1 σ1 H1 N D R1 (hx.step s1 R1.mem R.mem.le) q (e.step s1 R1.mem R.mem.le)
theorem ad{st:Stmt}{rest:List Stmt}{t u:DTS}(h:DS X E st t)(h2:DSs X E rest u):DSs X E (st::rest) (fv t u):=by
 obtain ⟨t1,p1,k1⟩:=h.ex
 obtain ⟨t2,p2,k2⟩:=h2.ex
 exact ⟨_,pss_cons p1 p2,k1.seq k2⟩
section
variable {pos:Pos} {e:Expr} {te:DTE}
def iO(te:DTE):DTS:=fun en m N=>te en m (fun _ m1=>N.nx en m1) N.xc
theorem cM(he:DE X E e te)(hs:swapsWith e none pos.line X.env=pure false:=by rfl):DS X E (.Expr e pos) (iO te):=by
 obtain ⟨t1,p1,k1⟩:=he.ex
 exact ⟨_,ps_expr p1 hs,fun B μ en m σ H N D R hx T e=>k1 B μ en m σ H _ _ _ R hx T fun B1 μ1 m1 H1 x v s1 R1 r q=>e.nx B1 μ1 en m1 σ H1 s1 R1 q⟩
def lY(te:DTE):DTS:=fun en m N=>te en m (fun x m1=>N.rt x m1) N.xc
theorem aq(he:DE X E e te):DS X E (.Return (some e) pos) (lY te):=by
 obtain ⟨t1,p1,k1⟩:=he.ex
 exact ⟨_,ps_ret p1,fun B μ en m σ H N D R hx T e=>k1 B μ en m σ H _ _ _ R hx T fun B1 μ1 m1 H1 x v s1 R1 r q=>e.rt B1 μ1 m1 H1 x v s1 R1.mem r q⟩
def sIf(c:DTT)(t u:DTS):DTS:=fun en m N=>c en m (fun b m1=>if b=true then t en m1 N else u en m1 N) N.xc
theorem SS.on{t:TS}{T:DTS}(h:SS X E t T){B B1:Hp}{μ μ1:List Addr}{en en1:En}{m m1:Me}{σ σ1:L2.St}{H H1:Hp}{N:Dn}{D:Ends}(R:Rel X.K B μ en m σ H)(hx:ExOf X.K E B μ m H N.xc)(e:EndsOf X.K B μ m H N D)
  (s1:Stp B μ m H B1 μ1 m1 H1) (R1:Rel X.K B1 μ1 en1 m1 σ1 H1) (q:T en1 m1 N):t D σ1 H1:=h B1 μ1 en1 m1 σ1 H1 N D R1 (hx.step s1 R1.mem R.mem.le) q (e.step s1 R1.mem R.mem.le)
theorem aW{c:Expr}{a b:List Stmt}{tc:DTT}{t u:DTS}(hc:DT X E c tc)(ha:DSs X E a t)(hb:DSs X E b u):DS X E (.If c a b pos) (sIf tc t u):=by
 obtain ⟨t0,p0,k0⟩:=hc.ex
 obtain ⟨t1,p1,k1⟩:=ha.ex
 obtain ⟨t2,p2,k2⟩:=hb.ex
 refine ⟨_,ps_if p0 p1 p2,fun B μ en m σ H N D R hx T e=>?_⟩
 refine k0 B μ en m σ H _ _ _ R hx T fun B1 μ1 m1 H1 b s1 R1 q=>?_
 cases b with
 | true=>exact iteT (k1.on R hx e s1 R1 q)
 | false=>exact iteF (k2.on R hx e s1 R1 q)
def Bb:DTS:=fun _ _ _=>False
theorem uY{st:List Stmt}:DSs X E st Bb:=⟨_,pss_never,fun B μ en m σ H N D R hx T e=>T⟩
def j8(i:Nat)(te:DTE):DTS:=fun en m N=>te en m (fun x m1=>N.nx (List.set en i (some x)) m1) N.xc
theorem Rel.set{K:Frag}{B:Hp}{μ:List Addr}{en:En}{m:Me}{σ:L2.St}{H:Hp}{i:Nat}{x:W}{v:V}(R:Rel K B μ en m σ H)(r:RW K B μ v x):Rel K B μ (List.set en i (some x)) m (σ.set i (some v)) H:=by
 refine ⟨R.mem,by simp [R.len],fun j y e=>?_⟩
 by_cases c:j=i
 ·subst c
  have l:j<en.length:=by
   have z:=(List.getElem?_eq_some_iff.mp e).1
   simpa using z
  rw [List.getElem?_set_self l] at e
  cases e
  exact ⟨v,List.getElem?_set_self (by rw [R.len]; exact l),r⟩
 ·rw [List.getElem?_set_ne (fun z=>c z.symm)] at e
  obtain ⟨u,h1,h2⟩:=R.env j y e
  exact ⟨u,by rw [List.getElem?_set_ne (fun z=>c z.symm)]; exact h1,h2⟩
theorem aC{i:Nat}{x:Str}{pos':Pos}(hN:X.N.Nodup)(hi:X.N[i]? =some x)(hx:Loc X.env.scope x)(he:DE X E e te)(hs:swapsWith e (some (.Name x pos')) pos.line X.env=pure false:=by rfl)(hf:X.fn x=true∨X.env.scope.names.lookup x=some .local:=by first | exact .inl rfl | exact .inr rfl | assumption):DS X E (.Assign [.Name x pos'] e pos) (j8 i te):=by
 obtain ⟨t1,p1,k1⟩:=he.ex
 exact ⟨_,ps_set hN hi hx p1 hs hf,fun B μ en m σ H N D R hx T e=>k1 B μ en m σ H _ _ _ R hx T fun B1 μ1 m1 H1 x v s1 R1 r q=>e.nx B1 μ1 _ m1 _ H1 s1 (R1.set r) q⟩
end
end
section
variable {X:Cx} {E:XK}
def lE(K:Frag)(E:XK)(T:DTE):TE:=fun σ H QV=>∃B μ en m Q Qx,Rel K B μ en m σ H∧ExOf K E B μ m H Qx∧T en m Q Qx∧
 (∀B' μ' m' H' x v,Stp B μ m H B' μ' m' H'→Rel K B' μ' en m' σ H'→RW K B' μ' v x→Q x m'→QV v H')
theorem SE.lE{T:DTE}:SE X E (lE X.K E T) T:=fun B μ en m σ H Q Qx _ R hx q k=>⟨B,μ,en,m,Q,Qx,R,hx,q,k⟩
theorem DE.pe{e:Expr}{T:DTE}(h:DE X E e T):PE X e (Fs.lE X.K E T):=by
 obtain ⟨t,p,k⟩:=h.ex
 exact wc p fun σ H Q ⟨B,μ,en,m,Q',Qx,R,hx,q,z⟩=>k B μ en m σ H Q' Qx Q R hx q z
def lT(K:Frag)(E:XK)(T:DTT):TT:=fun σ H QV=>∃B μ en m Q Qx,Rel K B μ en m σ H∧ExOf K E B μ m H Qx∧T en m Q Qx∧
 (∀B' μ' m' H' b,Stp B μ m H B' μ' m' H'→Rel K B' μ' en m' σ H'→Q b m'→QV b H')
theorem DT.pt{e:Expr}{T:DTT}(h:DT X E e T):PT X e (lT X.K E T):=by
 obtain ⟨t,p,k⟩:=h.ex
 exact ⟨fun pins s σ H Q I ⟨B,μ,en,m,Q',Qx,R,hx,q,z⟩=>p.run pins s σ H Q I (k B μ en m σ H Q' Qx Q R hx q z)⟩
theorem ST.lT{T:DTT}:ST X E (lT X.K E T) T:=fun B μ en m σ H Q Qx _ R hx q k=>⟨B,μ,en,m,Q,Qx,R,hx,q,k⟩
theorem PE.or{e:Expr}{t u:TE}(h:PE X e t)(k:PE X e u):PE X e (fun σ H Q=>t σ H Q∨u σ H Q):=
 ⟨fun pins s σ H Q I q=>q.elim (h.run pins s σ H Q I) (k.run pins s σ H Q I)⟩
theorem PI.or{tg e:Expr}{t u:TI}(h:PI X tg e t)(k:PI X tg e u):PI X tg e (fun σ H Q=>t σ H Q∨u σ H Q):=
 ⟨fun pins s σ H Q I q=>q.elim (h.run pins s σ H Q I) (k.run pins s σ H Q I)⟩
abbrev DTG:=W→En→Me→(En→Me→Prop)→Prop
abbrev oM:=List W→En→Me→(En→Me→Prop)→Prop
inductive Sts (is:List Nat):L2.St→L2.St→Prop
 | refl (σ:L2.St):Sts is σ σ
 | set {σ σ':L2.St} {i:Nat} {v:V}:i∈is→Sts is (σ.set i (some v)) σ'→Sts is σ σ'
theorem Sts.trans{is:List Nat}{a b c:L2.St}(h:Sts is a b)(k:Sts is b c):Sts is a c:=by
 induction h with
 | refl=>exact k
 | set hi _ ih=>exact .set hi (ih k)
theorem Sts.mono{is js:List Nat}{a b:L2.St}(h:Sts is a b)(k:∀i∈is,i∈js):Sts js a b:=by
 induction h with
 | refl=>exact .refl _
 | set hi _ ih=>exact .set (k _ hi) ih
structure DG (X:Cx) (tg:Expr) (is:List Nat) (T:DTG):Prop where
 ex:∃t,PG X tg t∧∀B μ en m σ H x v (Q:En→Me→Prop) (QV:L2.St→Hp→Prop),Rel X.K B μ en m σ H→RW X.K B μ v x→T x en m Q→
  (∀B' μ' en' m' σ' H',Stp B μ m H B' μ' m' H'→Rel X.K B' μ' en' m' σ' H'→Sts is σ σ'→Q en' m'→QV σ' H')→t v σ H QV
structure DGs (X:Cx) (tg:List Expr) (is:List Nat) (T:oM):Prop where
 ex:∃t,PGs X tg t∧∀B μ en m σ H x v (Q:En→Me→Prop) (QV:L2.St→Hp→Prop),Rel X.K B μ en m σ H→RWs X.K B μ v x→T x en m Q→
  (∀B' μ' en' m' σ' H',Stp B μ m H B' μ' m' H'→Rel X.K B' μ' en' m' σ' H'→Sts is σ σ'→Q en' m'→QV σ' H')→t v σ H QV
def lG(K:Frag)(is:List Nat)(T:DTG):TG:=fun v σ H QV=>∃B μ en m x Q,Rel K B μ en m σ H∧RW K B μ v x∧T x en m Q∧(∀B' μ' en' m' σ' H',Stp B μ m H B' μ' m' H'→Rel K B' μ' en' m' σ' H'→Sts is σ σ'→Q en' m'→QV σ' H')
theorem DG.pg{tg:Expr}{is:List Nat}{T:DTG}(h:DG X tg is T):PG X tg (lG X.K is T):=by
 obtain ⟨t,p,k⟩:=h.ex
 exact ⟨fun pins s σ H v u Q I r ⟨B,μ,en,m,x,Q',R,rw,q,z⟩=>p.run pins s σ H v u Q I r (k B μ en m σ H x v Q' Q R rw q z)⟩
def gN(i:Nat):DTG:=fun x en m Q=>Q (List.set en i (some x)) m
theorem az{i:Nat}{x:Str}{pos:Pos}(hN:X.N.Nodup)(hi:X.N[i]? =some x)(hx:Loc X.env.scope x)(hf:X.fn x=true∨X.env.scope.names.lookup x=some .local:=by first | exact .inl rfl | exact .inr rfl | assumption):DG X (.Name x pos) [i] (gN i):=
 ⟨_,pg_name hN hi hx hf,fun B μ en m σ H x v Q QV R r T k=>k B μ _ m _ H .refl (R.set r) (.set List.mem_cons_self (.refl _)) T⟩
def gNl:oM:=fun xs en m Q=>match xs with
 | []=>Q en m
 | _=>False
def gCn(t:DTG)(u:oM):oM:=fun xs en m Q=>match xs with
 | x::r=>t x en m fun en1 m1=>u r en1 m1 Q
 | _=>False
theorem eR:DGs X [] [] gNl:=by
 refine ⟨_,pgs_nil,fun B μ en m σ H xs v Q QV R r T k=>?_⟩
 cases r with
 | nil=>exact ⟨rfl,k B μ en m σ H .refl R (.refl _) T⟩
 | cons a b=>exact T.elim
theorem aS{e:Expr}{es:List Expr}{is js:List Nat}{t:DTG}{u:oM}(h1:DG X e is t)(h2:DGs X es js u)(hs:(assignEach (e::es) X.env).map (·.2)=assign e X.env::(assignEach es X.env).map (·.2):=by rfl):DGs X (e::es) (is++js) (gCn t u):=by
 obtain ⟨t1,p1,k1⟩:=h1.ex
 obtain ⟨t2,p2,k2⟩:=h2.ex
 refine ⟨_,pgs_cons p1 p2 hs,fun B μ en m σ H xs v Q QV R r T k=>?_⟩
 cases r with
 | nil=>exact T.elim
 | cons a b=>
  refine ⟨_,_,rfl,k1 B μ en m σ H _ _ _ _ R a T fun B1 μ1 en1 m1 σ1 H1 s1 R1 z1 q=>?_⟩
  refine k2 B1 μ1 en1 m1 σ1 H1 _ _ _ _ R1 (b.to s1.same s1.pre) q fun B2 μ2 en2 m2 σ2 H2 s2 R2 z2 q2=>?_
  exact k B2 μ2 en2 m2 σ2 H2 (s1.trans R1.mem s2 R.mem.le) R2 ((z1.mono fun i h=>List.mem_append_left _ h).trans (z2.mono fun i h=>List.mem_append_right _ h)) q2
def gTp(n:Nat)(t:oM):DTG:=fun x en m Q=>match x with
 | .v (.tup ds)=>ds.length=n∧t (ds.map .v) en m Q
 | _=>False
theorem RvL.ws{K:Frag}{B:Hp}{μ:List Addr}:∀{vs:List V} {ds:List D},RvL K B vs ds→RWs K B μ vs (ds.map .v)
 | _,_,.nil=>.nil
 | _,_,.cons h t=>.cons (RW.d h) (RvL.ws t)
theorem j9{es:List Expr}{k:Nat}{t:oM}{n:Nat}{is:List Nat}{pos:Pos}(hc:X.calm=true)(h:DGs X es is t)(hn:(assignEach es X.env).length=n:=by rfl)(hst:(assignEach es X.env).findIdx? (·.1)=none:=by rfl):DG X (.Tuple es k pos) is (gTp n t):=by
 obtain ⟨t1,p1,k1⟩:=h.ex
 refine ⟨_,pg_tup hc p1 hn hst,fun B μ en m σ H x v Q QV R r T k=>?_⟩
 unfold gTp at T
 split at T
 ·rename_i ds
  obtain ⟨hl,T⟩:=T
  cases r with
  | tup hs hr=>exact ⟨_,_,rfl,R.mem.le.tup hs,by rw [hr.len]; exact hl,k1 B μ en m σ H _ _ _ _ R hr.ws T k⟩
 ·exact T.elim
def Do(te:DTE)(g:DTG):DTS:=fun en m N=>te en m (fun x m1=>g x en m1 N.nx) N.xc
theorem lZ{tg e:Expr}{te:DTE}{g:DTG}{is:List Nat}{pos:Pos}(he:DE X E e te)(hg:DG X tg is g)(hs:swapsWithSole [tg] e pos.line X.env=pure false:=by rfl)(hw:swappedStores [tg] e X.env=pure none:=by rfl)
  (h1:(assignEach [tg] X.env).map (·.2)=[assign tg X.env]:=by rfl):DS X E (.Assign [tg] e pos) (Do te g):=by
 obtain ⟨t1,p1,k1⟩:=he.ex
 obtain ⟨t2,p2,k2⟩:=hg.ex
 refine ⟨_,ps_asg p1 p2 hs hw h1,fun B μ en m σ H N D R hx T e=>?_⟩
 refine k1 B μ en m σ H _ _ _ R hx T fun B1 μ1 m1 H1 x v s1 R1 r q=>?_
 refine k2 B1 μ1 en m1 σ H1 x v _ _ R1 r q fun B2 μ2 en2 m2 σ2 H2 s2 R2 _ q2=>?_
 exact e.nx B2 μ2 en2 m2 σ2 H2 (s1.trans R1.mem s2 R.mem.le) R2 q2
def Dq(i j:Nat)(ta:DTA):DTS:=fun en m N=>ta en m (fun xs m1=>match xs with
 | [x,y]=>N.nx (List.set (List.set en i (some x)) j (some y)) m1
 | _=>False) N.xc
theorem ka{i j:Nat}{x y:Str}{a b:Expr}{ta:DTA}{px py pt pos:Pos}{kt k2 pt2}(hc:X.calm=true)(hN:X.N.Nodup)(hi:X.N[i]? =some x)(hj:X.N[j]? =some y)(hij:i≠j)
  (hx:X.env.scope.names.lookup x=some .local) (hy:X.env.scope.names.lookup y=some .local) (ha:DA X E [a,b] ta)
  (hw:swappedStores [.Tuple [.Name x px,.Name y py] kt pt] (.Tuple [a,b] k2 pt2) X.env=pure (some [x,y]))
  (hs:swapsWithSole [.Tuple [.Name x px,.Name y py] kt pt] (.Tuple [a,b] k2 pt2) pos.line X.env=pure false:=by rfl):
  DS X E (.Assign [.Tuple [.Name x px,.Name y py] kt pt] (.Tuple [a,b] k2 pt2) pos) (Dq i j ta):=by
 obtain ⟨t1,p1,k1⟩:=ha.ex
 refine ⟨_,ps_par hc hN hi hj hij hx hy p1 hw hs,fun B μ en m σ H N D R hx T e=>?_⟩
 refine k1 B μ en m σ H _ _ _ R hx T fun B1 μ1 m1 H1 xs vs s1 R1 r q=>?_
 cases r with
 | nil=>exact q.elim
 | cons a r=>
  cases r with
  | nil=>exact q.elim
  | cons b r=>
   cases r with
   | nil=>exact ⟨_,_,rfl,e.nx B1 μ1 _ m1 _ H1 s1 ((R1.set a).set b) q⟩
   | cons _ _=>exact q.elim
def iP(K:Frag)(B0:Hp)(J:It)(its:List D):Prop:=∃G Y,Walk J its.length G Y∧(∀B μ mem H,Same B0 B→MemOk K B μ mem H→G H)∧
 ∀i B μ mem H x H',i<its.length→Same B0 B→MemOk K B μ mem H→Y i H x H'→∃B' d,its[i]? =some d∧Stp B μ mem H B' μ mem H'∧MemOk K B' μ mem H'∧Rv K B' x d
abbrev DTI:=En→Me→(List D→Me→Prop)→QX→Prop
structure DI (X:Cx) (E:XK) (tg e:Expr) (T:DTI):Prop where
 ex:∃t,PI X tg e t∧∀B μ en m σ H (Q:List D→Me→Prop) (Qx:QX) (QV:It→Hp→Prop),Rel X.K B μ en m σ H→ExOf X.K E B μ m H Qx→T en m Q Qx→
  (∀B' μ' m' H' its J,Stp B μ m H B' μ' m' H'→Rel X.K B' μ' en m' σ H'→iP X.K B' J its→Q its m'→QV J H')→t σ H QV
def bY(g:DTG)(tb:DTS):List D→DTS
 | []=>fun en m N=>N.nx en m
 | d::ds=>fun en m N=>g (.v d) en m fun en1 m1=>tb en1 m1 { N with nx:=fun en2 m2=>bY g tb ds en2 m2 N,ct:=fun en2 m2=>bY g tb ds en2 m2 N,bk:=N.nx }
def y0(ti:DTI)(g:DTG)(tb:DTS):DTS:=fun en m N=>ti en m (fun its m1=>bY g tb its en m1 N) N.xc
theorem i9{tg iter:Expr}{body:List Stmt}{ti:DTI}{g:DTG}{is:List Nat}{tb:DTS}{pos:Pos}(hp:PassesOwn (model X.prog X.w) X.A X.env X.xe)(hc:X.calm=true)(hi:DI X E tg iter ti)(hg:DG X tg is g)(hb:DSs X E body tb)
  (hs:∀x,foldedSetIterable iter X.env x=pure x:=by intro _; rfl):DS X E (.For tg iter body [] pos) (y0 ti g tb):=by
 obtain ⟨t0,p0,k0⟩:=hi.ex
 obtain ⟨t1,p1,k1⟩:=hg.ex
 obtain ⟨t2,p2,k2⟩:=hb.ex
 refine ⟨_,ps_for hp hc p0 p1 p2 hs,fun B μ en m σ H N D R hx T e=>?_⟩
 refine k0 B μ en m σ H _ _ _ R hx T fun B1 μ1 m1 H1 its J s1 R1 ⟨G,Y,w,hG,hY⟩ q=>?_
 refine for_it w (fun i σ' H'=>∃B' μ' en' m',Stp B1 μ1 m1 H1 B' μ' m' H'∧Rel X.K B' μ' en' m' σ' H'∧bY g tb (its.drop i) en' m' N) ⟨B1,μ1,en,m1,.refl,R1,q⟩ (fun i σ' H' _ ⟨B',μ',en',m',s',R',_⟩=>hG B' μ' m' H' s'.same R'.mem) (fun i x σ' H2 H3 hi ⟨B',μ',en',m',s',R',q'⟩ y=>?_) (fun σ' H' ⟨B',μ',en',m',s',R',q'⟩=>?_)
 ·obtain ⟨B3,d,hd,s3,m3,rd⟩:=hY i B' μ' m' H2 x H3 hi s'.same R'.mem y
  have s13:=s'.trans R'.mem s3 R1.mem.le
  have R3:=R'.stp s3 m3
  rw [List.drop_eq_getElem_cons hi] at q'
  have ed:its[i]=d:=by
   rw [List.getElem?_eq_getElem hi] at hd
   exact Option.some.inj hd
  rw [ed] at q'
  refine k1 B3 μ' en' m' σ' H3 (.v d) x _ _ R3 rd q' fun B4 μ4 en4 m4 σ4 H4 s4 R4 _ q4=>?_
  have s14:=s13.trans R3.mem s4 R1.mem.le
  have st:=s1.trans R1.mem s14 R.mem.le
  refine k2 B4 μ4 en4 m4 σ4 H4 { N with nx:=fun en2 m2=>bY g tb (its.drop (i+1)) en2 m2 N,ct:=fun en2 m2=>bY g tb (its.drop (i+1)) en2 m2 N,bk:=N.nx } _ R4 (hx.step st R4.mem R.mem.le) q4 ⟨?_,e.rt.step st R4.mem R.mem.le,e.nx.step st R4.mem R.mem.le,?_⟩
  ·exact fun B5 μ5 en5 m5 σ5 H5 s5 R5 q5=>⟨B5,μ5,en5,m5,s14.trans R4.mem s5 R1.mem.le,R5,q5⟩
  ·exact fun B5 μ5 en5 m5 σ5 H5 s5 R5 q5=>⟨B5,μ5,en5,m5,s14.trans R4.mem s5 R1.mem.le,R5,q5⟩
 ·rw [List.drop_length] at q'
  exact e.nx B' μ' en' m' σ' H' (s1.trans R1.mem s' R.mem.le) R' q'
def whN(c:DTT)(tb:DTS):Nat→DTS
 | 0=>fun _ _ _=>False
 | n+1=>fun en m N=>c en m (fun b m1=>if b=true then tb en m1 { N with nx:=fun en2 m2=>whN c tb n en2 m2 N,ct:=fun en2 m2=>whN c tb n en2 m2 N,bk:=N.nx } else N.nx en m1) N.xc
def sWh(c:DTT)(tb:DTS):DTS:=fun en m N=>∃n,whN c tb n en m N
theorem gS{c:Expr}{body:List Stmt}{tc:DTT}{tb:DTS}{pos:Pos}(hp:PassesOwn (model X.prog X.w) X.A X.env X.xe)(hc:DT X E c tc)(hb:DSs X E body tb):DS X E (.While c body [] pos) (sWh tc tb):=by
 obtain ⟨t1,p1,k1⟩:=hc.ex
 obtain ⟨t2,p2,k2⟩:=hb.ex
 refine ⟨_,ps_while hp p1 p2,fun B μ en m σ H N D R hx T e=>?_⟩
 obtain ⟨n,T⟩:=T
 refine ⟨fun n σ' H'=>∃B' μ' en' m',Stp B μ m H B' μ' m' H'∧Rel X.K B' μ' en' m' σ' H'∧whN tc tb n en' m' N,⟨n,B,μ,en,m,.refl,R,T⟩,?_⟩
 rintro n σ' H' ⟨B',μ',en',m',s',R',q'⟩
 cases n with
 | zero=>exact q'.elim
 | succ n=>
  refine k1 B' μ' en' m' σ' H' _ _ _ R' (hx.step s' R'.mem R.mem.le) q' fun B1 μ1 m1 H1 b s1 R1 q=>?_
  have st:=s'.trans R'.mem s1 R.mem.le
  cases b with
  | false=>exact iteF (e.nx B1 μ1 en' m1 σ' H1 st R1 q)
  | true=>
   refine iteT ⟨fun σ2 H2=>∃B2 μ2 en2 m2,Stp B μ m H B2 μ2 m2 H2∧Rel X.K B2 μ2 en2 m2 σ2 H2∧whN tc tb n en2 m2 N,fun σ2 H2 h=>⟨n,Nat.lt_succ_self n,h⟩,?_⟩
   refine k2 B1 μ1 en' m1 σ' H1 { N with nx:=fun en2 m2=>whN tc tb n en2 m2 N,ct:=fun en2 m2=>whN tc tb n en2 m2 N,bk:=N.nx } _ R1 (hx.step st R1.mem R.mem.le) q ⟨?_,e.rt.step st R1.mem R.mem.le,e.nx.step st R1.mem R.mem.le,?_⟩
   ·exact fun B5 μ5 en5 m5 σ5 H5 s5 R5 q5=>⟨B5,μ5,en5,m5,st.trans R1.mem s5 R.mem.le,R5,q5⟩
   ·exact fun B5 μ5 en5 m5 σ5 H5 s5 R5 q5=>⟨B5,μ5,en5,m5,st.trans R1.mem s5 R.mem.le,R5,q5⟩
end
def oD:W→(D→Prop)→Prop
 | .v d,Q=>Q d
 | .loc _,_=>False
def oDs:List W→(List D→Prop)→Prop
 | [],Q=>Q []
 | .v d::r,Q=>oDs r fun ds=>Q (d::ds)
 | .loc _::_,_=>False
theorem l7{K:Frag}{B:Hp}{μ:List Addr}:∀{xs:List W} {vs:List V} {Q:List D→Prop},RWs K B μ vs xs→oDs xs Q→∃ds,RvL K B vs ds∧Q ds
 | [],_,_,.nil,q=>⟨[],.nil,q⟩
 | .v d::r,_,Q,.cons a t,q=>by
  obtain ⟨ds,h,k⟩:=l7 (Q:=fun ds=>Q (d::ds)) t q
  exact ⟨d::ds,.cons a h,k⟩
 | .loc _::_,_,_,_,q=>q.elim
theorem MemOk.touch{K:Frag}{B:Hp}{μ:List Addr}{m:Me}{H H':Hp}{p:Addr}(h:MemOk K B μ m H)(nb:B p=none)(nl:¬Live μ m p)(k:∀b o,b≠p→H b=some o→H' b=some o):MemOk K B μ m H':=by
 refine ⟨fun a o e=>k a o (fun z=>by subst z; rw [nb] at e; cases e) (h.le a o e),h.len,h.off,fun n a x e1 e2 e3=>?_,h.inj,h.ntb⟩
 have c:a≠p:=fun z=>by
  subst z
  exact nl ⟨n,x,e1,e2,e3⟩
 exact OO.to (Same.refl _) (List.prefix_refl _) (fun o z=>k a o c z) (h.at_ n a x e1 e2 e3)
theorem Stp.touch{B B':Hp}{μ μ':List Addr}{m m':Me}{H H' H'':Hp}{p:Addr}(h:Stp B μ m H B' μ' m' H')(np:H p=none)(k:∀b o,b≠p→H' b=some o→H'' b=some o):Stp B μ m H B' μ' m' H'':=
 ⟨h.same,h.pre,fun a o n e t=>k a o (ne_of_none e np) (h.out a o n e t),h.hid⟩
theorem MemOk.none{K:Frag}{B:Hp}{μ:List Addr}{m:Me}{H:Hp}(h:MemOk K B μ m H){p:Addr}(np:H p=none):B p=none∧¬Live μ m p:=by
 refine ⟨?_,fun l=>h.there l np⟩
 cases e:B p with
 | none=>rfl
 | some u=>exact absurd np (h.le.some e)
def gt(en:En):List Nat→En
 | []=>en
 | v::vs=>(gt en vs).set v none
theorem n9(en:En):∀vs,(gt en vs).length=en.length
 | []=>rfl
 | v::vs=>by unfold gt; rw [List.length_set,n9 en vs]
theorem qi(en:En)(σ:L2.St)(K:Frag)(B:Hp)(μ:List Addr)(h:∀(i:Nat) (x:W),en[i]? =some (some x)→∃v,σ[i]? =some (some v)∧RW K B μ v x):∀vs (i:Nat) (x:W),(gt en vs)[i]? =some (some x)→∃v,(wipe σ vs)[i]? =some (some v)∧RW K B μ v x
 | [],i,x,e=>h i x e
 | v::vs,i,x,e=>by
  unfold gt at e
  unfold wipe
  by_cases c:v=i
  ·subst c
   have l:v<(gt en vs).length:=by
    have z:=(List.getElem?_eq_some_iff.mp e).1
    simpa using z
   rw [List.getElem?_set_self l] at e
   cases e
  ·rw [List.getElem?_set_ne c] at e ⊢
   exact qi en σ K B μ h vs i x e
theorem Rel.wipe{K:Frag}{B:Hp}{μ:List Addr}{en:En}{m:Me}{σ:L2.St}{H:Hp}(R:Rel K B μ en m σ H)(vs:List Nat):Rel K B μ (gt en vs) m (L2.wipe σ vs) H:=
 ⟨R.mem,by rw [wipe_length,n9,R.len],qi en σ K B μ R.env vs⟩
theorem jy{σ:L2.St}{i:Nat}{x:V}:∀{vs:List Nat},i∈vs→wipe (σ.set i (some x)) vs=wipe σ vs
 | v::vs,h=>by
  unfold wipe
  by_cases c:i∈vs
  ·rw [jy c]
  ·have e:i=v:=(List.mem_cons.mp h).resolve_right c
   subst e
   rw [wipe_set_out c,List.set_set]
where
 wipe_set_out {σ:L2.St} {i:Nat} {x:V}:∀{vs:List Nat},i∉vs→wipe (σ.set i (some x)) vs=(wipe σ vs).set i (some x)
  | [],_=>rfl
  | v::vs,h=>by
   unfold wipe
   rw [wipe_set_out (fun z=>h (List.mem_cons_of_mem _ z))]
   exact List.set_comm _ _ (fun z=>h (by rw [z]; exact List.mem_cons_self))
theorem Sts.wipe{is vs:List Nat}{a b:L2.St}(h:Sts is a b)(k:∀i∈is,i∈vs):L2.wipe b vs=L2.wipe a vs:=by
 induction h with
 | refl=>rfl
 | set hi _ ih=>rw [ih,jy (k _ hi)]
theorem iQ{σ:L2.St}{i:Nat}:∀{vs:List Nat},wipe (σ.set i none) vs=(wipe σ vs).set i none
 | []=>rfl
 | v::vs=>by
  unfold wipe
  rw [iQ]
  by_cases c:i=v
  ·subst c
   rfl
  ·exact List.set_comm _ _ c
theorem iv(σ:L2.St):∀vs:List Nat,wipe (wipe σ vs) vs=wipe σ vs
 | []=>rfl
 | v::vs=>by
  show (wipe ((wipe σ vs).set v none) vs).set v none=(wipe σ vs).set v none
  rw [iQ,iv σ vs,List.set_set]
structure DTs (X:Cx) (E:XK) (es:List Expr) (T:DTT):Prop where
 ex:∃t,PTs X es t∧ST X E t T
def tYs:DTT:=fun _ m Q _=>Q true m
section
variable {X:Cx} {E:XK}
theorem cN:DTs X E [] tYs:=⟨_,pts_nil,fun B μ en m σ H Q Qx QV R hx T k=>k B μ m H true .refl R T⟩
theorem DTs.pts{es:List Expr}{T:DTT}(h:DTs X E es T):PTs X es (lT X.K E T):=by
 obtain ⟨t,p,k⟩:=h.ex
 exact ⟨fun pins s σ H Q I ⟨B,μ,en,m,Q',Qx,R,hx,q,z⟩=>p.run pins s σ H Q I (k B μ en m σ H Q' Qx Q R hx q z)⟩
def noX:QX:=fun _ _=>False
theorem ExOf.no{K:Frag}{E:XK}{B:Hp}{μ:List Addr}{m:Me}{H:Hp}:ExOf K E B μ m H noX:=fun _ _ _ _ _ _ _ _ _ _ _ q=>q.elim
def lcL(g:DTG)(tt:DTT)(te:DTE)(en:En):List D→List D→Me→(W→Me→Prop)→Prop
 | [],acc,m,Q=>Q (.v (.lst acc)) m
 | d::ds,acc,m,Q=>g (.v d) en m fun en1 m1=>tt en1 m1 (fun b m2=>if b=true then te en1 m2 (fun y m3=>oD y fun dy=>acc.length<sizeLine∧lcL g tt te en ds (acc++[dy]) m3 Q) noX else lcL g tt te en ds acc m2 Q) noX
def Bc(ti:DTI)(g:DTG)(tt:DTT)(te:DTE)(vs:List Nat):DTE:=fun en m Q Qx=>ti en m (fun its m1=>lcL g tt te (gt en vs) its [] m1 Q) Qx
theorem qj{elt tg iter:Expr}{ifs:List Expr}{scope:Scope}{own:List (Str×Nat)}{is:List Nat}{pos:Pos}{ti:DTI}{g:DTG}{tt:DTT}{te:DTE}(hc:X.calm=true)(hN:X.N.Nodup)(hi:DI X E tg iter ti)(ok:BlkOk X.N X.env.scope scope own)
  (hg:∀(s:Shared) (H:Hp) (C:Addr) (cl:List (Str×Addr)) (fp:List Addr),DG (X.blk s H scope (compEnvC scope cl C X.env) fp) tg is g) (ht:∀(s:Shared) (H:Hp) (C:Addr) (cl:List (Str×Addr)) (fp:List Addr),DTs (X.blk s H scope (compEnvC scope cl C X.env) fp) E0 ifs tt)
  (he:∀(s:Shared) (H:Hp) (C:Addr) (cl:List (Str×Addr)) (fp:List Addr),DE (X.blk s H scope (compEnvC scope cl C X.env) fp) E0 elt te) (hs:∀x,foldedSetIterable iter X.env x=pure x:=by intro _; rfl) (hv:is.all (fun i=>(own.map (·.2)).contains i)=true:=by rfl):
  DE X E (.ListComp elt [⟨tg,iter,ifs,0⟩] scope pos) (Bc ti g tt te (own.map (·.2))):=by
 obtain ⟨t0,p0,k0⟩:=hi.ex
 have hv':∀i∈is,i∈own.map (·.2):=fun i h=>List.contains_iff_mem.mp (List.all_eq_true.mp hv i h)
 refine ⟨_,pe_lc hc hN p0 ok (g:=lG X.K is g) (tt:=lT X.K E0 tt) (te:=lE X.K E0 te) (fun s H C cl fp=>(hg s H C cl fp).pg) (fun s H C cl fp=>(ht s H C cl fp).pts) (fun s H C cl fp=>(he s H C cl fp).pe) hs,fun B μ en m σ H Q Qx QV R hx T k=>?_⟩
 refine k0 B μ en m σ H _ Qx _ R hx T fun B1 μ1 m1 H1 its J s1 R1 ⟨G,Y,w,hG,hY⟩ q=>?_
 intro L nL
 obtain ⟨nb1,nl1⟩:=R1.mem.none nL
 have Rw:=R1.wipe (own.map (·.2))
 generalize hen:gt en (own.map (·.2))=enw at q Rw
 refine lc_it w (fun i H'=>∃B' μ' m' vs acc,Stp B1 μ1 m1 H1 B' μ' m' H'∧MemOk X.K B' μ' m' H'∧B' L=none∧¬Live μ' m' L∧H' L=some (.lst vs)∧RvL X.K B' vs acc∧lcL g tt te enw (its.drop i) acc m' Q) ?_ (fun i H' _ ⟨B',μ',m',vs,acc,s',M',_⟩=>hG B' μ' m' H' s'.same M') (fun i x H2 H3 hi ⟨B',μ',m',vs,acc,s',M',nb,nl,hL,rv,q'⟩ y=>?_) (fun H' ⟨B',μ',m',vs,acc,s',M',nb,nl,hL,rv,q'⟩=>?_)
 ·have kp:∀b o,b≠L→H1 b=some o→upd H1 L (.lst []) b=some o:=fun b o c e=>by rw [upd_ne c]; exact e
  exact ⟨B1,μ1,m1,[],[],Stp.refl.touch nL kp,R1.mem.touch nb1 nl1 kp,nb1,nl1,upd_same,.nil,q⟩
 ·obtain ⟨B3,d,hd,s3,m3,rd⟩:=hY i B' μ' m' H2 x H3 hi s'.same M' y
  have s13:=s'.trans M' s3 R1.mem.le
  obtain ⟨nb3,nl3⟩:=s3.hid L _ nl hL ⟨(fun _ z=>nomatch z),(fun _ z=>nomatch z)⟩ nb
  have hL3:=s3.out L _ nl hL (fun _ z=>nomatch z)
  have R3:Rel X.K B3 μ' enw m' (L2.wipe σ (own.map (·.2))) H3:=Rw.stp s13 m3
  rw [List.drop_eq_getElem_cons hi] at q'
  have ed:its[i]=d:=by
   rw [List.getElem?_eq_getElem hi] at hd
   exact Option.some.inj hd
  rw [ed] at q'
  refine ⟨B3,μ',enw,m',.v d,_,R3,rd,q',fun B4 μ4 en4 m4 σ4 H4 s4 R4 st4 q4=>⟨by rw [st4.wipe hv',iv],?_⟩⟩
  have s14:=s13.trans m3 s4 R1.mem.le
  obtain ⟨nb4,nl4⟩:=s4.hid L _ nl3 hL3 ⟨(fun _ z=>nomatch z),(fun _ z=>nomatch z)⟩ nb3
  have hL4:=s4.out L _ nl3 hL3 (fun _ z=>nomatch z)
  refine ⟨B4,μ4,en4,m4,_,noX,R4,ExOf.no,q4,fun B5 μ5 m5 H5 b s5 R5 q5=>?_⟩
  have s15:=s14.trans R4.mem s5 R1.mem.le
  obtain ⟨nb5,nl5⟩:=s5.hid L _ nl4 hL4 ⟨(fun _ z=>nomatch z),(fun _ z=>nomatch z)⟩ nb4
  have hL5:=s5.out L _ nl4 hL4 (fun _ z=>nomatch z)
  have rv5:=rv.to ((s3.same.trans s4.same).trans s5.same)
  cases b with
  | false=>exact iteF ⟨B5,μ5,m5,vs,acc,s15,R5.mem,nb5,nl5,hL5,rv5,q5⟩
  | true=>
   refine iteT ⟨B5,μ5,en4,m5,_,noX,R5,ExOf.no,q5,fun B6 μ6 m6 H6 y v s6 R6 r6 q6=>?_⟩
   cases y with
   | loc n=>exact q6.elim
   | v dy=>
    obtain ⟨lz,q6⟩:=q6
    have s16:=s15.trans R5.mem s6 R1.mem.le
    obtain ⟨nb6,nl6⟩:=s6.hid L _ nl5 hL5 ⟨(fun _ z=>nomatch z),(fun _ z=>nomatch z)⟩ nb5
    have hL6:=s6.out L _ nl5 hL5 (fun _ z=>nomatch z)
    have rv6:=rv5.to s6.same
    have kp:∀b o,b≠L→H6 b=some o→upd H6 L (.lst (vs++[v])) b=some o:=fun b o c e=>by rw [upd_ne c]; exact e
    exact ⟨vs,hL6,by rw [rv6.len]; exact lz,B6,μ6,m6,vs++[v],acc++[dy],s16.touch nL kp,R6.mem.touch nb6 nl6 kp,nb6,nl6,upd_same,rv6.append (.one r6),q6⟩
 ·rw [List.drop_length] at q'
  -- the new list becomes a datum
  have kp:∀b o,b≠L→H' b=some o→H' b=some o:=fun _ _ _ e=>e
  have same:Same B' (upd B' L (.lst vs)):=aJ nb _
  have M2:MemOk X.K (upd B' L (.lst vs)) μ' m' H':=by
   refine ⟨fun a o e=>?_,M'.len,fun a l=>?_,fun n a x e1 e2 e3=>OO.to same (List.prefix_refl _) (fun _ z=>z) (M'.at_ n a x e1 e2 e3),M'.inj,fun a ps e=>by
    by_cases c:a=L
    ·subst c
     rw [upd_same] at e
     cases e
    ·rw [upd_ne c] at e
     exact M'.ntb a ps e⟩
   ·by_cases c:a=L
    ·subst c
     rw [upd_same] at e
     cases e
     exact hL
    ·rw [upd_ne c] at e
     exact M'.le a o e
   ·have c:a≠L:=fun z=>by
     subst z
     exact nl l
    rw [upd_ne c]
    exact M'.off a l
  have st:Stp B1 μ1 m1 H1 (upd B' L (.lst vs)) μ' m' H':=⟨s'.same.trans same,s'.pre,s'.out,fun a o n e x b=>by
   obtain ⟨h1,h2⟩:=s'.hid a o n e x b
   refine ⟨?_,h2⟩
   rw [upd_ne (ne_of_none e nL)]
   exact h1⟩
  have stt:=s1.trans R1.mem st R.mem.le
  exact k _ μ' m' H' _ _ stt (R.stp stt M2) (RW.d (.lst upd_same (rv.to same))) q'
end
section
variable {X:Cx} {E:XK} {es:List Expr} {ta:DTA} {pos:Pos}
def tTu(ta:DTA):DTE:=fun en m Q Qx=>ta en m (fun xs m1=>oDs xs fun ds=>ds.length≤sizeLine∧Q (.v (.tup ds)) m1) Qx
def tLs(ta:DTA):DTE:=fun en m Q Qx=>ta en m (fun xs m1=>oDs xs fun ds=>ds.length≤sizeLine∧Q (.v (.lst ds)) m1) Qx
theorem bQ{x1:Nat}(h:DA X E es ta):DE X E (.Tuple es x1 pos) (tTu ta):=by
 obtain ⟨t1,p1,k1⟩:=h.ex
 refine ⟨_,pe_tup p1,fun B μ en m σ H Q Qx QV R hx T k=>?_⟩
 refine k1 B μ en m σ H _ Qx _ R hx T fun B1 μ1 m1 H1 xs vs s1 R1 r q=>?_
 obtain ⟨ds,rl,hz,q⟩:=l7 r q
 refine ⟨by rw [rl.len]; exact hz,fun p np=>?_⟩
 have sl:=Stp.laid R1.mem np (o:=.tup vs)
 have st:=s1.trans R1.mem sl R.mem.le
 exact k _ μ1 m1 _ _ _ st (R.stp st (R1.mem.laid np)) (RW.d (.tup (.inl upd_same) (rl.to sl.same))) q
theorem cf(h:DA X E es ta):DE X E (.List es pos) (tLs ta):=by
 obtain ⟨t1,p1,k1⟩:=h.ex
 refine ⟨_,pe_lst p1,fun B μ en m σ H Q Qx QV R hx T k=>?_⟩
 refine k1 B μ en m σ H _ Qx _ R hx T fun B1 μ1 m1 H1 xs vs s1 R1 r q=>?_
 obtain ⟨ds,rl,hz,q⟩:=l7 r q
 refine ⟨by rw [rl.len]; exact hz,fun p np=>?_⟩
 have sl:=Stp.laid R1.mem np (o:=.lst vs)
 have st:=s1.trans R1.mem sl R.mem.le
 exact k _ μ1 m1 _ _ _ st (R.stp st (R1.mem.laid np)) (RW.d (.lst upd_same (rl.to sl.same))) q
def Cl(ta:DTA):DTE:=fun en m Q Qx=>ta en m (fun xs m1=>oDs xs fun ds=>ds.length≤sizeLine∧Q (.loc m1.length) (m1++[.lst ds])) Qx
theorem l8(h:DA X E es ta):DE X E (.List es pos) (Cl ta):=by
 obtain ⟨t1,p1,k1⟩:=h.ex
 refine ⟨_,pe_lst p1,fun B μ en m σ H Q Qx QV R hx T k=>?_⟩
 refine k1 B μ en m σ H _ Qx _ R hx T fun B1 μ1 m1 H1 xs vs s1 R1 r q=>?_
 obtain ⟨ds,rl,hz,q⟩:=l7 r q
 refine ⟨by rw [rl.len]; exact hz,fun p np=>?_⟩
 have kp:∀a o,a≠p→H1 a=some o→upd H1 p (.lst vs) a=some o:=fun a o c e=>by rw [upd_ne c]; exact e
 have sl:=Stp.push R1.mem np (m:=.lst ds) kp
 have st:=s1.trans R1.mem sl R.mem.le
 have mo:=R1.mem.push np (m:=.lst ds) (fun a o e=>kp a o (ne_of_none (R1.mem.le a o e) np) (R1.mem.le a o e)) kp ⟨vs,upd_same,rl⟩
 refine k _ _ _ _ (.loc m1.length) _ st (R.stp st mo) ⟨p,rfl,?_⟩ q
 rw [←R1.mem.len]
 simp
abbrev SpD:=List W→Me→(W→Me→Prop)→QX→Prop
def lift(K:Frag)(sp:SpD):Sp:=fun vs H Q E=>∃B μ m ws Qd Qx,MemOk K B μ m H∧RWs K B μ vs ws∧sp ws m Qd Qx∧ExOf K E B μ m H Qx∧
 ∀B' μ' m' H' x v,Stp B μ m H B' μ' m' H'→MemOk K B' μ' m' H'→RW K B' μ' v x→Qd x m'→Q v H'
def l9(sp:SpD)(ta:DTA):DTE:=fun en m Q Qx=>ta en m (fun xs m1=>sp xs m1 Q Qx) Qx
section
variable {CX:CXT} {k:Nat} {x:Str} {ps:List Str} {sp:SpD} {e:Expr} {p:Pos}
theorem SA.call{t:TA}{dv:List V}{dw:List D}(h:SA X E t ta)(hd:∀B,RvL X.K B dv dw):SE X E (tCall (lift X.K sp) dv E t) (l9 (fun ws=>sp (ws++dw.map .v)) ta):=by
 intro B μ en m σ H Q Qx QV R hx T k
 refine h B μ en m σ H _ Qx _ R hx T fun B1 μ1 m1 H1 xs vs s1 R1 r q=>?_
 have ra:RWs X.K B1 μ1 (vs++dv) (xs++dw.map .v):=by
  clear q
  induction r with
  | nil=>exact (hd B1).ws
  | cons a _ ih=>exact .cons a ih
 refine ⟨B1,μ1,m1,_,_,Qx,R1.mem,ra,q,hx.step s1 R1.mem R.mem.le,fun B2 μ2 m2 H2 y v s2 m2' r2 q2=>?_⟩
 have st:=s1.trans R1.mem s2 R.mem.le
 exact k B2 μ2 m2 H2 y v st (R.stp st m2') r2 q2
theorem SE.imp{t:TE}{T T':DTE}(h:SE X E t T)(k:∀en m Q Qx,T' en m Q Qx→T en m Q Qx):SE X E t T':=fun B μ en m σ H Q Qx QV R hx q z=>h B μ en m σ H Q Qx QV R hx (k _ _ _ _ q) z
theorem av(G:Gd X.prog X.w X.K X.mg X.base CX k x ps (lift X.K sp))(hr:Room k X.A)(hx:Passes CX X E)(ha:DA X E (e::es) ta)
  (hg:Gl X x:=by rfl) (hdb:(x == ("__debug__":Str))=false:=by decide) (he:starEach (e::es) X.env=(false,eval e X.env)::starEach es X.env:=by rfl) (hpl:(backTo pos (starEach es X.env)).any (·.1)=false:=by rfl):
  DE X E (.Call (.Name x p) (e::es) [] pos) (l9 sp ta):=by
 obtain ⟨t1,p1,k1⟩:=ha.ex
 refine ⟨_,Cc G hr hx p1 hg hdb he hpl,(SA.call (dv:=[]) (dw:=[]) k1 fun _=>.nil).imp fun en m Q Qx q=>?_⟩
 unfold l9 at q ⊢
 simpa using q
end
end
def bZ(N:List Str)(ws:List W):En:=ws.map some++List.replicate (N.length - ws.length) none
def rtD(m:Me)(Q:W→Me→Prop):W→Me→Prop:=fun x m'=>oD x fun d=>m<+:m'∧Q (.v d) m
def xcD(m:Me)(Qx:QX):QX:=fun er m'=>m<+:m'∧Qx er m
def oN(m:Me)(Q:W→Me→Prop)(Qx:QX):Dn:=⟨fun _ m'=>rtD m Q (.v .non) m',rtD m Q,fun _ _=>False,fun _ _=>False,xcD m Qx⟩
def uZ(Q:W→Me→Prop)(Qx:QX):Dn:=⟨fun _ m'=>Q (.v .non) m',Q,fun _ _=>False,fun _ _=>False,Qx⟩
theorem ef{K:Frag}{B:Hp}{μ:List Addr}{m:Me}{H:Hp}{N:List Str}{vs:List V}{ws:List W}(M:MemOk K B μ m H)(r:RWs K B μ vs ws):Rel K B μ (bZ N ws) m (L2.start N vs) H:=by
 refine ⟨M,by simp [bZ,L2.start,r.len],fun i x e=>?_⟩
 unfold bZ at e
 unfold L2.start
 have at_:∀{vs:List V} {ws:List W} {i:Nat} {x:W},RWs K B μ vs ws→ws[i]? =some x→∃v,vs[i]? =some v∧RW K B μ v x:=by
  intro vs ws i x r
  induction r generalizing i with
  | nil=>intro e; simp at e
  | cons a _ ih=>
   intro e
   cases i with
   | zero=>simp at e; subst e; exact ⟨_,rfl,a⟩
   | succ i=>
    obtain ⟨v,h1,h2⟩:=ih (i:=i) (by simpa using e)
    exact ⟨v,by simpa using h1,h2⟩
 by_cases c:i<ws.length
 ·rw [List.getElem?_append_left (by simpa using c),List.getElem?_map] at e
  obtain ⟨w,hw,ew⟩:∃w,ws[i]? =some w∧some w=some x:=by
   cases q:ws[i]? with
   | none=>rw [q] at e; cases e
   | some w=>rw [q] at e; exact ⟨w,rfl,Option.some.inj e⟩
  cases ew
  obtain ⟨v,h1,h2⟩:=at_ r hw
  refine ⟨v,?_,h2⟩
  rw [List.getElem?_append_left (by rw [List.length_map,r.len]; exact c),List.getElem?_map,h1]
  rfl
 ·rw [List.getElem?_append_right (by simpa using Nat.le_of_not_lt c)] at e
  have z:=List.mem_of_getElem? e
  rw [List.mem_replicate] at z
  cases z.2
section
variable {P:Program} {w:World} {K:Frag} {mg:Str→Option Value} {base:Heap} {x:Str} {st:Stmt} {N ps:List Str} {k:Nat} {sp:SpD}
theorem SS.def_{X:Cx}{E:XK}{t:TS}{T:DTS}(h:SS X E t T){vs:List V}{H:Hp}{Q:VK}(hT:∀ws m Qd Qx,sp ws m Qd Qx→T (bZ N ws) m (oN m Qd Qx))(q:lift X.K sp vs H Q E):t { nx:=fun _ H'=>Q .non H',rt:=Q } (L2.start N vs) H:=by
 obtain ⟨B,μ,m,ws,Qd,Qx,M,r,hs,hx,hq⟩:=q
 have fin:∀B' μ' m' H' x v,Stp B μ m H B' μ' m' H'→MemOk X.K B' μ' m' H'→RW X.K B' μ' v x→rtD m Qd x m'→Q v H':=fun B' μ' m' H' x v s M' r q=>by
  cases x with
  | loc n=>exact q.elim
  | v d=>
   obtain ⟨⟨more,rfl⟩,q⟩:=q
   exact hq B' μ m H' (.v d) v s.drop (M.drop s.pre M') r q
 refine h B μ (bZ N ws) m (L2.start N vs) H (oN m Qd Qx) _ (ef M r) (fun B' μ' m' H' er dd fvs s M' hd rf q=>?_) (hT ws m Qd Qx hs) ⟨fun B' μ' en' m' σ' H' s R' q=>?_,fin,fun _ _ _ _ _ _ _ _ q=>q.elim,fun _ _ _ _ _ _ _ _ q=>q.elim⟩
 ·obtain ⟨⟨more,rfl⟩,q⟩:=q
  exact hx B' μ m H' er dd fvs s.drop (M.drop s.pre M') hd rf q
 ·exact fin B' μ' m' H' (.v .non) .non s R'.mem (RW.d .non) q
theorem SS.defo{X:Cx}{E:XK}{t:TS}{T:DTS}(h:SS X E t T){vs:List V}{H:Hp}{Q:VK}(hT:∀ws m Qd Qx,sp ws m Qd Qx→T (bZ N ws) m (uZ Qd Qx))(q:lift X.K sp vs H Q E):t { nx:=fun _ H'=>Q .non H',rt:=Q } (L2.start N vs) H:=by
 obtain ⟨B,μ,m,ws,Qd,Qx,M,r,hs,hx,hq⟩:=q
 refine h B μ (bZ N ws) m (L2.start N vs) H (uZ Qd Qx) _ (ef M r) hx (hT ws m Qd Qx hs) ⟨fun B' μ' en' m' σ' H' s R' q=>?_,fun B' μ' m' H' x v s M' r q=>hq B' μ' m' H' x v s M' r q,fun _ _ _ _ _ _ _ _ q=>q.elim,fun _ _ _ _ _ _ _ _ q=>q.elim⟩
 exact hq B' μ' m' H' (.v .non) .non s R'.mem (RW.d .non) q
theorem cO(S:FnScope N ps (defScope st))(ar:∀ws m Q Qx,sp ws m Q Qx→ws.length=ps.length)
  (hbody:∀(f:Addr) (cdv:Value) (A:Around) (outer:List Env) (s:Shared) (H:Hp) (E:XK),Room k (A.deeper (envOfC x (defScope st) s.heap.objs.size f cdv))→
   ∃T,DSs (cxOf (L2N.CX P w) P w K mg base N x (defScope st) f cdv A outer s H E) E (defBody st) T∧∀ws m Qd Qx,sp ws m Qd Qx→T (bZ N ws) m (oN m Qd Qx))
  (dfl:List V) (kwd:List (Str×V)):Fo P w K mg base (L2N.CX P w) (k+1) x st dfl kwd ps (lift K sp):=by
 refine rO S (fun vs H Q E ⟨B,μ,m,ws,Qd,Qx,M,r,hs,_⟩=>by rw [r.len]; exact ar _ _ _ _ hs) fun f cdv A outer s H vs Q E hr h=>?_
 obtain ⟨T,hd,hT⟩:=hbody f cdv A outer s H E hr
 obtain ⟨t,hp,hs⟩:=hd.ex
 exact ⟨t,hp,hs.def_ hT h⟩
end
theorem md{X:Cx}:Passes (L2N.CX X.prog X.w) X E0:=fun pins σ H s e s' I ⟨a,B,H',cls,d,_,_,_,_,_,_,_,q⟩=>q.elim
def sbs(n:Nat)(d:D):Option W→Option W
 | some (.loc k)=>if k=n then some (.v d) else some (.loc k)
 | o=>o
def gU(m:Me)(n:Nat)(Q:List D→Prop):Prop:=match m[n]? with
 | some (.lst ds)=>Q ds
 | _=>False
theorem gY{m:Me}{n:Nat}{Q:List D→Prop}(h:gU m n Q):∃ds,m[n]? =some (.lst ds)∧Q ds:=by
 unfold gU at h
 split at h
 ·rename_i ds e
  exact ⟨ds,e,h⟩
 ·exact h.elim
def sFz(i:Nat)(u:DTS):DTS:=fun en m N=>match En.get en i with
 | some (.loc n)=>gU m n fun ds=>u (en.map (sbs n (.lst ds))) (m.set n .gone) N
 | some (.v _)=>u en m N
 | none=>False
section
variable {X:Cx} {E:XK}
theorem Rel.freeze{K:Frag}{B:Hp}{μ:List Addr}{en:En}{m:Me}{σ:L2.St}{H:Hp}{n:Nat}{a:Addr}{mo:MO}{d:D}{o:HO}(R:Rel K B μ en m σ H)(ha:μ[n]? =some a)(hm:m[n]? =some mo)(hl:mo.live=true)(ho:H a=some o)(hr:Rv K (upd B a o) (.ref a) d)(no:∀ps,o≠ .tbl ps:=by exact fun _ z=>nomatch z):Rel K (upd B a o) μ (en.map (sbs n d)) (m.set n .gone) σ H:=by
 have nb:=R.mem.off a ⟨n,mo,ha,hm,hl⟩
 refine ⟨R.mem.freeze ha hm hl ho no,by simp [R.len],fun i x e=>?_⟩
 rw [List.getElem?_map] at e
 cases q:en[i]? with
 | none=>rw [q] at e; cases e
 | some y=>
  rw [q] at e
  have e:sbs n d y=some x:=Option.some.inj e
  cases y with
  | none=>cases e
  | some y=>
   obtain ⟨v,h1,h2⟩:=R.env i y q
   cases y with
   | v d2=>
    cases e
    exact ⟨v,h1,h2.to (aJ nb o) (List.prefix_refl _)⟩
   | loc k=>
    have e:(if k=n then some (W.v d) else some (W.loc k))=some x:=e
    obtain ⟨b,rfl,hb⟩:=h2
    by_cases c:k=n
    ·rw [if_pos c] at e
     cases e
     subst c
     have z:a=b:=Option.some.inj (ha.symm.trans hb)
     subst z
     exact ⟨_,h1,hr⟩
    ·rw [if_neg c] at e
     cases e
     exact ⟨_,h1,b,rfl,hb⟩
theorem oO{st:List Stmt}{u:DTS}(i:Nat)(h:DSs X E st u):DSs X E st (sFz i u):=by
 obtain ⟨t1,p1,k1⟩:=h.ex
 refine ⟨_,p1,fun B μ en m σ H N D R hx T e=>?_⟩
 unfold sFz at T
 split at T
 ·rename_i n hn
  obtain ⟨ds,hm,T⟩:=gY T
  obtain ⟨v,h1,a,rfl,ha⟩:=R.env i _ (En.get_some hn)
  obtain ⟨vs,hv,rl⟩:=R.mem.at_ n a _ ha hm rfl
  have nb:=R.mem.off a ⟨n,_,ha,hm,rfl⟩
  have sf:=Stp.freeze (H:=H) (o:=.lst vs) ha hm rfl nb
  have R1:=R.freeze ha hm rfl hv (.lst upd_same (rl.to sf.same))
  exact k1 _ μ _ _ σ H N D R1 (hx.step sf R1.mem R.mem.le) T (e.step sf R1.mem R.mem.le)
 ·exact k1 B μ en m σ H N D R hx T e
 ·exact T.elim
abbrev DMt:=W→List W→Me→(D→Me→Prop)→Prop
def SM(X:Cx)(r:V→List V→Hp→VK→Prop)(o:DMt):Prop:=∀B μ m H x xs v vs (Q:D→Me→Prop) (QV:VK),MemOk X.K B μ m H→RW X.K B μ v x→RWs X.K B μ vs xs→o x xs m Q→
 (∀B' m' H' d z,Stp B μ m H B' μ m' H'→MemOk X.K B' μ m' H'→Rv X.K B' z d→Q d m'→QV z H')→r v vs H QV
def STy(X:Cx)(T:String)(ty:W→Me→Prop):Prop:=∀B μ m H x v,MemOk X.K B μ m H→RW X.K B μ v x→ty x m→tyV X.K T v H
def tMe(ty:W→Me→Prop)(o:DMt)(to:DTE)(ta:DTA):DTE:=fun en m Q Qx=>to en m (fun x m1=>ty x m1∧ta en m1 (fun xs m2=>o x xs m2 fun d m3=>Q (.v d) m3) Qx) Qx
theorem rW{T:String}{name:Str}{id:String}{r:V→List V→Hp→VK→Prop}{op:DMt}{ty:W→Me→Prop}{o e:Expr}{es:List Expr}{to:DTE}{ta:DTA}{apos cpos:Pos}(pa:PlainAttrs T)(slot:Slot T name id)(hty:typeOf (.builtin id)=pure (.type "method_descriptor"))(hm:MtR X id r)(so:SM X r op)(st:STy X T ty)(ho:DE X E o to)(ha:DA X E (e::es) ta)
  (hbase:attributeBase o name X.env (eval o X.env)=eval o X.env:=by rfl)
  (hfew:((backTo cpos (starEach (e::es) X.env)).all (fun x=> !x.1)&&(backToKw cpos (keywordEach [] X.env)).all (fun x=>x.1.isSome)
   &&decide ((e::es).length+([]:List Keyword).length+(if ([]:List Keyword).isEmpty then 0 else 1)<30))=true:=by rfl)
  (hline:(apos.endLine == cpos.line)=true:=by rfl) (hs:starEach (e::es) X.env=(false,eval e X.env)::starEach es X.env:=by rfl) (hplain:(backTo cpos (starEach es X.env)).any (·.1)=false:=by rfl):
  DE X E (.Call (.Attribute o name apos) (e::es) [] cpos) (tMe ty op to ta):=by
 obtain ⟨t1,p1,k1⟩:=ho.ex
 obtain ⟨t2,p2,k2⟩:=ha.ex
 refine ⟨_,pe_bm pa slot hty hm p1 p2 hbase hfew hline hs hplain,fun B μ en m σ H Q Qx QV R hx T k=>?_⟩
 refine k1 B μ en m σ H _ Qx _ R hx T fun B1 μ1 m1 H1 x v s1 R1 r1 ⟨q1,q2⟩=>⟨st B1 μ1 m1 H1 x v R1.mem r1 q1,?_⟩
 refine k2 B1 μ1 en m1 σ H1 _ Qx _ R1 (hx.step s1 R1.mem R.mem.le) q2 fun B2 μ2 m2 H2 xs vs s2 R2 r2 q3=>?_
 refine so B2 μ2 m2 H2 x xs v vs _ _ R2.mem (r1.to s2.same s2.pre) r2 q3 fun B3 m3 H3 d z s3 M3 rz q4=>?_
 have st:=(s1.trans R1.mem s2 R.mem.le).trans R2.mem s3 R.mem.le
 exact k B3 μ2 m3 H3 (.v d) z st (R.stp st M3) rz q4
def me:W→Me→Prop
 | .loc n,m=>gU m n fun _=>True
 | _,_=>False
def mf:DMt:=fun x xs m Q=>match x,xs with
 | .loc n,[.v d]=>gU m n fun ds=>ds.length<sizeLine∧Q .non (m.set n (.lst (ds++[d])))
 | _,_=>False
theorem oP:STy X "list" me:=by
 intro B μ m H x v M r q
 cases x with
 | v d=>exact q.elim
 | loc n=>
  obtain ⟨ds,hm,_⟩:=gY q
  obtain ⟨a,rfl,ha⟩:=r
  obtain ⟨vs,hv,_⟩:=M.at_ n a _ ha hm rfl
  exact .inl ⟨rfl,vs,.inl (.inl hv)⟩
theorem tq:SM X rAppend mf:=by
 intro B μ m H x xs v vs Q QV M r rs q k
 unfold mf at q
 split at q
 ·rename_i x xs n d
  obtain ⟨ds,hm,q⟩:=gY q
  obtain ⟨a,rfl,ha⟩:=r
  obtain ⟨us,hv,rl⟩:=M.at_ n a _ ha hm rfl
  cases rs with
  | cons rd rn=>
   cases rn with
   | nil=>
    rename_i vd
    have kp:∀b o,b≠a→H b=some o→upd H a (.lst (us++[vd])) b=some o:=fun b o c e=>by rw [upd_ne c]; exact e
    refine ⟨a,us,vd,rfl,rfl,hv,by rw [rl.len]; exact q.1,?_⟩
    have new:OO X.K B μ (upd H a (.lst (us++[vd]))) a (.lst (ds++[d])):=⟨_,upd_same,rl.append (.one rd)⟩
    exact k B _ _ .non _ (Stp.store ha hm rfl kp) (M.store ha hm rfl rfl kp new) .non q.2
 ·exact q.elim
theorem tv{o e:Expr}{to:DTE}{ta:DTA}{apos pos:Pos}(ho:DE X E o to)(ha:DA X E [e] ta)(hb:attributeBase o "append" X.env (eval o X.env)=eval o X.env:=by rfl)
  (hfew:((backTo pos (starEach [e] X.env)).all (fun x=> !x.1)&&(backToKw pos (keywordEach [] X.env)).all (fun x=>x.1.isSome)
   &&decide ([e].length+([]:List Keyword).length+(if ([]:List Keyword).isEmpty then 0 else 1)<30))=true:=by rfl)
  (hline:(apos.endLine == pos.line)=true:=by rfl) (hs:starEach [e] X.env=(false,eval e X.env)::starEach [] X.env:=by rfl) (hplain:(backTo pos (starEach [] X.env)).any (·.1)=false:=by rfl):
  DE X E (.Call (.Attribute o "append" apos) [e] [] pos) (tMe me mf to ta):=rW PySem.F.plainAttrs_list PySem.F.slot_list_append PySem.F.type_list_append mt_append tq oP ho ha hb hfew hline hs hplain
def wo:Option MO→(D→Prop)→Prop
 | some (.lst ds),Q=>Q (.lst ds)
 | some (.dic ds),Q=>Q (.dic ds)
 | _,_=>False
def look:W→Me→(D→Prop)→Prop
 | .v d,_,Q=>Q d
 | .loc n,m,Q=>wo m[n]? Q
def Top(K:Frag)(B H:Hp)(v:V):D→Prop
 | .tup ds=>∃a vs,v=.ref a∧TqT K B a vs∧RvL K B vs ds
 | .lst ds=>∃a vs,v=.ref a∧H a=some (.lst vs)∧RvL K B vs ds
 | .dic ds=>∃a vs,v=.ref a∧Rd H a (.dK vs)∧RvK K B vs ds
 | .obj C ds=>∃a dx vs,v=.ref a∧H a=some (.ins C dx vs)∧RvF K B vs ds
 | d=>Rv K B v d
theorem Rv.top{K:Frag}{B H:Hp}(le:Le B H){v:V}{d:D}(r:Rv K B v d):Top K B H v d:=by
 cases r with
 | tup h a=>exact ⟨_,_,rfl,h,a⟩
 | lst h a=>exact ⟨_,_,rfl,le _ _ h,a⟩
 | dic h a=>exact ⟨_,_,rfl,.inr ⟨_,le _ _ h⟩,a⟩
 | obj h a=>exact ⟨_,_,_,rfl,le _ _ h,a⟩
 | exc h g a=>exact .exc h g a
 | lam h=>exact .lam h
 | non=>exact .non
 | bl b=>exact .bl b
 | int i=>exact .int i
 | str h=>exact .str h
 | ty n=>exact .ty n
 | fn a=>exact .fn a
theorem eS{K:Frag}{B:Hp}{μ:List Addr}{m:Me}{H:Hp}{v:V}(M:MemOk K B μ m H):∀{x:W} {Q:D→Prop},RW K B μ v x→look x m Q→∃d,Top K B H v d∧Q d
 | .v d,Q,r,q=>⟨d,Rv.top M.le r,q⟩
 | .loc n,Q,⟨a,e,ha⟩,q=>by
  subst e
  have q:wo m[n]? Q:=q
  cases hm:m[n]? with
  | none=>rw [hm] at q; exact q.elim
  | some mo=>
   rw [hm] at q
   cases mo with
   | lst ds=>
    obtain ⟨vs,hv,rl⟩:=M.at_ n a _ ha hm rfl
    exact ⟨.lst ds,⟨a,vs,rfl,hv,rl⟩,q⟩
   | dic ds=>
    obtain ⟨vs,hv,rl⟩:=M.at_ n a _ ha hm rfl
    exact ⟨.dic ds,⟨a,vs,rfl,.inl hv,rl⟩,q⟩
   | ins C fs=>exact q.elim
   | bag=>exact q.elim
   | tab _ _=>exact q.elim
   | gone=>exact q.elim
end
abbrev okS(x:Str):Bool:=PySem.PyData.strOk x
theorem oQ{x y:Str}(h:okS x=true)(k:okS y=true):okS (x++y)=true:=by
 unfold okS PySem.PyData.strOk at *
 show Array.all (x.cps++y.cps) _=true
 rw [Array.all_append,h,k]
 rfl
theorem aX{x:Str}:okS x=true↔∀c∈x.cps.toList,c<0x110000:=by
 unfold okS PySem.PyData.strOk
 rw [←Array.all_toList,List.all_eq_true]
 simp
mutual
def b7:D→Bool
 | .non | .bl _ | .int _ | .str _=>true
 | .tup xs=>plainL xs
 | .lst xs=>plainL xs
 | _=>false
def plainL:List D→Bool
 | []=>true
 | x::xs=>b7 x&&plainL xs
end
mutual
def pyD:D→PyData
 | .bl b=>.bool b
 | .int i=>.int i
 | .str x=>.str x
 | .tup xs=>.tuple (pyL xs)
 | .lst xs=>.list (pyL xs)
 | _=>.none
def pyL:List D→List PyData
 | []=>[]
 | x::xs=>pyD x::pyL xs
end
mutual
def kY:D→Nat
 | .tup xs=>depL xs+1
 | .lst xs=>depL xs+1
 | _=>0
def depL:List D→Nat
 | []=>0
 | x::xs=>max (kY x) (depL xs)
end
mutual
def deq:D→D→Bool
 | .non,.non=>true
 | .bl a,.bl b=>a == b
 | .bl a,.int j=>(if a then 1 else 0) == j
 | .int i,.bl b=>i == (if b then 1 else 0)
 | .int i,.int j=>i == j
 | .str x,.str y=>x == y
 | .lst xs,.lst ys=>deqL xs ys
 | .tup xs,.tup ys=>deqL xs ys
 | _,_=>false
def deqL:List D→List D→Bool
 | [],[]=>true
 | x::xs,y::ys=>deq x y&&deqL xs ys
 | _,_=>false
end
mutual
theorem oR:∀{x y:D},b7 x=true→b7 y=true→PyData.eqv (pyD x) (pyD y)=deq x y
 | .non,y,_,h=>by cases y <;> first | rfl | cases h
 | .bl _,y,_,h=>by cases y <;> first | rfl | cases h
 | .int _,y,_,h=>by cases y <;> first | rfl | cases h
 | .str _,y,_,h=>by cases y <;> first | rfl | cases h
 | .lst xs,y,g,h=>by
  cases y with
  | lst ys=>exact deqL_py (x:=xs) (y:=ys) g h
  | non=>rfl
  | bl _=>rfl
  | int _=>rfl
  | str _=>rfl
  | tup _=>rfl
  | dic _=>cases h
  | obj _ _=>cases h
  | exc _ _=>cases h
  | lam _ _ _=>cases h
  | ty _=>cases h
  | fn _=>cases h
 | .tup xs,y,g,h=>by
  cases y with
  | tup ys=>exact deqL_py (x:=xs) (y:=ys) g h
  | non=>rfl
  | bl _=>rfl
  | int _=>rfl
  | str _=>rfl
  | lst _=>rfl
  | dic _=>cases h
  | obj _ _=>cases h
  | exc _ _=>cases h
  | lam _ _ _=>cases h
  | ty _=>cases h
  | fn _=>cases h
theorem deqL_py:∀{x y:List D},plainL x=true→plainL y=true→PyData.eqvAll (pyL x) (pyL y)=deqL x y
 | [],[],_,_=>rfl
 | [],_::_,_,_=>rfl
 | _::_,[],_,_=>rfl
 | x::xs,y::ys,g,h=>by
  have g:=Bool.and_eq_true_iff.mp g
  have h:=Bool.and_eq_true_iff.mp h
  show (PyData.eqv (pyD x) (pyD y)&&PyData.eqvAll (pyL xs) (pyL ys))=(deq x y&&deqL xs ys)
  rw [oR g.1 h.1,deqL_py g.2 h.2]
end
mutual
theorem rX:∀(x:D),(pyD x).depth=kY x
 | .tup xs=>congrArg (·+1) (depL_py xs)
 | .lst xs=>congrArg (·+1) (depL_py xs)
 | .non=>rfl
 | .bl _=>rfl
 | .int _=>rfl
 | .str _=>rfl
 | .dic _=>rfl
 | .obj _ _=>rfl
 | .exc _ _=>rfl
 | .lam _ _ _=>rfl
 | .ty _=>rfl
 | .fn _=>rfl
theorem depL_py:∀(x:List D),PyData.depthAll (pyL x)=depL x
 | []=>rfl
 | x::xs=>by
  show max (pyD x).depth (PyData.depthAll (pyL xs))=max (kY x) (depL xs)
  rw [rX x,depL_py xs]
end
mutual
theorem Rv.dp{K:Frag}{B:Hp}:∀{v:V} {d:D},Rv K B v d→b7 d=true→Dp K B v (pyD d)
 | _,_,.non,_=>.non
 | _,_,.bl b,_=>.bl b
 | _,_,.int i,_=>.int i
 | _,_,.str _,_=>.str _
 | _,_,.tup h r,p=>.tup h.sq (RvL.dp r p)
 | _,_,.lst h r,p=>.lst (.inl (.inl h)) (RvL.dp r p)
 | _,_,.ty _,p=>by cases p
 | _,_,.fn _,p=>by cases p
 | _,_,.dic _ _,p=>by cases p
 | _,_,.obj _ _,p=>by cases p
 | _,_,.exc _ _ _,p=>by cases p
 | _,_,.lam _,p=>by cases p
theorem RvL.dp{K:Frag}{B:Hp}:∀{v:List V} {d:List D},RvL K B v d→plainL d=true→DpAll K B v (pyL d)
 | _,_,.nil,_=>.nil
 | _,_,.cons h t,p=>.cons (Rv.dp h (Bool.and_eq_true_iff.mp p).1) (RvL.dp t (Bool.and_eq_true_iff.mp p).2)
end
mutual
theorem Rv.lay{K:Frag}{B:Hp}:∀{v:V} {d:D},Rv K B v d→b7 d=true→(pyD d).canLay0=true
 | _,_,.non,_=>rfl
 | _,_,.bl b,_=>rfl
 | _,_,.int i,_=>rfl
 | _,_,.str h,_=>h
 | _,_,.tup h r,p=>RvL.lay r p
 | _,_,.lst h r,p=>RvL.lay r p
 | _,_,.ty _,p=>by cases p
 | _,_,.fn _,p=>by cases p
 | _,_,.dic _ _,p=>by cases p
 | _,_,.obj _ _,p=>by cases p
 | _,_,.exc _ _ _,p=>by cases p
 | _,_,.lam _,p=>by cases p
theorem RvL.lay{K:Frag}{B:Hp}:∀{v:List V} {d:List D},RvL K B v d→plainL d=true→PyData.canLayAll0 (pyL d)=true
 | _,_,.nil,_=>rfl
 | _,_,.cons h t,p=>by
  show ((pyD _).canLay0&&PyData.canLayAll0 (pyL _))=true
  rw [Rv.lay h (Bool.and_eq_true_iff.mp p).1,RvL.lay t (Bool.and_eq_true_iff.mp p).2]
  rfl
end
theorem Top.dp{K:Frag}{B H:Hp}(le:Le B H){v:V}:∀{d:D},Top K B H v d→b7 d=true→Dp K H v (pyD d)∧(pyD d).canLay0=true
 | .non,h,p=>⟨Dp.to le (Rv.dp h p),Rv.lay h p⟩
 | .bl b,h,p=>⟨Dp.to le (Rv.dp h p),Rv.lay h p⟩
 | .int i,h,p=>⟨Dp.to le (Rv.dp h p),Rv.lay h p⟩
 | .str x,h,p=>⟨Dp.to le (Rv.dp h p),Rv.lay h p⟩
 | .tup xs,⟨a,vs,e,hs,r⟩,p=>by
  subst e
  exact ⟨.tup (le.tup hs) (DpAll.to le (RvL.dp r p)),RvL.lay r p⟩
 | .lst xs,⟨a,vs,e,hs,r⟩,p=>by
  subst e
  exact ⟨.lst (.inl (.inl hs)) (DpAll.to le (RvL.dp r p)),RvL.lay r p⟩
 | .ty _,_,p=>by cases p
 | .fn _,_,p=>by cases p
 | .dic _,_,p=>by cases p
 | .obj _ _,_,p=>by cases p
 | .exc _ _,_,p=>by cases p
 | .lam _ _ _,_,p=>by cases p
abbrev F2:=D→D→(D→Prop)→Prop
def oL(f:F2):DOp:=fun x y m Q=>look x m fun dx=>look y m fun dy=>f dx dy Q
section
variable {X:Cx} {E:XK}
theorem SO.of{r:R2}{f:F2} (h:∀B μ m H v u dx dy (Q:D→Prop) (QV:VK),MemOk X.K B μ m H→Top X.K B H v dx→Top X.K B H u dy→f dx dy Q→
  (∀B' H' d z,Stp B μ m H B' μ m H'→MemOk X.K B' μ m H'→Rv X.K B' z d→Q d→QV z H')→r v u H QV):SO X r (oL f):=by
 intro B μ m H x y v u Q QV M rx ry q k
 obtain ⟨dx,tx,q⟩:=eS M rx q
 obtain ⟨dy,ty,q⟩:=eS M ry q
 exact h B μ m H v u dx dy Q QV M tx ty q k
theorem SO.pure{B:Hp}{μ:List Addr}{m:Me}{H:Hp}{Q:D→Prop}{QV:VK}(M:MemOk X.K B μ m H)(k:∀B' H' d z,Stp B μ m H B' μ m H'→MemOk X.K B' μ m H'→Rv X.K B' z d→Q d→QV z H'){d:D}{z:V}(r:Rv X.K B z d)(q:Q d):QV z H:=k B H d z .refl M r q
theorem SO.new{B:Hp}{μ:List Addr}{m:Me}{H:Hp}{Q:D→Prop}{QV:VK}(M:MemOk X.K B μ m H)(k:∀B' H' d z,Stp B μ m H B' μ m H'→MemOk X.K B' μ m H'→Rv X.K B' z d→Q d→QV z H'){d:D}{p:Addr}{o:HO}(np:H p=none)(r:Rv X.K (upd B p o) (.ref p) d)(q:Q d)(no:∀ps,o≠ .tbl ps:=by exact fun _ z=>nomatch z):QV (.ref p) (upd H p o):=
 k _ _ d _ (Stp.laid M np) (M.laid np no) r q
theorem iw{K:Frag}{B:Hp}{μ:List Addr}{m:Me}{H:Hp}{p:Addr}{vs:List V}{ds:List D}(M:MemOk K B μ m H)(np:H p=none)(r:RvL K B vs ds):Rv K (upd B p (.lst vs)) (.ref p) (.lst ds):=.lst upd_same (r.to (n6 M np))
theorem oS{K:Frag}{B:Hp}{μ:List Addr}{m:Me}{H:Hp}{p:Addr}{vs:List V}{ds:List D}(M:MemOk K B μ m H)(np:H p=none)(r:RvL K B vs ds):Rv K (upd B p (.tup vs)) (.ref p) (.tup ds):=.tup (.inl upd_same) (r.to (n6 M np))
def ja:F2
 | .int i,.int j,Q=>Q (.int (i+j))
 | .str a,.str b,Q=>a.length+b.length≤sizeLine∧Q (.str (a++b))
 | .lst a,.lst b,Q=>a.length+b.length≤sizeLine∧Q (.lst (a++b))
 | .tup a,.tup b,Q=>a.length+b.length≤sizeLine∧Q (.tup (a++b))
 | _,_,_=>False
theorem aG:OpD X (binaryOp .Add) (oL ja):=by
 refine ⟨_,(op_add.or op_add_str).or (op_cat.or op_catA),SO.of fun B μ m H v u dx dy Q QV M tx ty q k=>?_⟩
 unfold ja at q
 split at q
 ·cases tx
  cases ty
  exact .inl (.inl ⟨_,_,rfl,rfl,SO.pure M k (.int _) q⟩)
 ·cases tx with
  | str h1=>cases ty with
   | str h2=>exact .inl (.inr ⟨_,_,rfl,rfl,q.1,SO.pure M k (.str (oQ h1 h2)) q.2⟩)
 ·obtain ⟨a,vs,rfl,h1,r1⟩:=tx
  obtain ⟨b,us,rfl,h2,r2⟩:=ty
  exact .inr (.inl ⟨a,b,vs,us,rfl,rfl,h1,h2,by rw [r1.len,r2.len]; exact q.1,fun p np=>SO.new M k np (iw M np (r1.append r2)) q.2⟩)
 ·obtain ⟨a,vs,rfl,h1,r1⟩:=tx
  obtain ⟨b,us,rfl,h2,r2⟩:=ty
  refine .inr (.inr ⟨a,b,vs,us,rfl,rfl,M.le.tup h1,M.le.tup h2,by rw [r1.len,r2.len]; exact q.1,fun z=>?_,fun _ z=>?_,fun _ _ p np=>SO.new M k np (oS M np (r1.append r2)) q.2⟩)
  ·subst z
   cases r1
   exact SO.pure M k (.tup h2 r2) q.2
  ·subst z
   cases r2
   have q2:=q.2
   rw [List.append_nil] at q2
   exact SO.pure M k (.tup h1 r1) q2
 ·exact q.elim
def rY(f:Int→Int→(D→Prop)→Prop):F2
 | .int i,.int j,Q=>f i j Q
 | _,_,_=>False
theorem fW{f:Int→Int→(D→Prop)→Prop}{K:Frag}{B H:Hp}{v u:V}{dx dy:D}{Q:D→Prop}(tx:Top K B H v dx)(ty:Top K B H u dy)(q:rY f dx dy Q):∃i j,v=.int i∧u=.int j∧f i j Q:=by
 unfold rY at q
 split at q
 ·cases tx
  cases ty
  exact ⟨_,_,rfl,rfl,q⟩
 ·exact q.elim
theorem wq:OpD X (binaryOp .Sub) (oL (rY fun i j Q=>Q (.int (i - j)))):=⟨_,op_sub,SO.of fun B μ m H v u dx dy Q QV M tx ty q k=>by
 obtain ⟨i,j,rfl,rfl,q⟩:=fW tx ty q
 exact ⟨_,_,rfl,rfl,SO.pure M k (.int _) q⟩⟩
def Bd:F2
 | .int i,.int j,Q=>CMulW i j∧Q (.int (i * j))
 | .lst a,.int n,Q=>0≤n∧n<2 ^ 62∧a.length * n.toNat≤sizeLine∧Q (.lst (List.replicate n.toNat a).flatten)
 | _,_,_=>False
theorem RvL.rep{K:Frag}{B:Hp}{vs:List V}{ds:List D}(r:RvL K B vs ds):∀n:Nat,RvL K B (List.replicate n vs).flatten (List.replicate n ds).flatten
 | 0=>.nil
 | n+1=>by
  rw [List.replicate_succ,List.replicate_succ,List.flatten_cons,List.flatten_cons]
  exact r.append (RvL.rep r n)
theorem wu:OpD X (binaryOp .Mod) (oL (rY fun i j Q=>0<j∧Q (.int (i % j)))):=⟨_,op_mod,SO.of fun B μ m H v u dx dy Q QV M tx ty q k=>by
 obtain ⟨i,j,rfl,rfl,q1,q⟩:=fW tx ty q
 exact ⟨_,_,rfl,rfl,q1,SO.pure M k (.int _) q⟩⟩
theorem wv:OpD X (binaryOp .FloorDiv) (oL (rY fun i j Q=>0<j∧j.natAbs.log2<9000∧Q (.int (i / j)))):=⟨_,op_fdivW,SO.of fun B μ m H v u dx dy Q QV M tx ty q k=>by
 obtain ⟨i,j,rfl,rfl,q1,q2,q⟩:=fW tx ty q
 exact ⟨_,_,rfl,rfl,⟨q1,q2⟩,SO.pure M k (.int _) q⟩⟩
def y9(f:Int→Int→Bool):F2:=rY fun i j Q=>Q (.bl (f i j))
theorem mh:OpD X (compareOp .Lt) (oL (y9 fun i j=>decide (i<j))):=⟨_,op_lt,SO.of fun B μ m H v u dx dy Q QV M tx ty q k=>by
 obtain ⟨i,j,rfl,rfl,q⟩:=fW tx ty q
 exact ⟨_,_,rfl,rfl,SO.pure M k (.bl _) q⟩⟩
theorem za:OpD X (compareOp .LtE) (oL (y9 fun i j=>decide (i≤j))):=⟨_,op_le,SO.of fun B μ m H v u dx dy Q QV M tx ty q k=>by
 obtain ⟨i,j,rfl,rfl,q⟩:=fW tx ty q
 exact ⟨_,_,rfl,rfl,SO.pure M k (.bl _) q⟩⟩
theorem Dr:OpD X (compareOp .Gt) (oL (y9 fun i j=>decide (j<i))):=⟨_,op_gt,SO.of fun B μ m H v u dx dy Q QV M tx ty q k=>by
 obtain ⟨i,j,rfl,rfl,q⟩:=fW tx ty q
 exact ⟨_,_,rfl,rfl,SO.pure M k (.bl _) q⟩⟩
def eqD(g:Bool→Bool):F2:=fun x y Q=>b7 x=true∧b7 y=true∧kY x≤64∧kY y≤64∧Q (.bl (g (deq x y)))
theorem mi{K:Frag}{B H:Hp}{v u:V}{dx dy:D}(le:Le B H)(tx:Top K B H v dx)(ty:Top K B H u dy)(h1:b7 dx=true)(h2:b7 dy=true)(h3:kY dx≤64)(h4:kY dy≤64):Dp K H v (pyD dx)∧Dp K H u (pyD dy)∧SeqAt.shaped (pyD dx)=true∧SeqAt.shaped (pyD dy)=true:=by
 obtain ⟨a1,a2⟩:=Top.dp le tx h1
 obtain ⟨b1,b2⟩:=Top.dp le ty h2
 refine ⟨a1,b1,?_,?_⟩
 ·unfold SeqAt.shaped
  rw [a2,rX]
  simpa using h3
 ·unfold SeqAt.shaped
  rw [b2,rX]
  simpa using h4
theorem fX(hu:X.A.units+64<cLine):OpD X (compareOp .Eq) (oL (eqD id)):=⟨_,op_eqD hu,SO.of fun B μ m H v u dx dy Q QV M tx ty ⟨h1,h2,h3,h4,q⟩ k=>by
 obtain ⟨a,b,c,d⟩:=mi M.le tx ty h1 h2 h3 h4
 exact ⟨_,_,a,b,c,d,by rw [oR h1 h2]; exact SO.pure M k (.bl _) q⟩⟩
theorem gZ(hu:X.A.units+64<cLine):OpD X (compareOp .NotEq) (oL (eqD (!·))):=⟨_,op_neD hu,SO.of fun B μ m H v u dx dy Q QV M tx ty ⟨h1,h2,h3,h4,q⟩ k=>by
 obtain ⟨a,b,c,d⟩:=mi M.le tx ty h1 h2 h3 h4
 exact ⟨_,_,a,b,c,d,by rw [oR h1 h2]; exact SO.pure M k (.bl _) q⟩⟩
def ww:D→Bool
 | .non=>true
 | _=>false
def isF(g:Bool→Bool):F2:=fun x y Q=>ww y=true∧Q (.bl (g (ww x)))
theorem Top.nonI{K:Frag}{B H:Hp}{v:V}{d:D}(t:Top K B H v d):decide (v=.non)=ww d:=by
 cases d with
 | non=>cases t; rfl
 | bl b=>cases t; rfl
 | int b=>cases t; rfl
 | str b=>cases t; rfl
 | ty b=>cases t; rfl
 | fn b=>cases t; rfl
 | tup _=>obtain ⟨a,_,rfl,_⟩:=t; rfl
 | lst _=>obtain ⟨a,_,rfl,_⟩:=t; rfl
 | dic _=>obtain ⟨a,_,rfl,_⟩:=t; rfl
 | obj _ _=>obtain ⟨a,_,_,rfl,_⟩:=t; rfl
 | exc _ _=>cases t; rfl
 | lam _ _ _=>cases t; rfl
theorem zd:OpD X (compareOp .Is) (oL (isF id)):=⟨_,op_isN,SO.of fun B μ m H v u dx dy Q QV M tx ty ⟨h,q⟩ k=>by
 refine ⟨of_decide_eq_true (by rw [ty.nonI]; exact h),?_⟩
 rw [tx.nonI]
 exact SO.pure M k (.bl _) q⟩
def kN:D→Bool
 | .non | .bl _ | .int _ | .str _=>true
 | _=>false
def kc(x y:Str):Bool:= !(Builtin.Str.occurrences y x 0 y.length 1).isEmpty
def inD(g:Bool→Bool):F2
 | .str x,.str y,Q=>Q (.bl (g (kc x y)))
 | x,.tup ds,Q=>kN x=true∧ds.all kN=true∧Q (.bl (g (ds.any fun y=>deq y x)))
 | x,.lst ds,Q=>b7 x=true∧plainL ds=true∧kY x≤64∧depL ds+1≤64∧Q (.bl (g (ds.any fun y=>deq y x)))
 | _,_,_=>False
theorem rZ{K:Frag}{B H:Hp}{v:V}{d:D}(t:Top K B H v d)(h:kN d=true):flatV v=true:=by
 cases d with
 | non=>cases t; rfl
 | bl b=>cases t; rfl
 | int b=>cases t; rfl
 | str b=>cases t; rfl
 | _=>cases h
theorem oU{K:Frag}{B:Hp}:∀{vs:List V} {ds:List D},RvL K B vs ds→ds.all kN=true→vs.all flatV=true
 | _,_,.nil,_=>rfl
 | _,_,.cons a t,h=>by
  rw [List.all_cons] at h ⊢
  have h:=Bool.and_eq_true_iff.mp h
  rw [rZ (H:=B) (Rv.top (Le.refl B) a) h.1,oU t h.2]
  rfl
theorem Cm{K:Frag}{B H B2 H2:Hp}{v u:V}{d e:D}(t:Top K B H v d)(t2:Top K B2 H2 u e)(h:kN d=true)(k:kN e=true):eqV v u=deq d e:=by
 cases d with
 | non=>cases t; cases e <;> first | (cases t2; rfl) | cases k
 | bl b=>cases t; cases e <;> first | (cases t2; rfl) | cases k
 | int b=>cases t; cases e <;> first | (cases t2; rfl) | cases k
 | str b=>cases t; cases e <;> first | (cases t2; rfl) | cases k
 | _=>cases h
theorem wy{K:Frag}{B H:Hp}{v:V}{d:D}(t:Top K B H v d)(h:kN d=true):∀{vs:List V} {ds:List D},RvL K B vs ds→ds.all kN=true→inV v vs=ds.any fun y=>deq y d
 | _,_,.nil,_=>rfl
 | _,_,.cons (ds:=ds) a r,k=>by
  rw [List.all_cons] at k
  have k:=Bool.and_eq_true_iff.mp k
  show (eqV _ v||inV v _)=(_||_)
  rw [wy t h r k.2,Cm (Rv.top (Le.refl B) a) t k.1 h]
theorem oV:∀{ds:List D} {x:D},plainL ds=true→b7 x=true→((pyL ds).any fun z=>PyData.eqv z (pyD x))=ds.any fun y=>deq y x
 | [],_,_,_=>rfl
 | d::ds,x,h,k=>by
  have h:=Bool.and_eq_true_iff.mp h
  show (PyData.eqv (pyD d) (pyD x)||(pyL ds).any _)=(deq d x||ds.any _)
  rw [oR h.1 k,oV h.2 k]
theorem qk(hu:X.A.units+65<cLine):OpD X (compareOp .In) (oL (inD id)):=by
 refine ⟨_,op_in_str.or (op_in_seq.or (op_inD hu)),SO.of fun B μ m H v u dx dy Q QV M tx ty q k=>?_⟩
 unfold inD at q
 split at q
 ·cases tx with
  | str h1=>cases ty with
   | str h2=>exact .inl ⟨_,_,rfl,rfl,SO.pure M k (.bl _) q⟩
 ·obtain ⟨a,vs,rfl,hs,r⟩:=ty
  obtain ⟨q1,q2,q⟩:=q
  refine .inr (.inl ⟨a,vs,rfl,.inr (M.le.tup hs),rZ tx q1,oU r q2,?_⟩)
  rw [wy tx q1 r q2]
  exact SO.pure M k (.bl _) q
 ·obtain ⟨q1,q2,q3,q4,q⟩:=q
  obtain ⟨a,b,c,d⟩:=mi (dy:=.lst _) M.le tx ty q1 q2 q3 q4
  refine .inr (.inr ⟨_,pyL _,a,b,c,d,?_⟩)
  rw [oV q2 q1]
  exact SO.pure M k (.bl _) q
 ·exact q.elim
theorem ze(hu:X.A.units+65<cLine):OpD X (compareOp .NotIn) (oL (inD (!·))):=by
 refine ⟨_,op_notIn_str.or (op_notIn_seq.or (op_notInD hu)),SO.of fun B μ m H v u dx dy Q QV M tx ty q k=>?_⟩
 unfold inD at q
 split at q
 ·cases tx with
  | str h1=>cases ty with
   | str h2=>exact .inl ⟨_,_,rfl,rfl,SO.pure M k (.bl _) q⟩
 ·obtain ⟨a,vs,rfl,hs,r⟩:=ty
  obtain ⟨q1,q2,q⟩:=q
  refine .inr (.inl ⟨a,vs,rfl,.inr (M.le.tup hs),rZ tx q1,oU r q2,?_⟩)
  rw [wy tx q1 r q2]
  exact SO.pure M k (.bl _) q
 ·obtain ⟨q1,q2,q3,q4,q⟩:=q
  obtain ⟨a,b,c,d⟩:=mi (dy:=.lst _) M.le tx ty q1 q2 q3 q4
  refine .inr (.inr ⟨_,pyL _,a,b,c,d,?_⟩)
  rw [oV q2 q1]
  exact SO.pure M k (.bl _) q
 ·exact q.elim
end
def ixD:F2
 | .lst ds,.int i,Q=>∃d,atI ds i=some d∧Q d
 | .tup ds,.int i,Q=>∃d,atI ds i=some d∧Q d
 | .str x,.int i,Q=>x.length≤sizeLine∧∃c,atI x.cps.toList i=some c∧Q (.str ⟨#[c]⟩)
 | _,_,_=>False
theorem AJ{K:Frag}{B:Hp}{vs:List V}{ds:List D}{i:Int}{d:D}(r:RvL K B vs ds)(h:atI ds i=some d):∃v,atI vs i=some v∧Rv K B v d:=by
 unfold atI at h ⊢
 rw [r.len]
 cases q:ixN ds.length i with
 | none=>rw [q] at h; cases h
 | some j=>
  rw [q] at h
  obtain ⟨v,h1,h2⟩:=r.at (i:=j) (d:=d) h
  exact ⟨v,h1,h2⟩
theorem ix{α:Type}{xs:List α}{i:Int}{x:α}(h:atI xs i=some x):x∈xs:=by
 unfold atI at h
 cases q:ixN xs.length i with
 | none=>rw [q] at h; cases h
 | some j=>
  rw [q] at h
  exact List.mem_of_getElem? h
section
variable {X:Cx} {E:XK}
theorem bc{a b:Expr}{ta tb:DTE}{pos:Pos}(ha:DE X E a ta)(hb:DE X E b tb)(hs:PlainIx b:=by exact fun _ _=>rfl):DE X E (.Subscript a b pos) (tO2 (oL ixD) ta tb):=by
 obtain ⟨t1,p1,k1⟩:=ha.ex
 obtain ⟨t2,p2,k2⟩:=hb.ex
 refine ⟨_,pe_ix ((IxR.or ix_list ix_tup).or ix_str) p1 p2 hs,SE.two (SO.of fun B μ m H v u dx dy Q QV M tx ty q k=>?_) k1 k2⟩
 unfold ixD at q
 split at q
 ·obtain ⟨p,vs,rfl,hp,r⟩:=tx
  cases ty
  obtain ⟨d,hd,q⟩:=q
  obtain ⟨z,hz,rz⟩:=AJ r hd
  exact .inl (.inl ⟨p,vs,_,z,rfl,rfl,.inl (.inl hp),hz,SO.pure M k rz q⟩)
 ·obtain ⟨p,vs,rfl,hp,r⟩:=tx
  cases ty
  obtain ⟨d,hd,q⟩:=q
  obtain ⟨z,hz,rz⟩:=AJ r hd
  exact .inl (.inr ⟨p,vs,_,z,rfl,rfl,M.le.tup hp,hz,SO.pure M k rz q⟩)
 ·cases tx with
  | str h1=>
   cases ty
   obtain ⟨hl,c,hc,q⟩:=q
   refine .inr ⟨_,_,c,rfl,rfl,hl,hc,SO.pure M k (.str ?_) q⟩
   refine aX.mpr fun c' h'=>?_
   have e:c'=c:=by simpa using h'
   rw [e]
   exact aX.mp h1 _ (ix hc)
 ·exact q.elim
abbrev DTO:=En→Me→(Option Int→Me→Prop)→QX→Prop
structure DO (X:Cx) (E:XK) (e:Option Expr) (T:DTO):Prop where
 ex:∃t,PO X e t∧∀B μ en m σ H (Q:Option Int→Me→Prop) (Qx:QX) (QV:Option Int→Hp→Prop),Rel X.K B μ en m σ H→ExOf X.K E B μ m H Qx→T en m Q Qx→
  (∀B' μ' m' H' b,Stp B μ m H B' μ' m' H'→Rel X.K B' μ' en m' σ H'→Q b m'→QV b H')→t σ H QV
def Ds:DTO:=fun _ m Q _=>Q none m
def iD:W→(Int→Prop)→Prop
 | .v (.int i),Q=>Q i
 | _,_=>False
def wz(te:DTE):DTO:=fun en m Q Qx=>te en m (fun x m1=>iD x fun i=>Q (some i) m1) Qx
theorem Cn{K:Frag}{B:Hp}{μ:List Addr}{v:V}{x:W}{Q:Int→Prop}(r:RW K B μ v x)(q:iD x Q):∃i,v=.int i∧Q i:=by
 unfold iD at q
 split at q
 ·cases (show Rv K B v (.int _) from r)
  exact ⟨_,rfl,q⟩
 ·exact q.elim
theorem jz:DO X E none Ds:=⟨_,po_none,fun B μ en m σ H Q Qx QV R hx T k=>k B μ m H none .refl R T⟩
theorem aZ{e:Expr}{te:DTE}(h:DE X E e te):DO X E (some e) (wz te):=by
 obtain ⟨t1,p1,k1⟩:=h.ex
 refine ⟨_,po_some p1,fun B μ en m σ H Q Qx QV R hx T k=>?_⟩
 refine k1 B μ en m σ H _ Qx _ R hx T fun B1 μ1 m1 H1 x v s1 R1 r q=>?_
 obtain ⟨i,rfl,q⟩:=Cn r q
 exact ⟨i,rfl,k B1 μ1 m1 H1 _ s1 R1 q⟩
def kZ(xs:List D)(lo hi:Option Int):List D:=(xs.drop (HT.sIx xs.length 0 lo)).take (HT.sIx xs.length xs.length hi - HT.sIx xs.length 0 lo)
theorem AK{K:Frag}{B:Hp}{vs:List V}{ds:List D}(r:RvL K B vs ds)(lo hi:Option Int):RvL K B (cutV vs lo hi) (kZ ds lo hi):=by
 unfold cutV kZ
 rw [r.len]
 exact (r.drop _).take _
def slD(lo hi:Option Int):D→(D→Prop)→Prop
 | .lst ds,Q=>Q (.lst (kZ ds lo hi))
 | .tup ds,Q=>Q (.tup (kZ ds lo hi))
 | .str x,Q=>x.length≤sizeLine∧Q (.str (Txt.slice x lo hi))
 | _,_=>False
theorem u0{x:Str}{lo hi:Option Int}(h:okS x=true):okS (Txt.slice x lo hi)=true:=by
 rw [←C8.cutS_slice]
 refine aX.mpr fun c hc=>aX.mp h c ?_
 unfold cutS at hc
 simp only at hc
 exact List.mem_of_mem_drop (List.mem_of_mem_take hc)
def Be(te:DTE)(tl th:DTO):DTE:=fun en m Q Qx=>te en m (fun x m1=>tl en m1 (fun l m2=>th en m2 (fun u m3=>look x m3 fun d=>slD l u d fun r=>Q (.v r) m3) Qx) Qx) Qx
theorem cP{e:Expr}{lo hi:Option Expr}{te:DTE}{tl th:DTO}{p2 pos:Pos}(he:DE X E e te)(hl:DO X E lo tl)(hh:DO X E hi th):DE X E (.Subscript e (.Slice lo hi none p2) pos) (Be te tl th):=by
 obtain ⟨t1,p1,k1⟩:=he.ex
 obtain ⟨t2,p2,k2⟩:=hl.ex
 obtain ⟨t3,p3,k3⟩:=hh.ex
 refine ⟨_,pe_slice ((SlR.or sl_list sl_tupA).or C8.sl_txt) p1 p2 p3,fun B μ en m σ H Q Qx QV R hx T k=>?_⟩
 refine k1 B μ en m σ H _ Qx _ R hx T fun B1 μ1 m1 H1 x v s1 R1 r T1=>?_
 refine k2 B1 μ1 en m1 σ H1 _ Qx _ R1 (hx.step s1 R1.mem R.mem.le) T1 fun B2 μ2 m2 H2 l s2 R2 T2=>?_
 have s12:=s1.trans R1.mem s2 R.mem.le
 refine k3 B2 μ2 en m2 σ H2 _ Qx _ R2 (hx.step s12 R2.mem R.mem.le) T2 fun B3 μ3 m3 H3 u s3 R3 T3=>?_
 have s13:=s12.trans R2.mem s3 R.mem.le
 obtain ⟨d,tx,q⟩:=eS R3.mem ((r.to s2.same s2.pre).to s3.same s3.pre) T3
 have fin:∀B' H' d z,Stp B3 μ3 m3 H3 B' μ3 m3 H'→MemOk X.K B' μ3 m3 H'→Rv X.K B' z d→Q (.v d) m3→QV z H':=fun B' H' d z s' M' rz q=>by
  have st:=s13.trans R3.mem s' R.mem.le
  exact k B' μ3 m3 H' (.v d) z st (R.stp st M') rz q
 cases d with
 | lst ds=>
  obtain ⟨p,vs,rfl,hp,rl⟩:=tx
  exact .inl (.inl ⟨p,vs,rfl,.inl (.inl hp),fun p np=>SO.new (Q:=fun d=>Q (.v d) m3) R3.mem fin np (iw R3.mem np (AK rl l u)) q⟩)
 | tup ds=>
  obtain ⟨p,vs,rfl,hp,rl⟩:=tx
  refine .inl (.inr ⟨p,vs,rfl,R3.mem.le.tup hp,fun hw=>?_,fun _ p np=>SO.new (Q:=fun d=>Q (.v d) m3) R3.mem fin np (oS R3.mem np (AK rl l u)) q⟩)
  have e:kZ ds l u=ds:=by
   unfold kZ
   rw [←rl.len,hw.1,hw.2,List.drop_zero,Nat.sub_zero,List.take_of_length_le (by rw [rl.len]; exact Nat.le_refl _)]
  have q:Q (.v (.tup (kZ ds l u))) m3:=q
  rw [e] at q
  exact SO.pure (Q:=fun d=>Q (.v d) m3) R3.mem fin (.tup hp rl) q
 | str z=>
  cases tx with
  | str h1=>exact .inr ⟨_,rfl,q.1,SO.pure (Q:=fun d=>Q (.v d) m3) R3.mem fin (.str (u0 h1)) q.2⟩
 | _=>exact q.elim
end
abbrev DCa:=List W→Me→(D→Prop)→Prop
def SC(X:Cx)(r:List V→Hp→VK→Prop)(o:DCa):Prop:=∀B μ m H xs vs (Q:D→Prop) (QV:VK),MemOk X.K B μ m H→RWs X.K B μ vs xs→o xs m Q→
 (∀B' H' d z,Stp B μ m H B' μ m H'→MemOk X.K B' μ m H'→Rv X.K B' z d→Q d→QV z H')→r vs H QV
def tCa(o:DCa)(ta:DTA):DTE:=fun en m Q Qx=>ta en m (fun xs m1=>o xs m1 fun d=>Q (.v d) m1) Qx
section
variable {X:Cx} {E:XK} {x:Str} {e:Expr} {es:List Expr} {p pos:Pos} {ta:DTA} {o:DCa} {r:List V→Hp→VK→Prop}
theorem SA.ca{t:TA}(h:SA X E t ta)(so:SC X r o):SE X E (fun σ H Q=>t σ H fun xs H1=>r xs H1 Q) (tCa o ta):=by
 intro B μ en m σ H Q Qx QV R hx T k
 refine h B μ en m σ H _ Qx _ R hx T fun B1 μ1 m1 H1 xs vs s1 R1 r1 q=>?_
 refine so B1 μ1 m1 H1 xs vs _ _ R1.mem r1 q fun B2 H2 d z s2 M2 rz q2=>?_
 have st:=s1.trans R1.mem s2 R.mem.le
 exact k B2 μ1 m1 H2 (.v d) z st (R.stp st M2) rz q2
theorem zf{id:String}(hc:CallR X (.builtin id) r)(so:SC X r o)(hm:X.mg x=none)(hv:bootBuiltins x=some (.builtin id))(ha:DA X E (e::es) ta)(hg:Gl X x:=by rfl)(hn:x≠"__name__":=by decide)(hdb:(x == ("__debug__":Str))=false:=by decide)
  (he:starEach (e::es) X.env=(false,eval e X.env)::starEach es X.env:=by rfl) (hpl:(backTo pos (starEach es X.env)).any (·.1)=false:=by rfl):
  DE X E (.Call (.Name x p) (e::es) [] pos) (tCa o ta):=by
 obtain ⟨t1,p1,k1⟩:=ha.ex
 exact ⟨_,pe_callB hc hg hm hv p1 hn hdb he hpl,k1.ca so⟩
theorem tw{T:String}(hc:CallR X (.type T) r)(so:SC X r o)(hm:X.mg x=none)(hv:bootBuiltins x=some (.type T))(ha:DA X E (e::es) ta)(hg:Gl X x:=by rfl)(hn:x≠"__name__":=by decide)(hdb:(x == ("__debug__":Str))=false:=by decide)
  (he:starEach (e::es) X.env=(false,eval e X.env)::starEach es X.env:=by rfl) (hpl:(backTo pos (starEach es X.env)).any (·.1)=false:=by rfl):
  DE X E (.Call (.Name x p) (e::es) [] pos) (tCa o ta):=by
 obtain ⟨t1,p1,k1⟩:=ha.ex
 exact ⟨_,pe_callTy hc hg hm hv p1 hn hdb he hpl,k1.ca so⟩
theorem CallR.or{f:Value}{r r':List V→Hp→VK→Prop}(h:CallR X f r)(h':CallR X f r'):CallR X f (fun xs H Q=>r xs H Q∨r' xs H Q):=by
 intro pins s σ H xs us Q I rx q
 rcases q with q | q
 ·exact h pins s σ H xs us Q I rx q
 ·exact h' pins s σ H xs us Q I rx q
def c1(f:D→(D→Prop)→Prop):DCa:=fun xs m Q=>match xs with
 | [x]=>look x m fun d=>f d Q
 | _=>False
theorem SC.of1{f:D→(D→Prop)→Prop} (h:∀B μ m H v d (Q:D→Prop) (QV:VK),MemOk X.K B μ m H→Top X.K B H v d→f d Q→
  (∀B' H' d z,Stp B μ m H B' μ m H'→MemOk X.K B' μ m H'→Rv X.K B' z d→Q d→QV z H')→r [v] H QV):SC X r (c1 f):=by
 intro B μ m H xs vs Q QV M rs q k
 cases rs with
 | nil=>exact q.elim
 | cons a t=>
  cases t with
  | cons _ _=>exact q.elim
  | nil=>
   obtain ⟨d,td,q⟩:=eS M a q
   exact h B μ m H _ d Q QV M td q k
def c2(f:F2):DCa:=fun xs m Q=>match xs with
 | [x,y]=>look x m fun d=>look y m fun e=>f d e Q
 | _=>False
theorem SC.of2{f:F2} (h:∀B μ m H v u d e (Q:D→Prop) (QV:VK),MemOk X.K B μ m H→Top X.K B H v d→Top X.K B H u e→f d e Q→
  (∀B' H' d z,Stp B μ m H B' μ m H'→MemOk X.K B' μ m H'→Rv X.K B' z d→Q d→QV z H')→r [v,u] H QV):SC X r (c2 f):=by
 intro B μ m H xs vs Q QV M rs q k
 cases rs with
 | nil=>exact q.elim
 | cons a t=>
  cases t with
  | nil=>exact q.elim
  | cons b t=>
   cases t with
   | cons _ _=>exact q.elim
   | nil=>
    obtain ⟨d,td,q⟩:=eS M a q
    obtain ⟨e,te,q⟩:=eS M b q
    exact h B μ m H _ _ d e Q QV M td te q k
def Co:D→(D→Prop)→Prop
 | .lst ds,Q=>Q (.int ds.length)
 | .tup ds,Q=>Q (.int ds.length)
 | .str x,Q=>x.length≤sizeLine∧Q (.int x.length)
 | .dic ds,Q=>Q (.int ds.length)
 | _,_=>False
theorem u4:CallR X (.builtin "len") (fun xs H Q=>∃d kvs,xs=[.ref d]∧Rd H d (.dK kvs)∧Q (.int kvs.length) H):=by
 intro pins s σ H xs us Q I r h
 obtain ⟨d,kvs,rfl,hd,q⟩:=h
 obtain ⟨u,rfl,rx⟩:=vals1 r
 cases rx
 obtain ⟨z,dd,vs,rel,hD⟩:=(show ObjOk X.prog X.w H s.heap d (.dK kvs) from hd.ok I.hok)
 have hl:=line63
 have hs:sizeLine=16777216:=sizeLine_eq
 have rl:=rel.length
 refine call_len_dict dd hD (by omega) ?_
 exact ⟨.int _,H,I.tok _,⟨_,by rw [←rl]⟩,q⟩
theorem Cp:SC X (fun xs H Q=>(∃p ys,xs=[.ref p]∧(SqL X.K H p ys∨SqT X.K H p ys)∧Q (.int ys.length) H)∨(∃z,xs=[.str z]∧z.length≤sizeLine∧Q (.int z.length) H)∨(∃d kvs,xs=[.ref d]∧Rd H d (.dK kvs)∧Q (.int kvs.length) H)) (c1 Co):=SC.of1 fun B μ m H v d Q QV M td q k=>by
 cases d with
 | lst ds=>
  obtain ⟨p,vs,rfl,hp,r⟩:=td
  exact .inl ⟨p,vs,rfl,.inl (.inl (.inl hp)),SO.pure M k (.int _) (by rw [r.len]; exact q)⟩
 | tup ds=>
  obtain ⟨p,vs,rfl,hp,r⟩:=td
  exact .inl ⟨p,vs,rfl,.inr (M.le.tup hp),SO.pure M k (.int _) (by rw [r.len]; exact q)⟩
 | str x=>
  cases td
  exact .inr (.inl ⟨_,rfl,q.1,SO.pure M k (.int _) q.2⟩)
 | dic ds=>
  obtain ⟨p,vs,rfl,hp,r⟩:=td
  exact .inr (.inr ⟨p,vs,rfl,hp,SO.pure M k (.int _) (by rw [r.len]; exact q)⟩)
 | _=>exact q.elim
theorem Bf:CallR X (.builtin "len") (fun xs H Q=>(∃p ys,xs=[.ref p]∧(SqL X.K H p ys∨SqT X.K H p ys)∧Q (.int ys.length) H)∨(∃z,xs=[.str z]∧z.length≤sizeLine∧Q (.int z.length) H)∨(∃d kvs,xs=[.ref d]∧Rd H d (.dK kvs)∧Q (.int kvs.length) H)):=call_len_seq.or (call_len_str.or u4)
theorem dm(hm:X.mg "len"=none)(ha:DA X E [e] ta)(hg:Gl X "len":=by rfl)(he:starEach [e] X.env=(false,eval e X.env)::starEach [] X.env:=by rfl)(hpl:(backTo pos (starEach [] X.env)).any (·.1)=false:=by rfl):DE X E (.Call (.Name "len" p) [e] [] pos) (tCa (c1 Co) ta):=
 zf Bf Cp hm PySem.boot_len ha hg (by decide) (by decide) he hpl
def Bh:D→(D→Prop)→Prop
 | .int i,Q=>Q (.int i)
 | .bl b,Q=>Q (.int (if b then 1 else 0))
 | .str x,Q=>∃n,PySem.intText? x=some n∧x.length≤640∧Q (.int n)
 | _,_=>False
theorem Cq:SC X (fun xs H Q=>((∃i,xs=[.int i]∧Q (.int i) H)∨∃k,xs=[.bl k]∧Q (.int (if k then 1 else 0)) H)∨(∃a n,xs=[.str a]∧PySem.intText? a=some n∧a.length≤640∧Q (.int n) H)) (c1 Bh):=SC.of1 fun B μ m H v d Q QV M td q k=>by
 cases d with
 | int i=>cases td; exact .inl (.inl ⟨_,rfl,SO.pure M k (.int _) q⟩)
 | bl i=>cases td; exact .inl (.inr ⟨_,rfl,SO.pure M k (.int _) q⟩)
 | str x=>
  cases td
  obtain ⟨n,h1,h2,q⟩:=q
  exact .inr ⟨_,n,rfl,h1,h2,SO.pure M k (.int _) q⟩
 | _=>exact q.elim
theorem tz(hm:X.mg "int"=none)(ha:DA X E [e] ta)(hg:Gl X "int":=by rfl)(he:starEach [e] X.env=(false,eval e X.env)::starEach [] X.env:=by rfl)(hpl:(backTo pos (starEach [] X.env)).any (·.1)=false:=by rfl):DE X E (.Call (.Name "int" p) [e] [] pos) (tCa (c1 Bh) ta):=
 tw (call_int1.or call_int_str) Cq hm (by decide+kernel) ha hg (by decide) (by decide) he hpl
theorem zg(c:Char):c.toNat<0x110000:=by
 have h:=c.valid
 unfold UInt32.isValidChar Nat.isValidChar at h
 show c.val.toNat<0x110000
 omega
theorem oW(z:String):okS (Str.ofString z)=true:=by
 rw [Str.ofString_eq_toList]
 refine aX.mpr fun c hc=>?_
 simp only [List.mem_map] at hc
 obtain ⟨d,_,rfl⟩:=hc
 exact zg d
theorem tB(i:Int):okS (toString i:Str)=true:=oW _
def Cr:D→(D→Prop)→Prop
 | .int i,Q=>i.natAbs.log2<1920∧Q (.str (toString i))
 | .str x,Q=>Q (.str x)
 | _,_=>False
theorem Cs:SC X (fun xs H Q=>(∃i,xs=[.int i]∧i.natAbs.log2<1920∧Q (.str (toString i)) H)∨(∃a,xs=[.str a]∧Q (.str a) H)) (c1 Cr):=SC.of1 fun B μ m H v d Q QV M td q k=>by
 cases d with
 | int i=>cases td; exact .inl ⟨_,rfl,q.1,SO.pure M k (.str (tB i)) q.2⟩
 | str i=>cases td with
  | str h=>exact .inr ⟨_,rfl,SO.pure M k (.str h) q⟩
 | _=>exact q.elim
theorem lB(hm:X.mg "str"=none)(ha:DA X E [e] ta)(hg:Gl X "str":=by rfl)(he:starEach [e] X.env=(false,eval e X.env)::starEach [] X.env:=by rfl)(hpl:(backTo pos (starEach [] X.env)).any (·.1)=false:=by rfl):DE X E (.Call (.Name "str" p) [e] [] pos) (tCa (c1 Cr) ta):=
 tw (call_str_int.or SkE.call_str_str) Cs hm (by decide+kernel) ha hg (by decide) (by decide) he hpl
def Dt:D→(D→Prop)→Prop
 | .int i,Q=>Q (.int (i.natAbs:Nat))
 | _,_=>False
theorem mj(hm:X.mg "abs"=none)(ha:DA X E [e] ta)(hg:Gl X "abs":=by rfl)(he:starEach [e] X.env=(false,eval e X.env)::starEach [] X.env:=by rfl)(hpl:(backTo pos (starEach [] X.env)).any (·.1)=false:=by rfl):DE X E (.Call (.Name "abs" p) [e] [] pos) (tCa (c1 Dt) ta):=
 zf call_abs (SC.of1 fun B μ m H v d Q QV M td q k=>by
  cases d with
  | int i=>
   cases td
   have e:(if i<0 then -i else i)=((i.natAbs:Nat):Int):=by split <;> omega
   exact ⟨_,rfl,by rw [e]; exact SO.pure M k (.int _) q⟩
  | _=>exact q.elim) hm (by decide+kernel) ha hg (by decide) (by decide) he hpl
def Ct:D→(D→Prop)→Prop
 | .lst ds,Q=>Q (.lst ds)
 | .tup ds,Q=>Q (.lst ds)
 | _,_=>False
theorem Bi(hm:X.mg "list"=none)(ha:DA X E [e] ta)(hg:Gl X "list":=by rfl)(he:starEach [e] X.env=(false,eval e X.env)::starEach [] X.env:=by rfl)(hpl:(backTo pos (starEach [] X.env)).any (·.1)=false:=by rfl):DE X E (.Call (.Name "list" p) [e] [] pos) (tCa (c1 Ct) ta):=
 tw call_list_of (SC.of1 fun B μ m H v d Q QV M td q k=>by
  cases d with
  | lst ds=>
   obtain ⟨p,vs,rfl,hp,r⟩:=td
   exact ⟨p,vs,rfl,.inl (.inl (.inl hp)),fun l nl=>SO.new M k nl (iw M nl r) q⟩
  | tup ds=>
   obtain ⟨p,vs,rfl,hp,r⟩:=td
   exact ⟨p,vs,rfl,.inr (M.le.tup hp),fun l nl=>SO.new M k nl (iw M nl r) q⟩
  | _=>exact q.elim) hm (by decide+kernel) ha hg (by decide) (by decide) he hpl
def wA:D→(D→Prop)→Prop
 | .lst ds,Q=>Q (.tup ds)
 | .tup ds,Q=>Q (.tup ds)
 | _,_=>False
theorem oX(hm:X.mg "tuple"=none)(ha:DA X E [e] ta)(hg:Gl X "tuple":=by rfl)(he:starEach [e] X.env=(false,eval e X.env)::starEach [] X.env:=by rfl)(hpl:(backTo pos (starEach [] X.env)).any (·.1)=false:=by rfl):DE X E (.Call (.Name "tuple" p) [e] [] pos) (tCa (c1 wA) ta):=
 tw call_tuple_of (SC.of1 fun B μ m H v d Q QV M td q k=>by
  cases d with
  | lst ds=>
   obtain ⟨p,vs,rfl,hp,r⟩:=td
   exact ⟨p,vs,rfl,.inl ⟨.inl (.inl hp),fun l nl=>SO.new M k nl (oS M nl r) q⟩⟩
  | tup ds=>
   obtain ⟨p,vs,rfl,hp,r⟩:=td
   exact ⟨p,vs,rfl,.inr ⟨M.le.tup hp,SO.pure M k (.tup hp r) q⟩⟩
  | _=>exact q.elim) hm (by decide+kernel) ha hg (by decide) (by decide) he hpl
def ql:List D→(List Bool→Prop)→Prop
 | [],Q=>Q []
 | .bl b::r,Q=>ql r fun bs=>Q (b::bs)
 | _::_,_=>False
theorem qm{K:Frag}{B:Hp}:∀{ds:List D} {vs:List V} {Q:List Bool→Prop},RvL K B vs ds→ql ds Q→∃bs,vs=bs.map V.bl∧Q bs
 | [],_,_,.nil,q=>⟨[],rfl,q⟩
 | .bl b::r,_,Q,.cons a t,q=>by
  cases a
  obtain ⟨bs,rfl,k⟩:=qm (Q:=fun bs=>Q (b::bs)) t q
  exact ⟨b::bs,rfl,k⟩
 | .non::_,_,_,_,q=>q.elim
 | .int _::_,_,_,_,q=>q.elim
 | .str _::_,_,_,_,q=>q.elim
 | .ty _::_,_,_,_,q=>q.elim
 | .fn _::_,_,_,_,q=>q.elim
 | .tup _::_,_,_,_,q=>q.elim
 | .lst _::_,_,_,_,q=>q.elim
 | .dic _::_,_,_,_,q=>q.elim
 | .obj _ _::_,_,_,_,q=>q.elim
 | .exc _ _::_,_,_,_,q=>q.elim
 | .lam _ _ _::_,_,_,_,q=>q.elim
def blL(f:List Bool→Bool):D→(D→Prop)→Prop
 | .lst ds,Q=>ql ds fun bs=>Q (.bl (f bs))
 | _,_=>False
theorem AL(hc:X.calm=true)(hm:X.mg "all"=none)(ha:DA X E [e] ta)(hg:Gl X "all":=by rfl)(he:starEach [e] X.env=(false,eval e X.env)::starEach [] X.env:=by rfl)(hpl:(backTo pos (starEach [] X.env)).any (·.1)=false:=by rfl):DE X E (.Call (.Name "all" p) [e] [] pos) (tCa (c1 (blL fun bs=>bs.all id)) ta):=
 zf (cr_all hc) (SC.of1 fun B μ m H v d Q QV M td q k=>by
  cases d with
  | lst ds=>
   obtain ⟨p,vs,rfl,hp,r⟩:=td
   obtain ⟨bs,rfl,q⟩:=qm r q
   exact ⟨p,bs,rfl,.inl (.inl hp),SO.pure M k (.bl _) q⟩
  | _=>exact q.elim) hm (by decide+kernel) ha hg (by decide) (by decide) he hpl
end
section
variable {X:Cx} {E:XK} {tg:Expr}
def chD(x:Str):List D:=x.cps.toList.map fun c=>.str ⟨#[c]⟩
theorem wB{K:Frag}{B0:Hp}{J:It}{its:List D}{f:Nat→V}(w:Walk J its.length (fun _=>True) (YFn f))(h:∀(i:Nat) (d:D),its[i]? =some d→Rv K B0 (f i) d):iP K B0 J its:=
 ⟨_,_,w,fun _ _ _ _ _ _=>True.intro,fun i B μ mem H x H' hi s M ⟨y1,y2⟩=>by
  subst y1 y2
  exact ⟨B,its[i],List.getElem?_eq_getElem hi,.refl,M,(h i _ (List.getElem?_eq_getElem hi)).to s⟩⟩
theorem u8{K:Frag}{B0:Hp}{a:Addr}{vs:List V}{ds:List D}(h:B0 a=some (.lst vs))(r:RvL K B0 vs ds):iP K B0 (Itl K a) ds:=by
 refine ⟨fun H=>SqL K H a vs,YAt vs,by rw [←r.len]; exact walk_list,fun B μ mem H s M=>.inl (.inl (M.le _ _ (s _ _ h))),fun i B μ mem H x H' hi s M ⟨y1,y2⟩=>?_⟩
 subst y1
 obtain ⟨d,hd,rd⟩:=r.at' y2
 exact ⟨B,d,hd,.refl,M,rd.to s⟩
theorem u9{K:Frag}{B0:Hp}{a:Addr}{vs:List V}{ds:List D}(h:TqT K B0 a vs)(r:RvL K B0 vs ds):iP K B0 (Itt K a) ds:=by
 refine ⟨fun H=>SqT K H a vs,YAt vs,by rw [←r.len]; exact walk_tup,fun B μ mem H s M=>M.le.tup (TqT.to s h),fun i B μ mem H x H' hi s M ⟨y1,y2⟩=>?_⟩
 subst y1
 obtain ⟨d,hd,rd⟩:=r.at' y2
 exact ⟨B,d,hd,.refl,M,rd.to s⟩
theorem va{K:Frag}{B0:Hp}{x:Str}(h:okS x=true):iP K B0 (Its x) (chD x):=by
 refine ⟨fun _=>True,fun i H v H'=>H'=H∧∃c,x.cps[i]? =some c∧v=.str ⟨#[c]⟩,by unfold chD; rw [List.length_map,Array.length_toList]; exact walk_str,fun _ _ _ _ _ _=>True.intro,fun i B μ mem H y H' hi s M ⟨y1,c,hc,y2⟩=>?_⟩
 subst y1 y2
 rw [←Array.getElem?_toList] at hc
 refine ⟨B,.str ⟨#[c]⟩,?_,.refl,M,.str (aX.mpr fun c' hc'=>?_)⟩
 ·unfold chD
  rw [List.getElem?_map,hc]
  rfl
 ·have e:c'=c:=by simpa using hc'
  rw [e]
  exact aX.mp h _ (List.mem_of_getElem? hc)
def kD:Key→D
 | .inl i=>.int i
 | .inr x=>.str x
def Du(K:Frag)(te:TE):TI:=fun σ H R=>te σ H fun x H1=>(∃a xs,x=.ref a∧SqL K H1 a xs∧R (Itl K a) H1)∨(∃a xs,x=.ref a∧SqT K H1 a xs∧R (Itt K a) H1)∨(∃z,x=.str z∧R (Its z) H1)∨
 ∃d o kvs,x=.ref d∧H1 d=some (.frz o (.dK kvs))∧R (Itk d o kvs) H1
theorem Bj{e:Expr}{te:TE}(he:PE X e te):PI X tg e (Du X.K te):=by
 refine ⟨fun pins s σ H R I h=>?_⟩
 refine thn (he.run pins s σ H _ I h) fun v s1 ⟨x,H1,I1,r1,q1⟩=>?_
 rcases q1 with ⟨a,xs,rfl,hq,q⟩ | ⟨a,xs,rfl,hq,q⟩ | ⟨z,rfl,q⟩ | ⟨d,o,kvs,rfl,hd,q⟩
 ·cases r1
  obtain ⟨its,rv,p,hz⟩:=I1.list hq
  exact wpAny_pyIter_list p.isList (pi_one (tk:=s1.toks) I1 _ (turn_list a _) ⟨_,Heap.get?_push_size _ rfl,rfl,rfl⟩ q)
 ·cases r1
  obtain ⟨its,rv,p,hz⟩:=I1.tuple hq
  exact wpAny_pyIter_tuple (show s1.heap.IsTuple a its.toArray from p) (pi_one (tk:=s1.toks) I1 _ (turn_tuple a _) ⟨_,Heap.get?_push_size _ rfl,rfl,rfl⟩ q)
 ·obtain ⟨t,rfl⟩:=r1
  cases ha:z.cps.all (·<128)
  ·exact wpAny_pyIter_wide ha (pi_one (tk:=s1.toks) I1 _ (turn_str _ z t "str_iterator" (.inr rfl)) ⟨_,Heap.get?_push_size _ rfl,rfl,rfl⟩ q)
  ·exact wpAny_pyIter_ascii ha (pi_one (tk:=s1.toks) I1 _ (turn_str _ z t "str_ascii_iterator" (.inl rfl)) ⟨_,Heap.get?_push_size _ rfl,rfl,rfl⟩ q)
 ·cases r1
  obtain ⟨hs,hgd,hx,es,ep,vs,hdt,hsz,kv,hm⟩:=I1.frzK hd
  refine iter_keys hs hgd hx hdt (pi_one (tk:=s1.toks) I1 _ (turn_keys _ hdt) ⟨_,Heap.get?_push_size _ rfl,rfl,?_⟩ q)
  rw [hsz] <;> rfl
def Cu:D→(List D→Prop)→Prop
 | .lst ds,Q=>Q ds
 | .tup ds,Q=>Q ds
 | .str x,Q=>Q (chD x)
 | .dic kvs,Q=>Q (kvs.map fun p=>kD p.1)
 | _,_=>False
def tIt(te:DTE):DTI:=fun en m Q Qx=>te en m (fun x m1=>oD x fun d=>Cu d fun its=>Q its m1) Qx
theorem Cv{K:Frag}{B:Hp}{k:Key}(h:tj k):Rv K B (kV k) (kD k):=by
 cases k with
 | inl i=>exact .int i
 | inr x=>exact .str h
theorem RvK.at'{K:Frag}{H:Hp}:∀{vs:List (Key×V)} {ds:List (Key×D)} {i:Nat} {k:Key} {v:V},RvK K H vs ds→vs[i]? =some (k,v)→∃d,ds[i]? =some (k,d)∧Rv K H v d∧tj k
 | _,_,_,_,_,.nil,e=>by simp at e
 | _,_,0,k,v,.cons (d:=d) ko h _,e=>by
  simp at e
  obtain ⟨rfl,rfl⟩:=e
  exact ⟨d,rfl,h,ko⟩
 | _,_,i+1,k,v,.cons _ _ t,e=>by
  obtain ⟨d,h1,h2⟩:=RvK.at' (i:=i) (k:=k) (v:=v) t (by simpa using e)
  exact ⟨d,by simpa using h1,h2⟩
theorem r5{K:Frag}{B0:Hp}{d:Addr}{o:Obj}{vs:List (Key×V)}{ds:List (Key×D)}(h:B0 d=some (.frz o (.dK vs)))(r:RvK K B0 vs ds):iP K B0 (Itk d o vs) (ds.map fun p=>kD p.1):=by
 refine ⟨fun H=>H d=some (.frz o (.dK vs)),fun i H x H'=>H'=H∧∃k v,vs[i]? =some (k,v)∧x=kV k,by rw [List.length_map,←r.len]; exact walk_keys,fun B μ mem H s M=>M.le _ _ (s _ _ h),fun i B μ mem H x H' hi s M ⟨y1,k,v,y2,y3⟩=>?_⟩
 subst y1 y3
 obtain ⟨dd,hd,_,ko⟩:=r.at' y2
 exact ⟨B,kD k,by rw [List.getElem?_map,hd]; rfl,.refl,M,Cv ko⟩
theorem b8{e:Expr}{te:DTE}(he:DE X E e te):DI X E tg e (tIt te):=by
 obtain ⟨t1,p1,k1⟩:=he.ex
 refine ⟨_,Bj p1,fun B μ en m σ H Q Qx QV R hx T k=>?_⟩
 refine k1 B μ en m σ H _ Qx _ R hx T fun B1 μ1 m1 H1 x v s1 R1 r q=>?_
 cases x with
 | loc n=>exact q.elim
 | v d=>
  cases r with
  | lst h rl=>exact .inl ⟨_,_,rfl,.inl (.inl (R1.mem.le _ _ h)),k B1 μ1 m1 H1 _ _ s1 R1 (u8 h rl) q⟩
  | tup h rl=>exact .inr (.inl ⟨_,_,rfl,R1.mem.le.tup h,k B1 μ1 m1 H1 _ _ s1 R1 (u9 h rl) q⟩)
  | str h=>exact .inr (.inr (.inl ⟨_,rfl,k B1 μ1 m1 H1 _ _ s1 R1 (va h) q⟩))
  | dic h rl=>exact .inr (.inr (.inr ⟨_,_,_,rfl,R1.mem.le _ _ h,k B1 μ1 m1 H1 _ _ s1 R1 (r5 h rl) q⟩))
  | non=>exact q.elim
  | bl _=>exact q.elim
  | int _=>exact q.elim
  | ty _=>exact q.elim
  | fn _=>exact q.elim
  | obj _ _=>exact q.elim
  | exc _ _ _=>exact q.elim
  | lam _=>exact q.elim
def nz(lo:Int)(n:Nat):List D:=(List.range n).map fun i=>.int (lo+(i:Nat))
theorem qp{K:Frag}{B0:Hp}{lo:Int}{n:Nat}:iP K B0 (Itr lo n) (nz lo n):=by
 refine wB (f:=fun i=>.int (lo+i)) (by unfold nz; rw [List.length_map,List.length_range]; exact walk_range) fun i d h=>?_
 unfold nz at h
 rw [List.getElem?_map] at h
 cases q:(List.range n)[i]? with
 | none=>rw [q] at h; cases h
 | some j=>
  rw [q] at h
  have e:i=j:=by
   have z:=List.getElem?_range (n:=n) (i:=i) (by
    have:=(List.getElem?_eq_some_iff.mp q).1
    simpa using this)
   rw [z] at q
   exact Option.some.inj q
  subst e
  cases h
  exact .int _
def Cw:List W→(List D→Prop)→Prop
 | [.v (.int j)],Q=> -(2 ^ 62)≤j∧j<2 ^ 62∧Q (nz 0 j.toNat)
 | _,_=>False
def tRg(f:List W→(List D→Prop)→Prop)(ta:DTA):DTI:=fun en m Q Qx=>ta en m (fun xs m1=>f xs fun its=>Q its m1) Qx
theorem fJ{a:Expr}{ta:DTA}{p pos:Pos}(hm:X.mg "range"=none)(ha:DA X E [a] ta)(hg:Gl X "range":=by rfl)(hs:starEach [a] X.env=[(false,eval a X.env)]:=by rfl):DI X E tg (.Call (.Name "range" p) [a] [] pos) (tRg Cw ta):=by
 obtain ⟨t1,p1,k1⟩:=ha.ex
 refine ⟨_,pi_range1 hg hm p1 hs,fun B μ en m σ H Q Qx QV R hx T k=>?_⟩
 refine k1 B μ en m σ H _ Qx _ R hx T fun B1 μ1 m1 H1 xs vs s1 R1 r q=>?_
 unfold Cw at q
 split at q
 ·cases r with
  | cons a t=>
   cases t
   cases a
   exact ⟨_,rfl,q.1,q.2.1,k B1 μ1 m1 H1 _ _ s1 R1 qp q.2.2⟩
 ·exact q.elim
def qr:W→Me→Prop
 | .v (.str _),_=>True
 | _,_=>False
theorem jA:STy X "str" qr:=by
 intro B μ m H x v M r q
 unfold qr at q
 split at q
 ·cases (show Rv X.K B v (.str _) from r)
  rfl
 ·exact q.elim
def m1(f:Str→D→(D→Prop)→Prop):DMt:=fun x xs m Q=>match x,xs with
 | .v (.str a),[y]=>look y m fun d=>f a d fun r=>Q r m
 | _,_=>False
theorem SM.of1{r:V→List V→Hp→VK→Prop}{f:Str→D→(D→Prop)→Prop} (h:∀B μ m H a v d (Q:D→Prop) (QV:VK),MemOk X.K B μ m H→okS a=true→Top X.K B H v d→f a d Q→
  (∀B' H' d z,Stp B μ m H B' μ m H'→MemOk X.K B' μ m H'→Rv X.K B' z d→Q d→QV z H')→r (.str a) [v] H QV):SM X r (m1 f):=by
 intro B μ m H x xs v vs Q QV M rx rs q k
 unfold m1 at q
 split at q
 ·cases (show Rv X.K B v (.str _) from rx) with
  | str ho=>
   cases rs with
   | cons a t=>
    cases t
    obtain ⟨d,td,q⟩:=eS M a q
    exact h B μ m H _ _ d (fun r=>Q r m) QV M ho td q fun B' H' d z s M' rz q'=>k B' m H' d z s M' rz q'
 ·exact q.elim
def iR:List D→(List Str→Prop)→Prop
 | [],Q=>Q []
 | .str b::r,Q=>iR r fun bs=>Q (b::bs)
 | _::_,_=>False
theorem qs{K:Frag}{B:Hp}:∀{ds:List D} {vs:List V} {Q:List Str→Prop},RvL K B vs ds→iR ds Q→∃bs,vs=bs.map V.str∧(∀b∈bs,okS b=true)∧Q bs
 | [],_,_,.nil,q=>⟨[],rfl,by simp,q⟩
 | .str b::r,_,Q,.cons a t,q=>by
  cases a with
  | str hb=>
   obtain ⟨bs,rfl,ho,k⟩:=qs (Q:=fun bs=>Q (b::bs)) t q
   exact ⟨b::bs,rfl,by simp [hb,ho]; exact ho,k⟩
 | .non::_,_,_,_,q=>q.elim
 | .int _::_,_,_,_,q=>q.elim
 | .bl _::_,_,_,_,q=>q.elim
 | .ty _::_,_,_,_,q=>q.elim
 | .fn _::_,_,_,_,q=>q.elim
 | .tup _::_,_,_,_,q=>q.elim
 | .lst _::_,_,_,_,q=>q.elim
 | .dic _::_,_,_,_,q=>q.elim
 | .obj _ _::_,_,_,_,q=>q.elim
 | .exc _ _::_,_,_,_,q=>q.elim
 | .lam _ _ _::_,_,_,_,q=>q.elim
theorem kd:∀(sep:Str) (rest:List Str) (acc:Array Nat),(rest.foldl (fun acc p=>acc++sep.cps++p.cps) acc).toList=acc.toList++rest.flatMap (fun p=>sep.cps.toList++p.cps.toList)
 | _,[],acc=>by simp
 | sep,p::rest,acc=>by
  rw [List.foldl_cons,kd sep rest]
  simp
theorem wC{sep:Str}(h:okS sep=true):∀{zs:List Str},(∀z∈zs,okS z=true)→okS (Txt.join sep zs)=true
 | [],_=>aX.mpr fun c hc=>by
  have hc:c∈(#[]:Array Nat).toList:=hc
  simp at hc
 | x::rest,k=>by
  refine aX.mpr fun c hc=>?_
  have e:Txt.join sep (x::rest)=(⟨rest.foldl (fun acc p=>acc++sep.cps++p.cps) x.cps⟩:Str):=rfl
  rw [e] at hc
  have hc:c∈(rest.foldl (fun acc p=>acc++sep.cps++p.cps) x.cps).toList:=hc
  rw [kd] at hc
  rcases List.mem_append.mp hc with hc | hc
  ·exact aX.mp (k x List.mem_cons_self) c hc
  ·obtain ⟨p,hp,hc⟩:=List.mem_flatMap.mp hc
   rcases List.mem_append.mp hc with hc | hc
   ·exact aX.mp h c hc
   ·exact aX.mp (k p (List.mem_cons_of_mem _ hp)) c hc
def wD:Str→D→(D→Prop)→Prop
 | a,.lst ds,Q=>iR ds fun ys=>(ys.map (·.length)).sum+ys.length * a.length≤16777216∧Q (.str (Txt.join a ys))
 | _,_,_=>False
theorem mq{o e:Expr}{to:DTE}{ta:DTA}{apos cpos:Pos}(ho:DE X E o to)(ha:DA X E [e] ta)
  (hbase:attributeBase o "join" X.env (eval o X.env)=eval o X.env:=by rfl)
  (hfew:((backTo cpos (starEach [e] X.env)).all (fun x=> !x.1)&&(backToKw cpos (keywordEach [] X.env)).all (fun x=>x.1.isSome)
   &&decide ([e].length+([]:List Keyword).length+(if ([]:List Keyword).isEmpty then 0 else 1)<30))=true:=by rfl)
  (hline:(apos.endLine == cpos.line)=true:=by rfl) (hs:starEach [e] X.env=(false,eval e X.env)::starEach [] X.env:=by rfl) (hplain:(backTo cpos (starEach [] X.env)).any (·.1)=false:=by rfl):
  DE X E (.Call (.Attribute o "join" apos) [e] [] cpos) (tMe qr (m1 wD) to ta):=
 rW PySem.F.plainAttrs_str PySem.F.slot_str_join PySem.F.type_str_join mt_join (SM.of1 fun B μ m H a v d Q QV M ha td q k=>by
  cases d with
  | lst ds=>
   obtain ⟨p,vs,rfl,hp,r⟩:=td
   obtain ⟨bs,rfl,ho,q1,q⟩:=qs r q
   exact ⟨a,p,bs,rfl,rfl,.inl (.inl (.inl hp)),q1,SO.pure M k (.str (wC ha ho)) q⟩
  | _=>exact q.elim) jA ho ha hbase hfew hline hs hplain
inductive DJ (X:Cx) (E:XK):List Expr→List DTE→Prop where
 | nil:DJ X E [] []
 | cons {e:Expr} {t:DTE} {es:List Expr} {ts:List DTE} (h:DE X E e t) (r:DJ X E es ts):DJ X E (e::es) (t::ts)
def sD:W→(Str→Prop)→Prop
 | .v (.str x),Q=>Q x
 | _,_=>False
theorem Cy{K:Frag}{B:Hp}{μ:List Addr}{v:V}{x:W}{Q:Str→Prop}(r:RW K B μ v x)(q:sD x Q):∃z,v=.str z∧okS z=true∧Q z:=by
 unfold sD at q
 split at q
 ·cases (show Rv K B v (.str _) from r) with
  | str h=>exact ⟨_,rfl,h,q⟩
 ·exact q.elim
def tJo:List DTE→Str→En→Me→(Str→Me→Prop)→QX→Prop
 | [],acc,_,m,Q,_=>Q acc m
 | t::ts,acc,en,m,Q,Qx=>t en m (fun x m1=>sD x fun y=>(acc++y).length≤sizeLine∧tJo ts (acc++y) en m1 Q Qx) Qx
theorem DJ.pj{es:List Expr}{ts:List DTE}(h:DJ X E es ts):∃us,PJ X es us∧∀(acc:Str) B μ en m σ H (Q:Str→Me→Prop) (Qx:QX) (QV:Str→Hp→Prop),okS acc=true→Rel X.K B μ en m σ H→ExOf X.K E B μ m H Qx→tJo ts acc en m Q Qx→
  (∀B' μ' m' H' z,okS z=true→Stp B μ m H B' μ' m' H'→Rel X.K B' μ' en m' σ H'→Q z m'→QV z H')→tJs us acc σ H QV:=by
 induction h with
 | nil=>exact ⟨[],.nil,fun acc B μ en m σ H Q Qx QV ho R hx T k=>k B μ m H acc ho .refl R T⟩
 | cons h r ih=>
  obtain ⟨t1,p1,k1⟩:=h.ex
  obtain ⟨us,p2,k2⟩:=ih
  refine ⟨t1::us,.cons p1 p2,fun acc B μ en m σ H Q Qx QV ho R hx T k=>?_⟩
  refine k1 B μ en m σ H _ Qx _ R hx T fun B1 μ1 m1 H1 x v s1 R1 r q=>?_
  obtain ⟨z,rfl,hz,q1,q⟩:=Cy r q
  refine ⟨z,rfl,q1,k2 _ B1 μ1 en m1 σ H1 _ Qx _ (oQ ho hz) R1 (hx.step s1 R1.mem R.mem.le) q fun B2 μ2 m2 H2 z2 h2 s2 R2 q2=>?_⟩
  exact k B2 μ2 m2 H2 z2 h2 (s1.trans R1.mem s2 R.mem.le) R2 q2
def oa(ts:List DTE):DTE:=fun en m Q Qx=>tJo ts Str.empty en m (fun z m1=>Q (.v (.str z)) m1) Qx
theorem vb:okS Str.empty=true:=aX.mpr fun c hc=>by
 have hc:c∈(#[]:Array Nat).toList:=hc
 simp at hc
theorem g9{v1 v2:Expr}{rest:List Expr}{ts:List DTE}{pos:Pos}(h:DJ X E (v1::v2::rest) ts):DE X E (.JoinedStr (v1::v2::rest) pos) (oa ts):=by
 obtain ⟨us,p,k⟩:=h.pj
 refine ⟨_,pe_joined p,fun B μ en m σ H Q Qx QV R hx T kk=>?_⟩
 exact k Str.empty B μ en m σ H _ Qx _ vb R hx T fun B' μ' m' H' z hz s R' q=>kk B' μ' m' H' (.v (.str z)) _ s R' (RW.d (.str hz)) q
def tFm(te:DTE):DTE:=fun en m Q Qx=>te en m (fun x m1=>match x with
 | .v (.str y)=>y.length≤sizeLine∧Q (.v (.str y)) m1
 | .v (.int i)=>i.natAbs.log2<1920∧Q (.v (.str (toString i))) m1
 | _=>False) Qx
theorem jB{e:Expr}{te:DTE}{pos:Pos}(he:DE X E e te):DE X E (.FormattedValue e (-1) none pos) (tFm te):=by
 obtain ⟨t1,p1,k1⟩:=he.ex
 refine ⟨_,pe_fmt p1,fun B μ en m σ H Q Qx QV R hx T k=>?_⟩
 refine k1 B μ en m σ H _ Qx _ R hx T fun B1 μ1 m1 H1 x v s1 R1 r q=>?_
 split at q
 ·cases (show Rv X.K B1 v (.str _) from r) with
  | str h=>exact .inl ⟨_,rfl,q.1,k B1 μ1 m1 H1 _ _ s1 R1 (RW.d (.str h)) q.2⟩
 ·cases (show Rv X.K B1 v (.int _) from r)
  exact .inr ⟨_,rfl,q.1,k B1 μ1 m1 H1 (.v (.str (toString _))) _ s1 R1 (RW.d (.str (tB _))) q.2⟩
 ·exact q.elim
def wF:D→Option String
 | .non=>some "NoneType" | .bl _=>some "bool" | .int _=>some "int" | .str _=>some "str" | .lst _=>some "list" | .tup _=>some "tuple" | .dic _=>some "dict"
 | _=>none
def r8:Tg→D→Bool
 | .list,.lst _=>true
 | .tuple,.tup _=>true
 | .dict,.dic _=>true
 | .bool,.bl _=>true
 | .int,.bl _=>true
 | .int,.int _=>true
 | .str,.str _=>true
 | _,_=>false
def tgS:String→Option Tg
 | "list"=>some .list | "tuple"=>some .tuple | "dict"=>some .dict | "bool"=>some .bool | "int"=>some .int | "str"=>some .str
 | _=>none
theorem r9{s:String}{t:Tg}(h:tgS s=some t):s=t.nm:=by
 unfold tgS at h
 split at h <;> cases h <;> rfl
theorem oY{d:D}{s:String}(h:wF d=some s)(t:Tg):kitB s t.nm=some (r8 t d):=by
 cases d <;> cases h <;> cases t <;> simp only [Tg.nm,r8] <;> decide+kernel
theorem Top.ty{K:Frag}{B H:Hp}(le:Le B H){v:V}{d:D}{s:String}(t:Top K B H v d)(h:wF d=some s):TyX K H v (.type s):=by
 cases d with
 | non=>cases t; cases h; exact .base .non
 | bl b=>cases t; cases h; exact .base (.bl b)
 | int b=>cases t; cases h; exact .base (.int b)
 | str b=>cases t; cases h; exact .base (.str b)
 | tup _=>obtain ⟨a,vs,rfl,hs,_⟩:=t; cases h; exact SqT.ty (le.tup hs)
 | lst _=>obtain ⟨a,vs,rfl,hs,_⟩:=t; cases h; exact .base (.lst hs)
 | dic _=>
  obtain ⟨a,vs,rfl,hs,_⟩:=t
  cases h
  rcases hs with hs | ⟨o,hs⟩
  ·exact .base (.dK hs)
  ·exact .fDict hs
 | ty _=>cases h
 | fn _=>cases h
 | obj _ _=>cases h
 | exc _ _=>cases h
 | lam _ _ _=>cases h
def Bl:F2:=fun d c Q=>match c with
 | .ty n=>(match tgS n with
  | some t=>(wF d).isSome=true∧Q (.bl (r8 t d))
  | none=>False)
 | _=>False
theorem Cz:SC X (rIsi X.K) (c2 Bl):=SC.of2 fun B μ m H v u d e Q QV M td te q k=>by
 unfold Bl at q
 cases e with
 | ty n=>
  cases te
  cases ht:tgS n with
  | none=>simp only [ht] at q
  | some t=>
   simp only [ht] at q
   obtain ⟨s,hs⟩:=Option.isSome_iff_exists.mp q.1
   have en:=r9 ht
   subst en
   exact ⟨v,_,_,_,_,rfl,.ty _,Top.ty M.le td hs,kit_ty (oY hs t),SO.pure M k (.bl _) q.2⟩
 | _=>exact q.elim
theorem cQ{e e2:Expr}{ta:DTA}{p pos:Pos}(hm:X.mg "isinstance"=none)(ha:DA X E [e,e2] ta)(hg:Gl X "isinstance":=by rfl)(he:starEach [e,e2] X.env=(false,eval e X.env)::starEach [e2] X.env:=by rfl)(hpl:(backTo pos (starEach [e2] X.env)).any (·.1)=false:=by rfl):DE X E (.Call (.Name "isinstance" p) [e,e2] [] pos) (tCa (c2 Bl) ta):=
 zf call_isi Cz hm (by decide+kernel) ha hg (by decide) (by decide) he hpl
end
theorem u64{k:Nat}{A:Around}(r:Room k A):A.units+64<cLine:=r.units
theorem u65{k:Nat}{A:Around}(r:Room k A):A.units+65<cLine:=by have:=r.un; omega
section
variable {X:Cx} {E:XK}
theorem dv(i:Nat){x:Str}{pos:Pos}(hN:X.N[i]? =some x:=by rfl)(hv:Vis X.env.scope x:=by first | exact Or.inl rfl | exact Or.inr (Or.inl rfl) | exact Or.inr (Or.inr rfl))(hd:(x == ("__debug__":Str))=false:=by decide)
  (hcd:(x == ("__classdict__":Str))=false:=by decide):DE X E (.Name x pos) (tV i):=Cf hN hv hd hcd
theorem wG:OpD X (binaryOp .Mult) (oL Bd):=by
 refine ⟨_,op_mulW.or op_rep,SO.of fun B μ m H v u dx dy Q QV M tx ty q k=>?_⟩
 unfold Bd at q
 split at q
 ·cases tx
  cases ty
  exact .inl ⟨_,_,rfl,rfl,q.1,SO.pure M k (.int _) q.2⟩
 ·obtain ⟨a,vs,rfl,h1,r1⟩:=tx
  cases ty
  obtain ⟨q0,q1,q2,q⟩:=q
  exact .inr ⟨a,_,vs,rfl,rfl,h1,by omega,by omega,by rw [r1.len]; exact q2,fun p np=>SO.new M k np (iw M np (r1.rep _)) q⟩
 ·exact q.elim
def Bm:W→(D→Prop)→Prop
 | .v (.int i),Q=>Q (.int (-i))
 | _,_=>False
def CA(f:W→(D→Prop)→Prop)(ta:DTE):DTE:=fun en m Q Qx=>ta en m (fun x m1=>f x fun d=>Q (.v d) m1) Qx
theorem tD:∃r,UnR X (unaryOp .USub) r∧∀B μ m H x v (Q:D→Prop) (QV:VK),MemOk X.K B μ m H→RW X.K B μ v x→Bm x Q→(∀z d,Rv X.K B z d→Q d→QV z H)→r v H QV:=⟨_,un_neg,fun B μ m H x v Q QV M r q k=>by
 unfold Bm at q
 split at q
 ·cases (show Rv X.K B v (.int _) from r)
  exact ⟨_,rfl,k _ _ (.int _) q⟩
 ·exact q.elim⟩
theorem zh{a:Expr}{ta:DTE}{pos:Pos}{op:UnaryOp}{f:W→(D→Prop)→Prop}(ho:∃r,UnR X (unaryOp op) r∧∀B μ m H x v (Q:D→Prop) (QV:VK),MemOk X.K B μ m H→RW X.K B μ v x→f x Q→(∀z d,Rv X.K B z d→Q d→QV z H)→r v H QV)(ha:DE X E a ta):DE X E (.UnaryOp op a pos) (CA f ta):=by
 obtain ⟨t1,p1,k1⟩:=ha.ex
 obtain ⟨r,h1,h2⟩:=ho
 refine ⟨_,pe_un h1 p1,fun B μ en m σ H Q Qx QV R hx T k=>?_⟩
 refine k1 B μ en m σ H _ Qx _ R hx T fun B1 μ1 m1 H1 x v s1 R1 r1 q=>?_
 exact h2 B1 μ1 m1 H1 x v _ _ R1.mem r1 q fun z d rz qd=>k B1 μ1 m1 H1 (.v d) z s1 R1 (RW.d rz) qd
theorem SE.lc{elt tg iter:Expr}{is:List Nat}{own:List (Str×Nat)}{ti:DTI}{g:DTG}{tt:DTT}{te:DTE}{t0:TI}(p0:PI X tg iter t0) (k0:∀B μ en m σ H (Q:List D→Me→Prop) (Qx:QX) (QV:It→Hp→Prop),Rel X.K B μ en m σ H→ExOf X.K E B μ m H Qx→ti en m Q Qx→
  (∀B' μ' m' H' its J,Stp B μ m H B' μ' m' H'→Rel X.K B' μ' en m' σ H'→iP X.K B' J its→Q its m'→QV J H')→t0 σ H QV) (hv:is.all (fun i=>(own.map (·.2)).contains i)=true):
  SE X E (tLc t0 (Fs.lG X.K is g) (Fs.lT X.K E0 tt) (Fs.lE X.K E0 te) (own.map (·.2))) (Bc ti g tt te (own.map (·.2))):=by
 have hv':∀i∈is,i∈own.map (·.2):=fun i h=>List.contains_iff_mem.mp (List.all_eq_true.mp hv i h)
 intro B μ en m σ H Q Qx QV R hx T k
 refine k0 B μ en m σ H _ Qx _ R hx T fun B1 μ1 m1 H1 its J s1 R1 ⟨G,Y,w,hG,hY⟩ q=>?_
 intro L nL
 obtain ⟨nb1,nl1⟩:=R1.mem.none nL
 have Rw:=R1.wipe (own.map (·.2))
 generalize hen:gt en (own.map (·.2))=enw at q Rw
 refine lc_it w (fun i H'=>∃B' μ' m' vs acc,Stp B1 μ1 m1 H1 B' μ' m' H'∧MemOk X.K B' μ' m' H'∧B' L=none∧¬Live μ' m' L∧H' L=some (.lst vs)∧RvL X.K B' vs acc∧lcL g tt te enw (its.drop i) acc m' Q) ?_ (fun i H' _ ⟨B',μ',m',vs,acc,s',M',_⟩=>hG B' μ' m' H' s'.same M') (fun i x H2 H3 hi ⟨B',μ',m',vs,acc,s',M',nb,nl,hL,rv,q'⟩ y=>?_) (fun H' ⟨B',μ',m',vs,acc,s',M',nb,nl,hL,rv,q'⟩=>?_)
 ·have kp:∀b o,b≠L→H1 b=some o→upd H1 L (.lst []) b=some o:=fun b o c e=>by rw [upd_ne c]; exact e
  exact ⟨B1,μ1,m1,[],[],Stp.refl.touch nL kp,R1.mem.touch nb1 nl1 kp,nb1,nl1,upd_same,.nil,q⟩
 ·obtain ⟨B3,d,hd,s3,m3,rd⟩:=hY i B' μ' m' H2 x H3 hi s'.same M' y
  have s13:=s'.trans M' s3 R1.mem.le
  obtain ⟨nb3,nl3⟩:=s3.hid L _ nl hL ⟨(fun _ z=>nomatch z),(fun _ z=>nomatch z)⟩ nb
  have hL3:=s3.out L _ nl hL (fun _ z=>nomatch z)
  have R3:Rel X.K B3 μ' enw m' (L2.wipe σ (own.map (·.2))) H3:=Rw.stp s13 m3
  rw [List.drop_eq_getElem_cons hi] at q'
  have ed:its[i]=d:=by
   rw [List.getElem?_eq_getElem hi] at hd
   exact Option.some.inj hd
  rw [ed] at q'
  refine ⟨B3,μ',enw,m',.v d,_,R3,rd,q',fun B4 μ4 en4 m4 σ4 H4 s4 R4 st4 q4=>⟨by rw [st4.wipe hv',iv],?_⟩⟩
  have s14:=s13.trans m3 s4 R1.mem.le
  obtain ⟨nb4,nl4⟩:=s4.hid L _ nl3 hL3 ⟨(fun _ z=>nomatch z),(fun _ z=>nomatch z)⟩ nb3
  have hL4:=s4.out L _ nl3 hL3 (fun _ z=>nomatch z)
  refine ⟨B4,μ4,en4,m4,_,noX,R4,ExOf.no,q4,fun B5 μ5 m5 H5 b s5 R5 q5=>?_⟩
  have s15:=s14.trans R4.mem s5 R1.mem.le
  obtain ⟨nb5,nl5⟩:=s5.hid L _ nl4 hL4 ⟨(fun _ z=>nomatch z),(fun _ z=>nomatch z)⟩ nb4
  have hL5:=s5.out L _ nl4 hL4 (fun _ z=>nomatch z)
  have rv5:=rv.to ((s3.same.trans s4.same).trans s5.same)
  cases b with
  | false=>exact iteF ⟨B5,μ5,m5,vs,acc,s15,R5.mem,nb5,nl5,hL5,rv5,q5⟩
  | true=>
   refine iteT ⟨B5,μ5,en4,m5,_,noX,R5,ExOf.no,q5,fun B6 μ6 m6 H6 y v s6 R6 r6 q6=>?_⟩
   cases y with
   | loc n=>exact q6.elim
   | v dy=>
    obtain ⟨lz,q6⟩:=q6
    have s16:=s15.trans R5.mem s6 R1.mem.le
    obtain ⟨nb6,nl6⟩:=s6.hid L _ nl5 hL5 ⟨(fun _ z=>nomatch z),(fun _ z=>nomatch z)⟩ nb5
    have hL6:=s6.out L _ nl5 hL5 (fun _ z=>nomatch z)
    have rv6:=rv5.to s6.same
    have kp:∀b o,b≠L→H6 b=some o→upd H6 L (.lst (vs++[v])) b=some o:=fun b o c e=>by rw [upd_ne c]; exact e
    exact ⟨vs,hL6,by rw [rv6.len]; exact lz,B6,μ6,m6,vs++[v],acc++[dy],s16.touch nL kp,R6.mem.touch nb6 nl6 kp,nb6,nl6,upd_same,rv6.append (.one r6),q6⟩
 ·rw [List.drop_length] at q'
  have same:Same B' (upd B' L (.lst vs)):=aJ nb _
  have M2:MemOk X.K (upd B' L (.lst vs)) μ' m' H':=by
   refine ⟨fun a o e=>?_,M'.len,fun a l=>?_,fun n a x e1 e2 e3=>OO.to same (List.prefix_refl _) (fun _ z=>z) (M'.at_ n a x e1 e2 e3),M'.inj,fun a ps e=>by
    by_cases c:a=L
    ·subst c
     rw [upd_same] at e
     cases e
    ·rw [upd_ne c] at e
     exact M'.ntb a ps e⟩
   ·by_cases c:a=L
    ·subst c
     rw [upd_same] at e
     cases e
     exact hL
    ·rw [upd_ne c] at e
     exact M'.le a o e
   ·have c:a≠L:=fun z=>by
     subst z
     exact nl l
    rw [upd_ne c]
    exact M'.off a l
  have st:Stp B1 μ1 m1 H1 (upd B' L (.lst vs)) μ' m' H':=⟨s'.same.trans same,s'.pre,s'.out,fun a o n e x b=>by
   obtain ⟨h1,h2⟩:=s'.hid a o n e x b
   refine ⟨?_,h2⟩
   rw [upd_ne (ne_of_none e nL)]
   exact h1⟩
  have stt:=s1.trans R1.mem st R.mem.le
  exact k _ μ' m' H' _ _ stt (R.stp stt M2) (RW.d (.lst upd_same (rv.to same))) q'
theorem qt{i:Nat}{y:Str}{py:Pos}{elt tg iter:Expr}{ifs:List Expr}{scope:Scope}{own:List (Str×Nat)}{is:List Nat}{pos spos:Pos}{ti:DTI}{g:DTG}{tt:DTT}{te:DTE}(hy:X.N[i]? =some y)(hyl:X.env.scope.names.lookup y=some .local)
  (hsw:swapsWith (.ListComp elt [⟨tg,iter,ifs,0⟩] scope pos) (some (.Name y py)) spos.line X.env=pure true) (hc:X.calm=true) (hN:X.N.Nodup) (hi:DI X E tg iter ti) (ok:BlkOk X.N X.env.scope scope own)
  (hg:∀(s:Shared) (H:Hp) (C:Addr) (cl:List (Str×Addr)) (fp:List Addr),DG (X.blk s H scope (compEnvC scope cl C X.env) fp) tg is g) (ht:∀(s:Shared) (H:Hp) (C:Addr) (cl:List (Str×Addr)) (fp:List Addr),DTs (X.blk s H scope (compEnvC scope cl C X.env) fp) E0 ifs tt)
  (he:∀(s:Shared) (H:Hp) (C:Addr) (cl:List (Str×Addr)) (fp:List Addr),DE (X.blk s H scope (compEnvC scope cl C X.env) fp) E0 elt te) (hs:∀x,foldedSetIterable iter X.env x=pure x:=by intro _; rfl) (hv:is.all (fun i=>(own.map (·.2)).contains i)=true:=by rfl):
  DS X E (.Assign [.Name y py] (.ListComp elt [⟨tg,iter,ifs,0⟩] scope pos) spos) (j8 i (Bc ti g tt te (own.map (·.2)))):=by
 obtain ⟨t0,p0,k0⟩:=hi.ex
 have se:=SE.lc (elt:=elt) (E:=E) (g:=g) (tt:=tt) (te:=te) (own:=own) p0 k0 hv
 refine ⟨_,ps_setLc hc hN hy hyl hsw p0 ok (g:=lG X.K is g) (tt:=lT X.K E0 tt) (te:=lE X.K E0 te) (fun s H C cl fp=>(hg s H C cl fp).pg) (fun s H C cl fp=>(ht s H C cl fp).pts) (fun s H C cl fp=>(he s H C cl fp).pe) hs,fun B μ en m σ H N D R hx T e=>?_⟩
 exact se B μ en m σ H _ _ _ R hx T fun B1 μ1 m1 H1 x v s1 R1 r q=>e.nx B1 μ1 _ m1 _ H1 s1 (R1.set r) q
abbrev DIp:=W→W→Me→(D→Prop)→Prop
def CB(i:Nat)(te:DTE)(o:DIp):DTS:=fun en m N=>match En.get en i with
 | some x=>te en m (fun y m1=>o x y m1 fun d=>N.nx (List.set en i (some (.v d))) m1) N.xc
 | none=>False
def IpD(X:Cx)(op:Operator)(o:DIp):Prop:=∃r:TIp,PIp X op r∧SO X r o
theorem wH{i:Nat}{x:Str}{e:Expr}{te:DTE}{op:Operator}{o:DIp}{pos' pos:Pos}(hN:X.N.Nodup)(hi:X.N[i]? =some x)(hx:Loc X.env.scope x)(he:DE X E e te)(ho:IpD X op o)(hf:X.fn x=true∨X.env.scope.names.lookup x=some .local:=by first | exact .inl rfl | exact .inr rfl | assumption):DS X E (.AugAssign (.Name x pos') op e pos) (CB i te o):=by
 obtain ⟨t1,p1,k1⟩:=he.ex
 obtain ⟨r,h1,h2⟩:=ho
 refine ⟨_,ps_aug hN hi hx p1 h1 hf,fun B μ en m σ H N D R hx T e=>?_⟩
 unfold CB at T
 split at T
 ·rename_i x hg
  obtain ⟨v,hv,rv⟩:=R.env i x (En.get_some hg)
  refine ⟨v,hv,k1 B μ en m σ H _ _ _ R hx T fun B1 μ1 m1 H1 y u s1 R1 ry q=>?_⟩
  refine h2 B1 μ1 m1 H1 x y v u _ _ R1.mem (rv.to s1.same s1.pre) ry q fun B2 H2 d z s2 M2 rz q2=>?_
  have st:=s1.trans R1.mem s2 R.mem.le
  exact e.nx B2 μ1 _ m1 _ H2 st ((R.stp st M2).set (RW.d rz)) q2
 ·exact T.elim
theorem wI:IpD X .Add (oL (rY fun i j Q=>Q (.int (i+j)))):=⟨_,ip_add,SO.of fun B μ m H v u dx dy Q QV M tx ty q k=>by
 obtain ⟨i,j,rfl,rfl,q⟩:=fW tx ty q
 exact ⟨_,_,rfl,rfl,SO.pure M k (.int _) q⟩⟩
def AM(s t:String)(d:D)(Q:D→Prop):Prop:=match tgS s,tgS t with
 | some a,some b=>(wF d).isSome=true∧Q (.bl (r8 a d||r8 b d))
 | _,_=>False
def CC(s t:String)(te:DTE):DTE:=fun en m Q Qx=>te en m (fun x m1=>look x m1 fun d=>AM s t d fun r=>Q (.v r) m1) Qx
theorem Bn{e a b:Expr}{te:DTE}{s t:String}{p pos tpos:Pos}{k:Nat}(hm:X.mg "isinstance"=none)(he:DE X E e te)(hpa:PE X a (tC (.ty s)))(hpb:PE X b (tC (.ty t)))(hg:Gl X "isinstance":=by rfl)
  (hst:starEach [e,.Tuple [a,b] k tpos] X.env=(false,eval e X.env)::starEach [.Tuple [a,b] k tpos] X.env:=by rfl) (hst2:starEach [.Tuple [a,b] k tpos] X.env=(false,eval (.Tuple [a,b] k tpos) X.env)::starEach [] X.env:=by rfl)
  (hpl:(backTo pos (starEach [.Tuple [a,b] k tpos] X.env)).any (·.1)=false:=by rfl) (h1:starEach [a,b] X.env=(false,eval a X.env)::starEach [b] X.env:=by rfl) (h2:starEach [b] X.env=(false,eval b X.env)::starEach [] X.env:=by rfl):
  DE X E (.Call (.Name "isinstance" p) [e,.Tuple [a,b] k tpos] [] pos) (CC s t te):=by
 obtain ⟨t1,p1,k1⟩:=he.ex
 refine ⟨_,pe_callB call_isiT hg hm (by decide+kernel) (pa_cons p1 (pa_cons (pe_tup (pa_cons hpa (pa_cons hpb pa_nil h2) h1)) pa_nil hst2) hst) (by decide) (by decide) hst hpl,fun B μ en m σ H Q Qx QV R hx T k=>?_⟩
 refine k1 B μ en m σ H _ Qx _ R hx T fun B1 μ1 m1 H1 x v s1 R1 r q=>⟨by show 2≤sizeLine; decide,fun p np=>?_⟩
 have sl:=Stp.laid R1.mem np (o:=.tup [.ty s,.ty t])
 have ml:=R1.mem.laid np (o:=.tup [.ty s,.ty t])
 obtain ⟨d,td,q2⟩:=eS ml (r.to sl.same sl.pre) q
 unfold AM at q2
 split at q2
 ·rename_i a' b' e1 e2
  obtain ⟨ts,hs⟩:=Option.isSome_iff_exists.mp q2.1
  have en1:=r9 e1
  have en2:=r9 e2
  subst en1 en2
  refine ⟨v,p,[.ty a'.nm,.ty b'.nm],.type ts,[.type a'.nm,.type b'.nm],r8 a' d||r8 b' d,rfl,upd_same,.cons (.ty _) (.cons (.ty _) .nil),Top.ty ml.le td hs,?_,?_⟩
  ·refine kitAny_cons (kit_ty (oY hs a')) (fun e=>?_) (fun e=>by rw [e]; rfl)
   rw [e,Bool.false_or]
   refine kitAny_cons (kit_ty (oY hs b')) (fun e=>?_) (fun e=>e)
   rw [e]
   rfl
  ·have st:=s1.trans R1.mem sl R.mem.le
   exact k _ μ1 m1 _ (.v (.bl _)) _ st (R.stp st ml) (RW.d (.bl _)) q2.2
 ·exact q2.elim
section
variable {CX:CXT} {k:Nat} {x:Str} {ps:List Str} {sp:SpD} {e:Expr} {es:List Expr} {p pos:Pos} {ta:DTA}
structure DK (X:Cx) (E:XK) (kws:List Keyword) (T:DTA):Prop where
 ex:∃t,PK X kws t∧SA X E t T
def wJ(n j:Nat)(sp:SpD)(g:List W→List W→List W)(ta tk:DTA):DTE:=fun en m Q Qx=>ta en m (fun xs m1=>tk en m1 (fun zs m2=>xs.length=n∧zs.length=j∧sp (g xs zs) m2 Q Qx) Qx) Qx
def Reo(K:Frag)(gV:List V→List V→List V)(gW:List W→List W→List W):Prop:=∀B μ (vs:List V) (xs:List W) (us:List V) (zs:List W),RWs K B μ vs xs→RWs K B μ us zs→RWs K B μ (gV vs us) (gW xs zs)
theorem SE.callk{n j:Nat}{t tk:TA}{Tk:DTA}{gV:List V→List V→List V}{gW:List W→List W→List W}(hr:Reo X.K gV gW)(k1:SA X E t ta)(k2:SA X E tk Tk):SE X E (tCallN n j (lift X.K sp) gV E t tk) (wJ n j sp gW ta Tk):=by
 intro B μ en m σ H Q Qx QV R hx T k
 refine k1 B μ en m σ H _ Qx _ R hx T fun B1 μ1 m1 H1 xs vs s1 R1 r1 T1=>?_
 refine k2 B1 μ1 en m1 σ H1 _ Qx _ R1 (hx.step s1 R1.mem R.mem.le) T1 fun B2 μ2 m2 H2 zs us s2 R2 r2 ⟨l1,l2,T2⟩=>?_
 have r1':=r1.to s2.same s2.pre
 refine ⟨by rw [r1'.len]; exact l1,by rw [r2.len]; exact l2,?_⟩
 have s12:=s1.trans R1.mem s2 R.mem.le
 refine ⟨B2,μ2,m2,_,_,Qx,R2.mem,hr _ _ _ _ _ _ r1' r2,T2,hx.step s12 R2.mem R.mem.le,fun B3 μ3 m3 H3 y v s3 m3' r3 q3=>?_⟩
 have st:=s12.trans R2.mem s3 R.mem.le
 exact k B3 μ3 m3 H3 y v st (R.stp st m3') r3 q3
theorem wK{ks:List Str}{kws:List Keyword}{Tk:DTA}{gV:List V→List V→List V}{gW:List W→List W→List W}(G:Gk X.prog X.w X.K X.mg X.base CX k x 0 ks gV ps (lift X.K sp)∧Reo X.K gV gW)(hr:Room k X.A)(hx:Passes CX X E)(hkw:DK X E kws Tk)(hg:Gl X x:=by rfl)
  (hall:(backToKw pos (keywordEach kws X.env)).all (·.1.isSome)=true:=by rfl) (hks:(backToKw pos (keywordEach kws X.env)).filterMap (·.1)=ks:=by rfl)
  (hdb:(x == ("__debug__":Str))=false:=by decide)
  (hpl:((backTo pos (starEach [] X.env)).any (·.1)||(backToKw pos (keywordEach kws X.env)).any (·.1.isNone))=false:=by rfl):DE X E (.Call (.Name x p) [] kws pos) (wJ 0 ks.length sp gW tN Tk):=by
 obtain ⟨t2,p2,k2⟩:=hkw.ex
 exact ⟨_,A6 G.1 hr hx p2 hg hall hks hdb hpl,SE.callk G.2 (fun B μ en m σ H Q Qx QV R hx T k=>k B μ m H [] [] .refl R .nil T) k2⟩
end
end
section
variable {P:Program} {w:World} {K:Frag} {mg:Str→Option Value} {base:Heap} {k:Nat} {x:Str} {ps:List Str}
theorem Gd.up{sp:Sp}(G:Gd P w K mg base CX0 k x ps sp):Gd P w K mg base (L2N.CX P w) k x ps sp:=by
 obtain ⟨f,fd,a,b,c,F⟩:=G.ex
 refine ⟨f,fd,a,b,c,F.len,fun A outer s H args us vs Q E hr he hb hv hs=>codeAny_mono (F.run A outer s H args us vs Q E hr he hb hv hs) fun r s' h=>?_⟩
 cases r with
 | error e=>exact (show False from h).elim
 | ok fl=>cases fl <;> exact h
def eT:SpD:=fun ws m Q _=>∃n k,ws=[.loc n,.v (.int k)]∧m[n]? =some .bag∧0<k∧k<2 ^ 100∧∀r,0≤r→r<k→Q (.v (.int r)) m
theorem wL{α:Type}{l:List α}{n:Nat}{x:α}(h:l[n]? =some x):l.set n x=l:=by
 apply List.ext_getElem?
 intro i
 by_cases c:i=n
 ·subst c
  rw [List.getElem?_set_self (List.getElem?_eq_some_iff.mp h).1,h]
 ·rw [List.getElem?_set_ne (fun z=>c z.symm)]
theorem vc{vs:List V}{H:Hp}{Q:VK}{E E':XK}(h:lift K eT vs H Q E):rP vs H Q E':=by
 obtain ⟨B,μ,m,ws,Qd,Qx,M,r,⟨n,j,rfl,hm,h0,h1,q⟩,hx,hq⟩:=h
 cases r with
 | cons a t=>
  cases t with
  | cons b t=>
   cases t
   cases (show Rv K B _ (.int j) from b)
   obtain ⟨p,rfl,hp⟩:=a
   obtain ⟨l,i,rs,sd,ns,e1,e2,e3⟩:=(show BagB B H p from M.at_ n p _ hp hm rfl).ex
   refine ⟨p,l,j,rfl,⟨i,rs,sd,ns,e1,M.le _ _ e2,e3⟩,h0,h1,fun z H' z0 z1 sx B'=>?_⟩
   have kp:∀b o,b≠p→H b=some o→H' b=some o:=fun b o c e=>sx.at c e
   obtain ⟨i',rs',sd',ns',f1,f2,f3⟩:=B'.ex
   have nl:l≠p:=fun z=>by
    subst z
    rw [M.off l ⟨n,_,hp,hm,rfl⟩] at e2
    cases e2
   have e4:=kp l _ nl (M.le _ _ e2)
   have new:OO K B μ H' p .bag:=⟨l,i',rs',sd',ns,f1,e2,f3⟩
   have M2:=M.store hp hm rfl rfl kp new (m':=.bag)
   have S2:=Stp.store (B:=B) (m':=.bag) hp hm rfl kp
   rw [wL hm] at M2 S2
   exact hq B μ m H' (.v (.int z)) _ S2 M2 (.int z) (q z z0 z1)
theorem CD(G:Gd P w K mg base CX0 k x ps rP):Gd P w K mg base (L2N.CX P w) k x ps (lift K eT):=G.up.imp fun _ _ _ _ h=>vc h
end
inductive All2 (R:Nat→D→D→Prop):Nat→List D→List D→Prop
 | nil {i:Nat}:All2 R i [] []
 | cons {i:Nat} {d y:D} {ds ys:List D}:R i d y→All2 R (i+1) ds ys→All2 R i (d::ds) (y::ys)
theorem All2.len{R:Nat→D→D→Prop}{i:Nat}{ds ys:List D}(h:All2 R i ds ys):ds.length=ys.length:=by
 induction h with
 | nil=>rfl
 | cons _ _ ih=>rw [List.length_cons,List.length_cons,ih]
theorem lC{g:DTG}{te:DTE}{en:En}{m:Me}(R:Nat→D→D→Prop):∀{its acc:List D} {Q:W→Me→Prop} (i:Nat),acc.length+its.length≤sizeLine→
  (∀j d (Qt:W→Me→Prop),its[j]? =some d→(∀y,R (i+j) d y→Qt (.v y) m)→g (.v d) en m fun en1 m1=>te en1 m1 Qt noX)→(∀ys,All2 R i its ys→Q (.v (.lst (acc++ys))) m)→lcL g tYs te en its acc m Q
 | [],acc,Q,i,_,_,k=>by
  have z:=k [] .nil
  rw [List.append_nil] at z
  exact z
 | d::ds,acc,Q,i,hl,h,k=>by
  rw [List.length_cons] at hl
  refine h 0 d _ rfl fun y r=>?_
  refine ⟨by omega,?_⟩
  refine lC R (i+1) (by rw [List.length_append,List.length_singleton]; omega) (fun j e Qt he hq=>h (j+1) e Qt (by simpa using he) fun y r=>hq y (by rw [show i+1+j=i+(j+1) by omega]; exact r)) fun ys a=>?_
  rw [List.append_assoc]
  exact k (y::ys) (.cons r a)
theorem jC{g:DTG}{te:DTE}{en:En}{m:Me}(f:D→D):∀{its acc:List D} {Q:W→Me→Prop},acc.length+its.length≤sizeLine→
  (∀d (Qt:W→Me→Prop),d∈its→Qt (.v (f d)) m→g (.v d) en m fun en1 m1=>te en1 m1 Qt noX)→Q (.v (.lst (acc++its.map f))) m→lcL g tYs te en its acc m Q
 | [],acc,Q,_,_,k=>by
  rw [List.map_nil,List.append_nil] at k
  exact k
 | d::ds,acc,Q,hl,h,k=>by
  rw [List.length_cons] at hl
  refine h d _ List.mem_cons_self ⟨by omega,?_⟩
  refine jC f (by rw [List.length_append,List.length_singleton]; omega) (fun e Qt he=>h e Qt (List.mem_cons_of_mem _ he)) ?_
  rw [List.append_assoc]
  exact k
theorem qu{g:DTG}{tb:DTS}{N:Dn}(I:Nat→En→Me→Prop):∀{its:List D} {en:En} {m:Me} (i:Nat),I i en m→
  (∀j d en m (N':Dn),its[j]? =some d→I (i+j) en m→N'.rt=N.rt→N'.xc=N.xc→N'.bk=N.nx→(∀en' m',I (i+j+1) en' m'→N'.nx en' m'∧N'.ct en' m')→g (.v d) en m fun en1 m1=>tb en1 m1 N')→
  (∀en m,I (i+its.length) en m→N.nx en m)→bY g tb its en m N
 | [],en,m,i,h,_,k=>k _ _ h
 | d::ds,en,m,i,h,t,k=>by
  have nxt:∀en' m',I (i+1) en' m'→bY g tb ds en' m' N:=fun en' m' h'=>by
   refine qu I (i+1) h' (fun j e en m N' he hi r1 r2 r3 hn=>t (j+1) e en m N' (by simpa using he) (by rw [show i+(j+1)=i+1+j by omega]; exact hi) r1 r2 r3 fun en' m' z=>hn en' m' (by rw [show i+1+j+1=i+(j+1)+1 by omega]; exact z)) fun en m z=>k en m ?_
   rw [List.length_cons,show i+(ds.length+1)=i+1+ds.length by omega]
   exact z
  exact t 0 d en m _ rfl h rfl rfl rfl fun en' m' z=>⟨nxt en' m' z,nxt en' m' z⟩
theorem iS{g:DTG}{tb:DTS}{N:Dn}(I:Nat→En→Me→Prop){its:List D}{en:En}{m:Me}(h:I 0 en m)
  (t:∀j d en m (N':Dn),its[j]? =some d→I j en m→N'.rt=N.rt→N'.xc=N.xc→N'.bk=N.nx→(∀en' m',I (j+1) en' m'→N'.nx en' m'∧N'.ct en' m')→g (.v d) en m fun en1 m1=>tb en1 m1 N')
  (k:∀en m,I its.length en m→N.nx en m):bY g tb its en m N:=
 qu I 0 h (fun j d en m N' hd hi r1 r2 r3 hn=>t j d en m N' hd (by rw [Nat.zero_add] at hi; exact hi) r1 r2 r3 fun en' m' z=>hn en' m' (by rw [Nat.zero_add]; exact z)) fun en m z=>k en m (by rw [Nat.zero_add] at z; exact z)
theorem jD{c:DTT}{tb:DTS}{N:Dn}(I:Nat→En→Me→Prop):∀(n:Nat) {en:En} {m:Me},I n en m→
  (∀n en m (N':Dn),I n en m→N'.rt=N.rt→N'.xc=N.xc→N'.bk=N.nx→(∀k en' m',k<n→I k en' m'→N'.nx en' m'∧N'.ct en' m')→c en m (fun b m1=>if b=true then tb en m1 N' else N.nx en m1) N.xc)→sWh c tb en m N:=by
 intro n en m h t
 refine ⟨n+1,?_⟩
 -- more turns do no harm:by strong induction on the measure,for any number of turns above it
 have key:∀(n:Nat) (f:Nat) (en:En) (m:Me),n<f→I n en m→whN c tb f en m N:=by
  intro n
  induction n using Nat.strongRecOn with
  | _ n ih=>
   intro f en m hf h
   cases f with
   | zero=>omega
   | succ f=>
    refine t n en m { N with nx:=fun en2 m2=>whN c tb f en2 m2 N,ct:=fun en2 m2=>whN c tb f en2 m2 N,bk:=N.nx } h rfl rfl rfl fun k en' m' hk hi=>?_
    have z:=ih k hk f en' m' (by omega) hi
    exact ⟨z,z⟩
 exact key n (n+1) en m (Nat.lt_succ_self n) h
theorem ej(lo:Int)(n:Nat):(nz lo n).length=n:=by unfold nz; rw [List.length_map,List.length_range]
theorem tH{lo:Int}{n j:Nat}{d:D}(h:(nz lo n)[j]? =some d):d=.int (lo+(j:Nat))∧j<n:=by
 unfold nz at h
 rw [List.getElem?_map] at h
 cases q:(List.range n)[j]? with
 | none=>rw [q] at h; cases h
 | some i=>
  rw [q] at h
  have l:j<n:=by
   have:=(List.getElem?_eq_some_iff.mp q).1
   simpa using this
  rw [List.getElem?_range l] at q
  cases q
  cases h
  exact ⟨rfl,l⟩
theorem aQ{m:Me}{ds:List D}{Q:List D→Prop}(h:Q ds):gU (m++[.lst ds]) m.length Q:=by
 unfold gU
 rw [List.getElem?_append_right (Nat.le_refl _),Nat.sub_self]
 exact h
theorem ci{α:Type}{m:List α}{a b:α}:(m++[a]).set m.length b=m++[b]:=by
 rw [List.set_append_right _ _ (Nat.le_refl _),Nat.sub_self]
 rfl
theorem oZ{m:Me}{n:Nat}{x:MO}{l:Me}(h:m[n]? =some x):(m++l)[n]? =some x:=by
 rw [List.getElem?_append_left (List.getElem?_eq_some_iff.mp h).1]
 exact h
theorem jE{n:Nat}{d:D}:sbs n d (some (.loc n))=some (.v d):=by
 show (if n=n then some (W.v d) else some (W.loc n))=_
 rw [if_pos rfl]
theorem zi{en:En}{i n:Nat}{d:D}(h:En.get en i=some (.loc n)):En.get (en.map (sbs n d)) i=some (.v d):=by
 have e:=En.get_some h
 unfold En.get
 rw [List.getElem?_map,e]
 show sbs n d (some (.loc n))=_
 exact jE
theorem mr{i:Nat}{u:DTS}{en:En}{m:Me}{ds:List D}{N:Dn}(h:En.get en i=some (.loc m.length))(k:u (en.map (sbs m.length (.lst ds))) (m++[.gone]) N):sFz i u en (m++[.lst ds]) N:=by
 unfold sFz
 rw [h]
 refine aQ ?_
 rw [ci]
 exact k
theorem qw{i:Nat}{en:En}{m:Me}{ds:List D}{N:Dn}(h:En.get en i=some (.loc m.length))(k:N.rt (.v (.lst ds)) (m++[.gone])):sFz i (lY (tV i)) en (m++[.lst ds]) N:=by
 refine mr h ?_
 unfold lY tV
 rw [zi h]
 exact k
section
variable {X:Cx} {E:XK}
theorem wM:DK X E [] tN:=⟨_,pk_nil,fun B μ en m σ H Q Qx QV R hx T k=>k B μ m H [] [] .refl R .nil T⟩
theorem tJ{e:Expr}{nm:Option Str}{kpos:Pos}{kws:List Keyword}{te:DTE}{ta:DTA}(he:DE X E e te)(ha:DK X E kws ta):DK X E (⟨nm,e,kpos⟩::kws) (tCn te ta):=by
 obtain ⟨t1,p1,k1⟩:=he.ex
 obtain ⟨t2,p2,k2⟩:=ha.ex
 refine ⟨_,pk_cons p1 p2,fun B μ en m σ H Q Qx QV R hx T k=>?_⟩
 refine k1 B μ en m σ H _ Qx _ R hx T fun B1 μ1 m1 H1 x v s1 R1 r1 T1=>?_
 refine k2 B1 μ1 en m1 σ H1 _ Qx _ R1 (hx.step s1 R1.mem R.mem.le) T1 fun B2 μ2 m2 H2 xs vs s2 R2 r2 T2=>?_
 exact k B2 μ2 m2 H2 _ _ (s1.trans R1.mem s2 R.mem.le) R2 (.cons (r1.to s2.same s2.pre) r2) T2
end
theorem MemOk.grow{K:Frag}{B:Hp}{μ:List Addr}{m:Me}{H H':Hp}(h:MemOk K B μ m H)(s:Same H H'):MemOk K B μ m H':=
 ⟨fun a o e=>s a o (h.le a o e),h.len,h.off,fun n a x e1 e2 e3=>OO.to (Same.refl _) (List.prefix_refl _) (fun o z=>s a o z) (h.at_ n a x e1 e2 e3),h.inj,h.ntb⟩
theorem Stp.grow{B:Hp}{μ:List Addr}{m:Me}{H H':Hp}(s:Same H H'):Stp B μ m H B μ m H':=⟨Same.refl _,List.prefix_refl _,fun a o _ e _=>s a o e,fun _ _ n _ _ b=>⟨b,n⟩⟩
abbrev erF(x:Str)(fs:List (Str×D)):List (Str×D):=fs++[(("code":Str),D.str x)]
section
variable {X:Cx} {E:XK} {C:Addr} {k:Nat} {x f:Str} {p pos pos':Pos}
def zj(C:Addr)(x:Str):DTS:=fun _ m N=>N.xc ⟨C,erF x []⟩ m
theorem og(M:OexM X.prog X.w X.K X.mg X.base k C (cb C 0 fun _=>[(("code":Str),V.str x)]))(room:Room (k+1) X.A)(hm:X.mg x=some (.ref C))(hc:X.calm=true)(tk:L2N.Takes X (fun cls d _ H=>E cls d H))(ho:okS x=true:=by decide+kernel)(hg:Gl X x:=by rfl)(hdb:(x == ("__debug__":Str))=false:=by decide):
  DS X E (.Raise (some (.Call (.Name x p) [] [] pos)) none pos') (zj C x):=by
 refine ⟨_,L2N.ps_raise hc tk (A8 M room hm hg hdb),fun B μ en m σ H N D R hx T e=>?_⟩
 refine rR rfl (by decide) fun d H' nd hd s=>?_
 exact hx B μ m H' ⟨C,erF x []⟩ d _ (Stp.grow s) (R.mem.grow s) hd (.cons (.str ho) .nil) T
def lD(C:Addr)(x f:Str)(ta:DTA):DTS:=fun en m N=>ta en m (fun xs m1=>match xs with
 | [.v d]=>N.xc ⟨C,erF x [(f,d)]⟩ m1
 | _=>False) N.xc
theorem bU{e:Expr}{ta:DTA}(M:OexM X.prog X.w X.K X.mg X.base k C (cb C 1 fun vs=>[(f,vs.headD .non),(("code":Str),V.str x)]))(room:Room (k+1) X.A)(hm:X.mg x=some (.ref C))(hc:X.calm=true)(tk:L2N.Takes X (fun cls d _ H=>E cls d H))(ha:DA X E [e] ta)(ho:okS x=true:=by decide+kernel)(hg:Gl X x:=by rfl)(hdb:(x == ("__debug__":Str))=false:=by decide)
  (he:starEach [e] X.env=(false,eval e X.env)::starEach [] X.env:=by rfl) (hpl:(backTo pos (starEach [] X.env)).any (·.1)=false:=by rfl):
  DS X E (.Raise (some (.Call (.Name x p) [e] [] pos)) none pos') (lD C x f ta):=by
 obtain ⟨t1,p1,k1⟩:=ha.ex
 refine ⟨_,L2N.ps_raise hc tk (Ce M room hm p1 hg hdb he hpl),fun B μ en m σ H N D R hx T e=>?_⟩
 refine k1 B μ en m σ H _ _ _ R hx T fun B1 μ1 m1 H1 xs vs s1 R1 r q=>?_
 split at q
 ·rename_i d
  cases r with
  | cons a t=>
   cases t
   refine rR rfl (by decide) fun dd H' nd hd s=>?_
   have st:=s1.trans R1.mem (Stp.grow s) R.mem.le
   exact hx B1 μ1 m1 H' ⟨C,erF x [(f,d)]⟩ dd _ st (R1.mem.grow s) hd (.cons a (.cons (.str ho) .nil)) q
 ·exact q.elim
end
def wN(er:Er)(Q:Str→D→Prop):Prop:=∃code d,er.fs.lookup ("code":Str)=some (.str code)∧decide (V.str code=V.str "Stopped")=false∧(match wj code with
 | some f=>er.fs.lookup f=some d
 | none=>d=.non)∧Q code d
structure ErrK (K:Frag) (c1 c2 c3 C:Addr):Prop where
 ex:ExK K C
 ca:PySem.W.exmAny K (.ref C) [.ref c1,.ref c2,.ref c3]=some true
theorem wO{K:Frag}{B:Hp}{μ:List Addr}{m:Me}{H H1:Hp}{T:List (Addr×Str)}(h:MemOk K B μ m H)(e:LamX.ExtN H H1)(t:LamX.Tabs T H1)(hT:∀(n:Nat) (a:Addr) (q:Str),m[n]? =some (MO.tab a q)→(a,q)∈T):
  ∃B1,Stp B μ m H B1 μ m H1∧MemOk K B1 μ m H1∧∀c q,H1 c=some (LamX.CodeO c q)→B1 c=some (LamX.CodeO c q):=by
 classical
 let B1:Hp:=fun b=>if B b=none∧∃q,H1 b=some (LamX.CodeO b q) then H1 b else B b
 have keep:∀b o,B b=some o→B1 b=some o:=fun b o z=>by
  show (if B b=none∧_ then _ else _)=_
  rw [if_neg (fun y=>by rw [z] at y; cases y.1)]
  exact z
 have ne:∀b o,B b=some o→H1 b=some o:=fun b o z=>e b o (h.le b o z) fun ps y=>h.ntb b ps (by rw [z,y])
 have same:Same B B1:=keep
 have off:∀a,Live μ m a→B1 a=none:=fun a l=>by
  show (if B a=none∧_ then _ else _)=_
  by_cases c:B a=none∧∃q,H1 a=some (LamX.CodeO a q)
  ·obtain ⟨n,x,e1,e2,e3⟩:=l
   obtain ⟨_,q,hq⟩:=c
   have o1:=h.at_ n a x e1 e2 e3
   exfalso
   cases x with
   | lst ds=>obtain ⟨vs,hv,_⟩:=o1; rw [e a _ hv (fun _ z=>nomatch z)] at hq; cases hq
   | dic ds=>obtain ⟨vs,hv,_⟩:=o1; rw [e a _ hv (fun _ z=>nomatch z)] at hq; cases hq
   | ins C fs=>obtain ⟨dx,vs,hv,_⟩:=o1; rw [e a _ hv (fun _ z=>nomatch z)] at hq; cases hq
   | bag=>obtain ⟨l,i,r,sd,ns,hv,_⟩:=o1; rw [e a _ hv (fun _ z=>nomatch z)] at hq; cases hq
   | tab p2 q2=>
    obtain ⟨ez,_⟩:=o1
    subst ez
    obtain ⟨ps,hv,_⟩:=t (a,q2) (hT n a q2 e2)
    rw [hv] at hq
    cases hq
   | gone=>cases e3
  ·rw [if_neg c]
   exact h.off a l
 refine ⟨B1,⟨same,List.prefix_refl _,fun a o nl ho nt=>e a o ho nt,fun a o nl ho nx nb=>⟨?_,nl⟩⟩,⟨fun b o z=>?_,h.len,off,fun n a x e1 e2 e3=>?_,h.inj,fun a ps z=>?_⟩,fun c q hc=>?_⟩
 ·show (if B a=none∧_ then _ else _)=_
  rw [if_neg (fun ⟨_,q,hq⟩=>by
   rw [e a o ho nx.2] at hq
   exact nx.1 _ (Option.some.inj hq))]
  exact nb
 ·have z:(if B b=none∧∃q,H1 b=some (LamX.CodeO b q) then H1 b else B b)=some o:=z
  by_cases c:B b=none∧∃q,H1 b=some (LamX.CodeO b q)
  ·rw [if_pos c] at z
   exact z
  ·rw [if_neg c] at z
   exact ne b o z
 ·have o1:=h.at_ n a x e1 e2 e3
  cases x with
  | tab p2 q=>
   obtain ⟨ez,_⟩:=o1
   subst ez
   obtain ⟨ps,hv,h2,h3⟩:=t (a,q) (hT n a q e2)
   refine ⟨rfl,ps,hv,h2,fun pos cv hc=>?_⟩
   obtain ⟨c,e4,e5⟩:=h3 pos cv hc
   refine ⟨c,e4,?_⟩
   show (if B c=none∧_ then _ else _)=_
   by_cases y:B c=none
   ·rw [if_pos ⟨y,q,e5⟩]
    exact e5
   ·obtain ⟨o,ho⟩:=Option.ne_none_iff_exists'.mp y
    rw [if_neg (fun z=>y z.1),ho]
    rw [ne c o ho] at e5
    exact e5
  | lst ds=>exact OO.to same (List.prefix_refl _) (fun o z=>e a o z (by obtain ⟨vs,hv,_⟩:=o1; rw [hv] at z; cases z; exact fun _ z=>nomatch z)) o1
  | dic ds=>exact OO.to same (List.prefix_refl _) (fun o z=>e a o z (by obtain ⟨vs,hv,_⟩:=o1; rw [hv] at z; cases z; exact fun _ z=>nomatch z)) o1
  | ins C fs=>exact OO.to same (List.prefix_refl _) (fun o z=>e a o z (by obtain ⟨dx,vs,hv,_⟩:=o1; rw [hv] at z; cases z; exact fun _ z=>nomatch z)) o1
  | bag=>exact OO.to same (List.prefix_refl _) (fun o z=>e a o z (by obtain ⟨l,i,r,sd,ns,hv,_⟩:=o1; rw [hv] at z; cases z; exact fun _ z=>nomatch z)) o1
  | gone=>trivial
 ·have z:(if B a=none∧∃q,H1 a=some (LamX.CodeO a q) then H1 a else B a)=some (.tbl ps):=z
  by_cases c:B a=none∧∃q,H1 a=some (LamX.CodeO a q)
  ·rw [if_pos c] at z
   obtain ⟨_,q,hq⟩:=c
   rw [hq] at z
   cases z
  ·rw [if_neg c] at z
   exact h.ntb a ps z
 ·show (if B c=none∧∃q,H1 c=some (LamX.CodeO c q) then H1 c else B c)=_
  cases e:B c with
  | none=>rw [if_pos ⟨rfl,q,hc⟩,hc]
  | some o=>
   have e2:=ne c o e
   rw [if_neg (fun z=>nomatch z.1),←e2,hc]
theorem zk{K:Frag}{B:Hp}{μ:List Addr}{m:Me}{H H1:Hp}{T:List (Addr×Str)}(h:MemOk K B μ m H)(e:LamX.ExtN H H1)(t:LamX.Tabs T H1)(hT:∀(n:Nat) (a:Addr) (q:Str),m[n]? =some (MO.tab a q)→(a,q)∈T):
  ∃B1,Stp B μ m H B1 μ m H1∧MemOk K B1 μ m H1:=let ⟨B1,a,b,_⟩:=wO h e t hT; ⟨B1,a,b⟩
section
variable {X:Cx} {E:XK}
def wP(m:Me)(P:Addr)(q:Str):Prop:=(∃n:Nat,m[n]? =some (MO.tab P q))∧∀(n:Nat) P2 q2,m[n]? =some (MO.tab P2 q2)→P2=P∧q2=q
def CF(K:Frag)(c1 c2 c3 P:Addr)(q:Str)(T:DTE):DTE:=fun en m Q _=>wP m P q∧T en m (fun x m1=>oD x fun d=>Q (.v (.tup [.str "value",d])) m1) (fun er m1=>ErrK K c1 c2 c3 er.C∧wN er fun code d=>Q (.v (.tup [.str code,d])) m1)
theorem Bo{K:Frag}{B:Hp}{μ:List Addr}{m:Me}{H:Hp}{code:Str}{v:V}{d:D}{QV:VK}(M:MemOk K B μ m H)(ho:okS code=true)(r:Rv K B v d)(q:∀B' H' z,Stp B μ m H B' μ m H'→MemOk K B' μ m H'→Rv K B' z (.tup [.str code,d])→QV z H'):AH H (.str code) v QV:=by
 refine ⟨(by show 2≤sizeLine; decide),fun p H' np s hp=>?_⟩
 -- H'=H with the pair at p (and perhaps more)
 have M1:=M.grow s
 have nb:B p=none:=by
  cases e:B p with
  | none=>rfl
  | some u=>exact absurd np (M.le.some e)
 have nl:¬Live μ m p:=fun l=>M.there l np
 have same:Same B (upd B p (.tup [.str code,v])):=aJ nb _
 have M2:MemOk K (upd B p (.tup [.str code,v])) μ m H':=by
  refine ⟨fun a o e=>?_,M.len,fun a l=>?_,fun n a x e1 e2 e3=>OO.to same (List.prefix_refl _) (fun _ z=>z) (M1.at_ n a x e1 e2 e3),M.inj,fun a ps e=>?_⟩
  ·by_cases c:a=p
   ·subst c
    rw [upd_same] at e
    cases e
    exact hp
   ·rw [upd_ne c] at e
    exact M1.le a o e
  ·have c:a≠p:=fun z=>by
    subst z
    exact nl l
   rw [upd_ne c]
   exact M.off a l
  ·by_cases c:a=p
   ·subst c
    rw [upd_same] at e
    cases e
   ·rw [upd_ne c] at e
    exact M.ntb a ps e
 have st:Stp B μ m H (upd B p (.tup [.str code,v])) μ m H':=⟨same,List.prefix_refl _,fun a o _ e _=>s a o e,fun a o n e _ b=>⟨by rw [upd_ne (ne_of_none e np)]; exact b,n⟩⟩
 exact q _ H' _ st M2 (.tup (.inl upd_same) (.cons (.str ho) (.cons (r.to same) .nil)))
theorem CG{K:Frag}{B:Hp}{fvs:List (Str×V)}{fs:List (Str×D)}{code:Str}{d:D}(rf:RvF K B fvs fs)(h1:fs.lookup ("code":Str)=some (.str code)) (h3:match wj code with
 | some f=>fs.lookup f=some d
 | none=>d=.non):fvs.lookup ("code":Str)=some (.str code)∧okS code=true∧∃v,yV code fvs v∧Rv K B v d:=by
 obtain ⟨v,e,r⟩:=rf.look h1
 cases r with
 | str ho=>
  refine ⟨e,ho,?_⟩
  unfold yV
  cases q:wj code with
  | none=>
   rw [q] at h3
   have h3:d=.non:=h3
   subst h3
   exact ⟨_,rfl,.non⟩
  | some f=>
   rw [q] at h3
   exact rf.look h3
end
def KwTo{α:Type}(D:Addr):List (Str×Value)→Sem α→Sem α→Prop
 | [],t,r=>t=r
 | q::l,t,r=>∃(β γ:Type) (k1:Option Value→Sem β) (k2:β→Sem γ) (k3:γ→Sem α) (a:β),t=((nsGet D q.1>>= k1)>>= k2)>>= k3∧k1 (some q.2)=pure a∧KwTo D l (k2 a>>= k3) r
theorem KwTo.one{α β γ:Type}{D:Addr}{q:Str×Value}{l:List (Str×Value)}{t r:Sem α}{k1:Option Value→Sem β}{k2:β→Sem γ}{k3:γ→Sem α}{a:β}(h1:t=((nsGet D q.1>>= k1)>>= k2)>>= k3)(h2:k1 (some q.2)=pure a)(h3:KwTo D l (k2 a>>= k3) r):KwTo D (q::l) t r:=⟨β,γ,k1,k2,k3,a,h1,h2,h3⟩
theorem KwTo.run{α:Type}{K:Frag}{M:Model}{A:Around}{E:Value→Shared→Prop}{s:Shared}{Q:α→Shared→Prop}{D:Addr}(X:K.In s.heap):∀{l:List (Str×Value)} {t r:Sem α},(∀q∈l,PySem.W.nsIn K D q.1=some (some q.2))→KwTo D l t r→wpAny M A r Q E s→wpAny M A t Q E s
 | [],t,r,_,e,h=>by
  rw [show t=r from e]
  exact h
 | q::l,t,r,hl,e,h=>by
  obtain ⟨β,γ,k1,k2,k3,a,rfl,e2,e3⟩:=e
  rw [bind_assoc]
  have l1:PySem.W.Looks M s.heap (nsGet D q.1>>= k1) a:=(PySem.W.looks_nsIn X (hl q List.mem_cons_self)).andThen (PySem.W.Looks.of_pure e2)
  exact wpAny_bind (l1.here (KwTo.run X (fun p hp=>hl p (List.mem_cons_of_mem _ hp)) e3 h))
def Dv(P:Program)(w:World)(K:Frag)(mg:Str→Option Value)(base:Heap)(k:Nat)(f:Addr)(ks:List Str)(sp:List V→List V→Hp→VK→Prop):Prop:=
 ∀(A:Around) (outer:List Env) (s:Shared) (H:Hp) (us ws:List Value) (vs zs:List V) (Q:VK),Room k A→Env0 P w K mg base A outer s H→Vals vs us→Vals zs ws→zs.length=ks.length→sp vs zs H Q→
  codeAny (model P w) A (.call (.ref f) ⟨us,ks.zip ws⟩) (CR CX0 outer P w H s Q E0) s
section
variable {P:Program} {w:World} {K:Frag} {mg:Str→Option Value} {base:Heap} {x qual:Str} {params:Arguments} {body:List Stmt} {scope:Scope} {kws:List (Str×V)} {f:Addr} {fd:FuncData} {N ps:List Str} {k:Nat}
end
section
variable {X:Cx} {k:Nat} {f:Addr} {x:Str} {ks:List Str} {sp:List V→List V→Hp→VK→Prop} {p pos:Pos}
variable {e:Expr} {es:List Expr} {kws:List Keyword} {t tk:TA}
structure GsK (P:Program) (w:World) (K:Frag) (mg:Str→Option Value) (base:Heap) (k:Nat) (x:Str) (ks:List Str) (sp:List V→List V→Hp→VK→Prop):Prop where
 ex:∃f,mg x=some (.ref f)∧PySem.W.keepIn K (.ref f)=true∧Dv P w K mg base k f ks sp
end
mutual
def eu(K:Frag):Nat→Value→D→Bool
 | _,.none,.non=>true
 | _,.bool b,.bl c=>b == c
 | _,.int i _,.int j=>decide (i=j)
 | _,.str x _,.str y=>decide (x=y)&&okS y
 | n+1,.ref a,.tup ds=>(match K.lookup a with
  | some ⟨.type c,_,.seq its _,_⟩=>decide (c="tuple")&&(decide (its.size≤sizeLine)&&conUs K n its.toList ds)
  | _=>false)
 | _,_,_=>false
def conUs(K:Frag):Nat→List Value→List D→Bool
 | _,[],[]=>true
 | n,u::us,d::ds=>eu K n u d&&conUs K n us ds
 | _,_,_=>false
end
mutual
theorem tL {K : Frag} : ∀ {n : Nat} {d : D} {u : Value}, eu K n u d = true → ∃ v, RelV v u ∧ ∀ B, Rv K B v d
  | n, .non, u, h => by
    cases u <;> first | exact ⟨.non, rfl, fun _ => .non⟩ | (exfalso; cases n <;> cases h)
  | n, .bl c, u, h => by
    cases u <;> first
      | (have h : (_ == c) = true := h
         exact ⟨.bl c, by rw [eq_of_beq h]; rfl, fun _ => .bl c⟩)
      | (exfalso; cases n <;> cases h)
  | n, .int j, u, h => by
    cases u <;> first
      | (have h := of_decide_eq_true (show decide (_ = j) = true from h)
         exact ⟨.int j, by rw [h]; exact ⟨_, rfl⟩, fun _ => .int j⟩)
      | (exfalso; cases n <;> cases h)
  | n, .str y, u, h => by
    cases u <;> first
      | (have h := Bool.and_eq_true_iff.mp (show (decide (_ = y) && okS y) = true from h)
         exact ⟨.str y, by rw [of_decide_eq_true h.1]; exact ⟨_, rfl⟩, fun _ => .str h.2⟩)
      | (exfalso; cases n <;> cases h)
  | n + 1, .tup ds, u, h => by
    cases u with
    | ref a =>
      have h : (match K.lookup a with
        | some ⟨.type c, _, .seq its _, _⟩ => decide (c = "tuple") && (decide (its.size ≤ sizeLine) && conUs K n its.toList ds)
        | _ => false) = true := h
      cases q : K.lookup a with
      | none =>
        rw [q] at h
        cases h
      | some o =>
        obtain ⟨oc, od, dt, osl⟩ := o
        rw [q] at h
        cases oc with
        | type c =>
          cases dt with
          | seq its k =>
            have h := Bool.and_eq_true_iff.mp (show (decide (c = "tuple") && (decide (its.size ≤ sizeLine) && conUs K n its.toList ds)) = true from h)
            have h2 := Bool.and_eq_true_iff.mp h.2
            obtain ⟨vs, r, hv⟩ := conUs_ok h2.2
            exact ⟨.ref a, rfl, fun B => .tup (.inr ⟨_, its, k, q, congrArg Value.type (of_decide_eq_true h.1), rfl, of_decide_eq_true h2.1, r⟩) (hv B)⟩
          | _ => cases h
        | _ => cases dt <;> cases h
    | _ => cases h
  | 0, .tup ds, u, h => by cases u <;> cases h
  | n, .ty _, u, h => by cases u <;> cases n <;> cases h
  | n, .fn _, u, h => by cases u <;> cases n <;> cases h
  | n, .lst _, u, h => by cases u <;> cases n <;> cases h
  | n, .dic _, u, h => by cases u <;> cases n <;> cases h
  | n, .obj _ _, u, h => by cases u <;> cases n <;> cases h
  | n, .exc _ _, u, h => by cases u <;> cases n <;> cases h
  | n, .lam _ _ _, u, h => by cases u <;> cases n <;> cases h
theorem conUs_ok{K:Frag}:∀{n:Nat} {ds:List D} {us:List Value},conUs K n us ds=true→∃vs,Vals vs us∧∀B,RvL K B vs ds
 | _,[],[],_=>⟨[],.nil,fun _=>.nil⟩
 | _,[],_::_,h=>by cases h
 | _,_::_,[],h=>by cases h
 | n,d::ds,u::us,h=>by
  have h:=Bool.and_eq_true_iff.mp (show (eu K n u d&&conUs K n us ds)=true from h)
  obtain ⟨v,r,hv⟩:=tL h.1
  obtain ⟨vs,rs,hvs⟩:=conUs_ok h.2
  exact ⟨v::vs,.cons r rs,fun B=>.cons (hv B) (hvs B)⟩
end
section
variable {X:Cx} {E:XK}
theorem eA{n:Nat}{x:Str}{d:D}{u:Value}{pos:Pos}(hm:X.mg x=some u)(h:eu X.K n u d=true)(hg:Gl X x:=by rfl)(hd:(x == ("__debug__":Str))=false:=by decide):DE X E (.Name x pos) (tK d):=by
 obtain ⟨v,r,hv⟩:=tL h
 exact j6 hm r hv hg hd
theorem RvL.ws'{K:Frag}{B:Hp}{μ:List Addr}{vs us:List V}{ds:List D}{xs:List W}(h:RvL K B vs ds)(r:RWs K B μ us xs):RWs K B μ (vs++us) (ds.map .v++xs):=by
 induction vs generalizing ds with
 | nil=>cases h; exact r
 | cons v vs ih=>cases h with
  | cons a t=>exact .cons (RW.d a) (ih t)
end
theorem tO(xs:List D)(k:Nat):kZ xs none (some (k:Int))=xs.take k:=by
 unfold kZ
 rw [HT.sIx_none,HT.sIx_nat,List.drop_zero,Nat.sub_zero]
 by_cases h:k≤xs.length
 ·rw [Nat.min_eq_left h]
 ·rw [Nat.min_eq_right (by omega),List.take_of_length_le (Nat.le_refl _),List.take_of_length_le (by omega)]
theorem RWs.append{K:Frag}{B:Hp}{μ:List Addr}{vs us:List V}{xs ys:List W}(a:RWs K B μ vs xs)(b:RWs K B μ us ys):RWs K B μ (vs++us) (xs++ys):=by
 induction a with
 | nil=>exact b
 | cons h _ ih=>exact .cons h ih
section
variable {P:Program} {w:World} {K:Frag} {mg:Str→Option Value} {base:Heap} {x:Str} {st:Stmt} {kwd:List (Str×V)} {f:Addr} {fd:FuncData} {N ps:List Str} {k:Nat} {sp:SpD}
end
section
variable {X:Cx} {E:XK} {k:Nat} {x:Str} {ks:List Str} {sp:SpD} {gW:List W→List W} {e:Expr} {es:List Expr} {kws:List Keyword} {ta tk:DTA} {p pos:Pos}
end
section
variable {X:Cx} {E:XK}
def gLs(n:Nat)(t:oM):DTG:=fun x en m Q=>match x with
 | .v (.lst ds)=>ds.length=n∧t (ds.map .v) en m Q
 | _=>False
theorem wQ{es:List Expr}{k:Nat}{t:oM}{n:Nat}{is:List Nat}{pos:Pos}(hc:X.calm=true)(h:DGs X es is t)(hn:(assignEach es X.env).length=n:=by rfl)(hst:(assignEach es X.env).findIdx? (·.1)=none:=by rfl):DG X (.Tuple es k pos) is (gLs n t):=by
 obtain ⟨t1,p1,k1⟩:=h.ex
 refine ⟨_,pg_lst hc p1 hn hst,fun B μ en m σ H x v Q QV R r T k=>?_⟩
 unfold gLs at T
 split at T
 ·rename_i ds
  obtain ⟨hl,T⟩:=T
  cases r with
  | lst hs hr=>exact ⟨_,_,rfl,.inl (.inl (R.mem.le _ _ hs)),by rw [hr.len]; exact hl,k1 B μ en m σ H _ _ _ _ R hr.ws T k⟩
 ·exact T.elim
def Bp:DMt:=fun x xs m Q=>match x,xs with
 | .loc n,[.v (.int i),.v d]=>gU m n fun ds=>ds.length<sizeLine∧0≤i∧i<2 ^ 63∧Q .non (m.set n (.lst (ds.take i.toNat++[d]++ds.drop i.toNat)))
 | _,_=>False
theorem zm:SM X (fun x vs H Q=>∃(l:Addr) (xs:List V) (i:Int) (y:V),x=.ref l∧vs=[.int i,y]∧H l=some (.lst xs)∧xs.length<sizeLine∧0≤i∧i<2 ^ 63∧
  Q .non (upd H l (.lst (xs.take i.toNat++[y]++xs.drop i.toNat)))) Bp:=by
 intro B μ m H x xs v vs Q QV M r rs q k
 unfold Bp at q
 split at q
 ·rename_i n i d
  obtain ⟨ds,hm,q⟩:=gY q
  obtain ⟨a,rfl,ha⟩:=r
  obtain ⟨us,hv,rl⟩:=M.at_ n a _ ha hm rfl
  cases rs with
  | cons ri r2=>
   cases (show Rv X.K B _ (.int i) from ri)
   cases r2 with
   | cons rd rn=>
    cases rn
    rename_i vd
    have kp:∀b o,b≠a→H b=some o→upd H a (.lst (us.take i.toNat++[vd]++us.drop i.toNat)) b=some o:=fun b o c e=>by rw [upd_ne c]; exact e
    refine ⟨a,us,i,vd,rfl,rfl,hv,by rw [rl.len]; exact q.1,q.2.1,q.2.2.1,?_⟩
    have new:OO X.K B μ (upd H a (.lst (us.take i.toNat++[vd]++us.drop i.toNat))) a (.lst (ds.take i.toNat++[d]++ds.drop i.toNat)):=⟨_,upd_same,((rl.take _).append (.one rd)).append (rl.drop _)⟩
    exact k B _ _ .non _ (Stp.store ha hm rfl kp) (M.store ha hm rfl rfl kp new) .non q.2.2.2
 ·exact q.elim
theorem wR{o e e2:Expr}{to:DTE}{ta:DTA}{apos pos:Pos}(ho:DE X E o to)(ha:DA X E [e,e2] ta)(hb:attributeBase o "insert" X.env (eval o X.env)=eval o X.env:=by rfl)
  (hfew:((backTo pos (starEach [e,e2] X.env)).all (fun x=> !x.1)&&(backToKw pos (keywordEach [] X.env)).all (fun x=>x.1.isSome)
   &&decide ([e,e2].length+([]:List Keyword).length+(if ([]:List Keyword).isEmpty then 0 else 1)<30))=true:=by rfl)
  (hline:(apos.endLine == pos.line)=true:=by rfl) (hs:starEach [e,e2] X.env=(false,eval e X.env)::starEach [e2] X.env:=by rfl) (hplain:(backTo pos (starEach [e2] X.env)).any (·.1)=false:=by rfl):
  DE X E (.Call (.Attribute o "insert" apos) [e,e2] [] pos) (tMe me Bp to ta):=rW PySem.F.plainAttrs_list PySem.F.slot_list_insert PySem.F.type_list_insert L2.mt_insert zm oP ho ha hb hfew hline hs hplain
end
section
variable {X:Cx} {E:XK} {a b:Expr} {ta tb:DTE} {pos:Pos}
end
section
variable {X:Cx} {E:XK} {o e:Expr} {to:DTE} {ta:DTA} {apos cpos:Pos}
def ssF(f:Str→Str→D)(a:Str):D→(D→Prop)→Prop
 | .str b,Q=>Q (f a b)
 | _,_=>False
theorem sa(ho:DE X E o to)(ha:DA X E [e] ta)
  (hbase:attributeBase o "endswith" X.env (eval o X.env)=eval o X.env:=by rfl)
  (hfew:((backTo cpos (starEach [e] X.env)).all (fun x=> !x.1)&&(backToKw cpos (keywordEach [] X.env)).all (fun x=>x.1.isSome)
   &&decide ([e].length+([]:List Keyword).length+(if ([]:List Keyword).isEmpty then 0 else 1)<30))=true:=by rfl)
  (hline:(apos.endLine == cpos.line)=true:=by rfl) (hs:starEach [e] X.env=(false,eval e X.env)::starEach [] X.env:=by rfl) (hplain:(backTo cpos (starEach [] X.env)).any (·.1)=false:=by rfl):
  DE X E (.Call (.Attribute o "endswith" apos) [e] [] cpos) (tMe qr (m1 (ssF fun a b=>.bl (Txt.endswith a b))) to ta):=
 rW PySem.F.plainAttrs_str PySem.F.slot_str_endswith PySem.F.type_str_endswith mt_endswith (SM.of1 fun B μ m H a v d Q QV M ha td q k=>by
  cases d with
  | str b=>
   cases td
   exact ⟨a,b,rfl,rfl,SO.pure M k (.bl _) q⟩
  | _=>exact q.elim) jA ho ha hbase hfew hline hs hplain
theorem tP(ho:DE X E o to)(ha:DA X E [e] ta)
  (hbase:attributeBase o "count" X.env (eval o X.env)=eval o X.env:=by rfl)
  (hfew:((backTo cpos (starEach [e] X.env)).all (fun x=> !x.1)&&(backToKw cpos (keywordEach [] X.env)).all (fun x=>x.1.isSome)
   &&decide ([e].length+([]:List Keyword).length+(if ([]:List Keyword).isEmpty then 0 else 1)<30))=true:=by rfl)
  (hline:(apos.endLine == cpos.line)=true:=by rfl) (hs:starEach [e] X.env=(false,eval e X.env)::starEach [] X.env:=by rfl) (hplain:(backTo cpos (starEach [] X.env)).any (·.1)=false:=by rfl):
  DE X E (.Call (.Attribute o "count" apos) [e] [] cpos) (tMe qr (m1 (ssF fun a b=>.int (Txt.count a b))) to ta):=
 rW PySem.F.plainAttrs_str PySem.F.slot_str_count PySem.F.type_str_count mt_count (SM.of1 fun B μ m H a v d Q QV M ha td q k=>by
  cases d with
  | str b=>
   cases td
   exact ⟨a,b,rfl,rfl,SO.pure M k (.int _) q⟩
  | _=>exact q.elim) jA ho ha hbase hfew hline hs hplain
end
theorem lF(S:List Nat):∀(l:List Nat) (k:Nat) (acc:List Nat),∀p∈TL.spl S k acc l,∀c∈p,c∈acc∨c∈l
 | [],k,acc,p,hp,c,hc=>by
  have hp:p∈[acc]:=by cases k <;> exact hp
  rw [List.mem_singleton.mp hp] at hc
  exact .inl hc
 | x::l,0,acc,p,hp,c,hc=>by
  have hp:p∈(if TL.pre S (x::l)=true then acc::TL.spl S (S.length - 1) [] l else TL.spl S 0 (acc++[x]) l):=hp
  by_cases h:TL.pre S (x::l)=true
  ·rw [if_pos h] at hp
   rcases List.mem_cons.mp hp with e | hp
   ·rw [e] at hc
    exact .inl hc
   ·rcases lF S l _ [] p hp c hc with z | z
    ·cases z
    ·exact .inr (List.mem_cons_of_mem _ z)
  ·rw [if_neg h] at hp
   rcases lF S l 0 (acc++[x]) p hp c hc with z | z
   ·rcases List.mem_append.mp z with z | z
    ·exact .inl z
    ·rw [List.mem_singleton.mp z]
     exact .inr List.mem_cons_self
   ·exact .inr (List.mem_cons_of_mem _ z)
 | x::l,k+1,acc,p,hp,c,hc=>by
  have hp:p∈TL.spl S k acc l:=hp
  rcases lF S l k acc p hp c hc with z | z
  ·exact .inl z
  ·exact .inr (List.mem_cons_of_mem _ z)
theorem ve{a b:Str}(ha:okS a=true)(hb:TL.tl b≠[])(hk:¬Builtin.Str.strKind a<Builtin.Str.strKind b):∀z∈Txt.split a b,okS z=true:=fun z hz=>by
 refine aX.mpr fun c hc=>?_
 have h:TL.tl z∈(Txt.split a b).map TL.tl:=List.mem_map_of_mem hz
 rw [TL.split_spl a b hb hk] at h
 rcases lF _ _ _ _ _ h c hc with e | e
 ·cases e
 ·exact aX.mp ha c e
theorem qy{K:Frag}{B:Hp}:∀{zs:List Str},(∀z∈zs,okS z=true)→RvL K B (zs.map V.str) (zs.map D.str)
 | [],_=>.nil
 | z::zs,h=>.cons (.str (h z List.mem_cons_self)) (qy fun y hy=>h y (List.mem_cons_of_mem _ hy))
section
variable {X:Cx} {E:XK} {o e:Expr} {to:DTE} {ta:DTA} {apos cpos:Pos}
def spF(a:Str):D→(D→Prop)→Prop
 | .str b,Q=>b.cps.all (·<256)=true∧TL.tl b≠[]∧a.length+2≤sizeLine∧Q (.lst ((Txt.split a b).map .str))
 | _,_=>False
theorem o3(ho:DE X E o to)(ha:DA X E [e] ta)
  (hbase:attributeBase o "split" X.env (eval o X.env)=eval o X.env:=by rfl)
  (hfew:((backTo cpos (starEach [e] X.env)).all (fun x=> !x.1)&&(backToKw cpos (keywordEach [] X.env)).all (fun x=>x.1.isSome)
   &&decide ([e].length+([]:List Keyword).length+(if ([]:List Keyword).isEmpty then 0 else 1)<30))=true:=by rfl)
  (hline:(apos.endLine == cpos.line)=true:=by rfl) (hs:starEach [e] X.env=(false,eval e X.env)::starEach [] X.env:=by rfl) (hplain:(backTo cpos (starEach [] X.env)).any (·.1)=false:=by rfl):
  DE X E (.Call (.Attribute o "split" apos) [e] [] cpos) (tMe qr (m1 spF) to ta):=
 rW PySem.F.plainAttrs_str PySem.F.slot_str_split PySem.F.type_str_split mt_split (SM.of1 fun B μ m H a v d Q QV M ha td q k=>by
  cases d with
  | str b=>
   cases td
   obtain ⟨q1,q2,q3,q⟩:=q
   refine ⟨a,b,rfl,rfl,?_,q3,fun p np=>SO.new M k np (iw M np (qy (ve ha q2 (TL.kind_ok q1)))) q⟩
   cases hz:b.length with
   | zero=>exact absurd ((TL.len0_tl b).mp hz) q2
   | succ n=>rfl
  | _=>exact q.elim) jA ho ha hbase hfew hline hs hplain
end
section
variable {X:Cx}
def zn(K:Frag):R2:=fun x y H Q=>∃d ds,Dp K H x d∧Dp K H y (.tuple ds)∧SeqAt.shaped d=true∧SeqAt.shaped (.tuple ds)=true∧Q (.bl (!ds.any fun z=>PyData.eqv z d)) H
theorem vf(hu:X.A.units+65<cLine):OpR X (compareOp .NotIn) (zn X.K):=by
 intro pins s σ H x y v u Q I rx ry ⟨d,ds,hd,he,sd,se,q⟩
 obtain ⟨as,r1⟩:=Dp.reads I d x v hd rx
 obtain ⟨bs,r2⟩:=Dp.reads I (.tuple ds) y u he ry
 exact SeqAt.notIn_tuple_reads r2 r1 (SeqAt.canLay_of_shaped se) (SeqAt.canLay_of_shaped sd) (room_in_shaped sd hu) ⟨.bl _,H,I,rfl,q⟩
def Dw:F2
 | x,.tup ds,Q=>b7 x=true∧plainL ds=true∧kY x≤64∧depL ds+1≤64∧Q (.bl (!ds.any fun y=>deq y x))
 | _,_,_=>False
theorem wS(hu:X.A.units+65<cLine):OpD X (compareOp .NotIn) (oL Dw):=by
 refine ⟨_,vf hu,SO.of fun B μ m H v u dx dy Q QV M tx ty q k=>?_⟩
 cases dy with
 | tup ds=>
  obtain ⟨q1,q2,q3,q4,q⟩:=q
  obtain ⟨a,b,c,d⟩:=mi (dy:=.tup ds) M.le tx ty q1 q2 q3 q4
  refine ⟨_,pyL _,a,b,c,d,?_⟩
  rw [oV q2 q1]
  exact SO.pure M k (.bl _) q
 | _=>exact q.elim
end
section
variable {P:Program} {w:World} {K:Frag} {mg:Str→Option Value} {base:Heap} {CX:CXT} {x:Str} {st:Stmt} {kws:List (Str×V)} {N ps:List Str} {k:Nat} {sp:Sp} {f:Addr} {fd:FuncData}
theorem vg(F:FunD K x x (defArgs st) (defBody st) (defScope st) [] kws f fd)(hk:kws≠[])
  (hb:∀(D:Addr) (doc pm:Value) (an:Option Addr) (cdv ct:Value) (us mv:List Value),us.length+kws.length=ps.length→mv.length=kws.length→
   KwTo D ((kws.map (·.1)).zip mv) (bindArgs (PySem.W.fnOf x x (defArgs st) (defBody st) (defScope st) .none (.ref D) doc pm an cdv ct) ⟨us,[]⟩) (pure (ps.zip (us++mv)))):∃ds,Vals (kws.map (·.2)) ds∧Binds K fd ps ds:=by
 obtain ⟨oc,od,dV,kV,doc,pm,an,cdv,ct,osl,rfl,lk,hcd,hD,hK⟩:=F.ex
 rcases hD with ⟨_,rfl⟩ | ⟨e,_⟩
 case inr=>exact absurd rfl e
 rcases hK with e | ⟨D,rfl,hkw⟩
 ·exact absurd e hk
 obtain ⟨mv,hl,rk,hks⟩:=kwd_vals (ms:=kws) fun q hm=>hkw q hm
 refine ⟨mv,rk,fun s us X hlen M A E Q q=>?_⟩
 exact KwTo.run X hks (hb D doc pm an cdv ct us mv (by rw [List.length_append] at hlen; omega) hl) (wpAny_pure q)
theorem Fo.gkwo(F:Fo P w K mg base CX k x st [] kws ps sp)(G:Gsd K mg x st [] kws)(hk:kws≠[])
  (hb:∀(D:Addr) (doc pm:Value) (an:Option Addr) (cdv ct:Value) (us mv:List Value),us.length+kws.length=ps.length→mv.length=kws.length→
   KwTo D ((kws.map (·.1)).zip mv) (bindArgs (PySem.W.fnOf x x (defArgs st) (defBody st) (defScope st) .none (.ref D) doc pm an cdv ct) ⟨us,[]⟩) (pure (ps.zip (us++mv)))):Gdd P w K mg base CX k x ps (kws.map (·.2)) sp:=by
 obtain ⟨f,fd,a,D⟩:=G
 obtain ⟨ds,v,b⟩:=vg D hk hb
 exact ⟨f,fd,ds,a,D.kp,v,b,F f fd D⟩
end
section
variable {X:Cx} {E:XK} {CX:CXT} {k:Nat} {x:Str} {ps:List Str} {sp:SpD} {e:Expr} {es:List Expr} {p pos:Pos} {ta:DTA}
theorem o4{dv:List V}{dw:List D}(G:Gdd X.prog X.w X.K X.mg X.base CX k x ps dv (lift X.K sp)∧∀B,RvL X.K B dv dw)(hr:Room k X.A)(hx:Passes CX X E)(ha:DA X E (e::es) ta)
  (hg:Gl X x:=by rfl) (hdb:(x == ("__debug__":Str))=false:=by decide) (he:starEach (e::es) X.env=(false,eval e X.env)::starEach es X.env:=by rfl) (hpl:(backTo pos (starEach es X.env)).any (·.1)=false:=by rfl):
  DE X E (.Call (.Name x p) (e::es) [] pos) (l9 (fun ws=>sp (ws++dw.map .v)) ta):=by
 obtain ⟨t1,p1,k1⟩:=ha.ex
 obtain ⟨f,fd,ds,a,b,c,d,F⟩:=G.1.ex
 exact ⟨_,pe_call F hr hg a b d c hx p1 hdb he hpl,k1.call G.2⟩
end
section
variable {prog:Program} {w:World} {A:Around} {E:Value→Shared→Prop} {s:Shared}
end
section
variable {X:Cx} {E:XK}
end
section
variable {X:Cx} {E:XK} {nm:Str} {dA:Addr} {es:Array DictEntry} {n:Nat} {kvs:List (Str×D)} {a b:Expr} {ta tb:DTE} {p pos:Pos}
end
def vh(kvs:List (Key×D))(k:Key):Option D:=(kvs.find? fun kv=>decide (kv.1=k)).map (·.2)
def AN(kvs:List (Key×D))(k:Key)(v:D):List (Key×D):=
 if (kvs.any fun kv=>decide (kv.1=k))=true then kvs.map (fun kv=>if kv.1=k then (kv.1,v) else kv) else kvs++[(k,v)]
theorem RvK.keys{K:Frag}{B:Hp}:∀{vs:List (Key×V)} {ds:List (Key×D)},RvK K B vs ds→vs.map (·.1)=ds.map (·.1)
 | _,_,.nil=>rfl
 | _,_,.cons _ _ t=>by rw [List.map_cons,List.map_cons,t.keys]
theorem RvK.any{K:Frag}{B:Hp}(k:Key):∀{vs:List (Key×V)} {ds:List (Key×D)},RvK K B vs ds→(vs.any fun kv=>decide (kv.1=k))=(ds.any fun kv=>decide (kv.1=k))
 | _,_,.nil=>rfl
 | _,_,.cons _ _ t=>by rw [List.any_cons,List.any_cons,t.any k]
theorem RvK.val{K:Frag}{B:Hp}(k:Key):∀{vs:List (Key×V)} {ds:List (Key×D)},RvK K B vs ds→(valV vs k=none∧vh ds k=none)∨∃v d,valV vs k=some v∧vh ds k=some d∧Rv K B v d
 | _,_,.nil=>.inl ⟨rfl,rfl⟩
 | _,_,.cons (k:=k0) (v:=v) (vs:=vs) (d:=d) (ds:=ds) _ r t=>by
  by_cases c:k0=k
  ·refine .inr ⟨v,d,by rw [valV_pos c],?_,r⟩
   simp [vh,List.find?_cons,c]
  ·rw [valV_neg (p:=(k0,v)) c]
   have z:vh ((k0,d)::ds) k=vh ds k:=by simp [vh,List.find?_cons,c]
   rw [z]
   exact t.val k
theorem RvK.app{K:Frag}{B:Hp}:∀{vs us:List (Key×V)} {ds es:List (Key×D)},RvK K B vs ds→RvK K B us es→RvK K B (vs++us) (ds++es)
 | _,_,_,_,.nil,r=>r
 | _,_,_,_,.cons k h t,r=>.cons k h (t.app r)
theorem RvK.mapput{K:Frag}{B:Hp}{k:Key}{v:V}{d:D}(h:Rv K B v d):∀{vs:List (Key×V)} {ds:List (Key×D)},RvK K B vs ds→RvK K B (vs.map fun kv=>if kv.1=k then (kv.1,v) else kv) (ds.map fun kv=>if kv.1=k then (kv.1,d) else kv)
 | _,_,.nil=>.nil
 | _,_,.cons (k:=k0) ko h0 t=>by
  rw [List.map_cons,List.map_cons]
  by_cases c:k0=k
  ·rw [if_pos c,if_pos c]
   exact .cons ko h (t.mapput h)
  ·rw [if_neg c,if_neg c]
   exact .cons ko h0 (t.mapput h)
theorem RvK.put{K:Frag}{B:Hp}{k:Key}{v:V}{d:D}{vs:List (Key×V)}{ds:List (Key×D)}(r:RvK K B vs ds)(ko:tj k)(h:Rv K B v d):RvK K B (putK vs k v) (AN ds k d):=by
 unfold putK AN
 rw [r.any k]
 split
 ·exact r.mapput h
 ·exact r.app (.cons ko h .nil)
section
variable {X:Cx} {E:XK}
end
section
variable {X:Cx} {E:XK}
end
section
variable {X:Cx} {E:XK}
end
section
variable {X:Cx} {E:XK}
end
section
variable {X:Cx} {E:XK}
end
section
variable {P:Program} {w:World} {K:Frag} {mg:Str→Option Value} {base:Heap} {name qual:Str} {st:Stmt} {N ps:List Str} {k:Nat} {sp:SpD} {f:Addr} {fd:FuncData}
theorem vj(D:FunD K name qual (defArgs st) (defBody st) (defScope st) [] [] f fd)(S:FnScope N ps (defScope st))(ar:∀ws m Q Qx,sp ws m Q Qx→ws.length=ps.length)
  (hbody:∀(cdv:Value) (A:Around) (outer:List Env) (s:Shared) (H:Hp) (E:XK),Room k (A.deeper (envOfC qual (defScope st) s.heap.objs.size f cdv))→
   ∃T,DSs (cxOf (L2N.CX P w) P w K mg base N qual (defScope st) f cdv A outer s H E) E (defBody st) T∧∀ws m Qd Qx,sp ws m Qd Qx→T (bZ N ws) m (uZ Qd Qx)):FnOk P w K mg base (L2N.CX P w) (k+1) f fd ps (lift K sp):=by
 refine D.ok S (fun vs H Q E ⟨B,μ,m,ws,Qd,Qx,M,r,hs,_⟩=>by rw [r.len]; exact ar _ _ _ _ hs) fun cdv A outer s H vs Q E hr h=>?_
 obtain ⟨T,hd,hT⟩:=hbody cdv A outer s H E hr
 obtain ⟨t,hp,hs⟩:=hd.ex
 exact ⟨t,hp,hs.defo hT h⟩
structure GmC (P:Program) (w:World) (K:Frag) (mg:Str→Option Value) (base:Heap) (k:Nat) (x:Str) (C:Addr) (sp:SpD):Prop where
 ex:∃f fd ps,mg x=some (.ref C)∧Mk K C f∧Binds K fd ps []∧FnOk P w K mg base (L2N.CX P w) k f fd ps (lift K sp)
structure GmM (P:Program) (w:World) (K:Frag) (mg:Str→Option Value) (base:Heap) (k:Nat) (C:Addr) (m:Str) (sp:SpD):Prop where
 cls:Cls K C
 ex:∃f fd ps,Meth K C m f∧Binds K fd ps []∧FnOk P w K mg base (L2N.CX P w) k f fd ps (lift K sp)
end
section
variable {X:Cx} {E:XK} {x:Str} {C:Addr} {k:Nat} {sp:SpD} {e o:Expr} {es:List Expr} {ta:DTA} {p pos apos:Pos}
theorem RvF.look_none{K:Frag}{H:Hp}{f:Str}{vs:List (Str×V)}{ds:List (Str×D)}(h:RvF K H vs ds)(e:ds.lookup f=none):vs.lookup f=none:=by
 cases q:vs.lookup f with
 | none=>rfl
 | some v=>
  exfalso
  have key:∀{vs:List (Str×V)} {ds:List (Str×D)},RvF K H vs ds→vs.map (·.1)=ds.map (·.1):=by
   intro vs
   induction vs with
   | nil=>intro ds h; cases h; rfl
   | cons p vs ih=>
    intro ds h
    cases h with
    | cons a t=>rw [List.map_cons,List.map_cons,ih t]
  have l1:∀{α:Type} {l:List (Str×α)},l.lookup f=none↔f∉l.map (·.1):=by
   intro α l
   induction l with
   | nil=>simp
   | cons p l ih=>
    obtain ⟨g,y⟩:=p
    rw [List.lookup_cons]
    by_cases c:f=g
    ·subst c
     simp
    ·have:(f == g)=false:=by simpa using c
     rw [this,List.map_cons,List.mem_cons]
     simp only [ih]
     exact ⟨fun h z=>z.elim c h,fun h z=>h (.inr z)⟩
  have z1:=l1.mp e
  rw [←key h] at z1
  have z2:=l1.mpr z1
  rw [q] at z2
  cases z2
end
open PySem.W in
structure GmS (P:Program) (w:World) (K:Frag) (mg:Str→Option Value) (base:Heap) (k:Nat) (C:Addr) (m:Str) (sp:SpD):Prop where
 ex:∃f fd ps,PySem.W.findIn K (.ref C) m=some (some (.ref f))∧PySem.W.isFn K (.ref f)=true∧Binds K fd ps []∧FnOk P w K mg base (L2N.CX P w) k f fd ps (lift K sp)
section
variable {X:Cx} {E:XK} {C:Addr} {k:Nat} {sp:SpD}
structure BinT (K:Frag) (C:Addr) (op:Operator):Prop where
 sf:PySem.W.selfFirst K C=true
 rf:PySem.W.findIn K (.ref C) (PySem.dunderR op.info.2)=some none
 b1:∃fo,PySem.W.findIn K (.type "tuple") (PySem.dunder op.info.2)=some fo
 b2:∃ro,PySem.W.findIn K (.type "tuple") (PySem.dunderR op.info.2)=some ro
 sb:PySem.W.subIn K (.type "tuple") (.ref C)=some false
def ke(f:Str)(v:W):List (Str×W)→List (Str×W)
 | []=>[(f,v)]
 | (g,x)::r=>if g=f then (g,v)::r else (g,x)::ke f v r
theorem RWf.put{K:Frag}{B:Hp}{μ:List Addr}{f:Str}{v:V}{w:W}(r:RW K B μ v w):∀{vs:List (Str×V)} {ws:List (Str×W)},RWf K B μ vs ws→RWf K B μ (putF f v vs) (ke f w ws)
 | _,_,.nil=>.cons r .nil
 | _,_,.cons (k:=g) h t=>by
  unfold putF ke
  by_cases c:g=f
  ·rw [if_pos c,if_pos c]
   exact .cons r t
  ·rw [if_neg c,if_neg c]
   exact .cons h (RWf.put r t)
theorem RWf.len{K:Frag}{B:Hp}{μ:List Addr}:∀{vs:List (Str×V)} {ws:List (Str×W)},RWf K B μ vs ws→vs.length=ws.length
 | _,_,.nil=>rfl
 | _,_,.cons _ t=>congrArg Nat.succ (RWf.len t)
def eU(m:Me)(n:Nat)(Q:Addr→List (Str×W)→Prop):Prop:=match m[n]? with
 | some (.ins C fs)=>Q C fs
 | _=>False
def Dx(K:Frag)(f:Str)(to te:DTE):DTS:=fun en m N=>te en m (fun y m1=>to en m1 (fun x m2=>match x with
 | .loc n=>eU m2 n fun C fs=>Cls K C∧NoAttr K C f∧fs.length<1000∧N.nx en (m2.set n (.ins C (ke f y fs)))
 | _=>False) N.xc) N.xc
theorem wT{f:Str}{o e:Expr}{to te:DTE}{pos pos':Pos}(ho:DE X E o to)(he:DE X E e te)(hs:swapsWith e (some (.Attribute o f pos')) pos.line X.env=pure false:=by rfl):DS X E (.Assign [.Attribute o f pos'] e pos) (Dx X.K f to te):=by
 obtain ⟨t1,p1,k1⟩:=ho.ex
 obtain ⟨t2,p2,k2⟩:=he.ex
 refine ⟨_,ps_fld p1 p2 hs,fun B μ en m σ H N D R hx T e=>?_⟩
 refine k2 B μ en m σ H _ _ _ R hx T fun B1 μ1 m1 H1 y w s1 R1 r1 T1=>?_
 refine k1 B1 μ1 en m1 σ H1 _ _ _ R1 (hx.step s1 R1.mem R.mem.le) T1 fun B2 μ2 m2 H2 x v s2 R2 r2 q=>?_
 have s12:=s1.trans R1.mem s2 R.mem.le
 cases x with
 | v d=>exact q.elim
 | loc n=>
  have q:eU m2 n _:=q
  unfold eU at q
  split at q
  ·rename_i C fs hm
   obtain ⟨cl,na,hl,q⟩:=q
   obtain ⟨a,rfl,ha⟩:=r2
   obtain ⟨dx,vs,hv,rf⟩:=R2.mem.at_ n a _ ha hm rfl
   have ry:RW X.K B2 μ2 w y:=r1.to s2.same s2.pre
   have kp:∀b o,b≠a→H2 b=some o→upd H2 a (.ins C dx (putF f w vs)) b=some o:=fun b o c e=>by rw [upd_ne c]; exact e
   have sS:=Stp.store (H':=upd H2 a (.ins C dx (putF f w vs))) (m':=.ins C (ke f y fs)) (B:=B2) ha hm rfl kp
   have mS:=R2.mem.store (m':=.ins C (ke f y fs)) ha hm rfl rfl kp ⟨dx,_,upd_same,RWf.put ry rf⟩
   have st:=s12.trans R2.mem sS R.mem.le
   exact ⟨a,C,dx,vs,rfl,hv,cl,na,by rw [RWf.len rf]; exact hl,e.nx _ _ _ _ _ _ st (R.stp st mS) q⟩
  ·exact q.elim
end
section
variable {X:Cx} {E:XK}
structure GmK (P:Program) (w:World) (K:Frag) (mg:Str→Option Value) (base:Heap) (k:Nat) (x:Str) (C:Addr) (ks:List Str) (sp:SpD):Prop where
 ex:∃f fd ps g,mg x=some (.ref C)∧Mk K C f∧KBn K fd ps 1 ks g (fun vs zs=>vs++zs)∧FnOk P w K mg base (L2N.CX P w) k f fd ps (lift K sp)
structure GmF (P:Program) (w:World) (K:Frag) (mg:Str→Option Value) (base:Heap) (k:Nat) (C:Addr) (mn:Str) (sp:SpD):Prop where
 ex:∃p g fd ps mc,ClX.CRead K C mc∧ClX.CMet K C mc mn p g∧Binds K fd ps []∧FnOk P w K mg base (L2N.CX P w) k g fd ps (lift K sp)
end
section
variable {X:Cx} {E:XK} {C:Addr} {k:Nat}
structure GmMk (P:Program) (w:World) (K:Frag) (mg:Str→Option Value) (base:Heap) (k:Nat) (C:Addr) (m:Str) (ks:List Str) (sp:SpD):Prop where
 cls:Cls K C
 ex:∃f fd ps g,Meth K C m f∧KBn K fd ps 1 ks g (fun vs zs=>vs++zs)∧FnOk P w K mg base (L2N.CX P w) k f fd ps (lift K sp)
end
def RWps(K:Frag)(B:Hp)(μ:List Addr):List (V×V)→List (W×W)→Prop
 | [],[]=>True
 | p::ps,z::zs=>(RW K B μ p.1 z.1∧RW K B μ p.2 z.2)∧RWps K B μ ps zs
 | _,_=>False
theorem RWps.to{K:Frag}{B B':Hp}{μ μ':List Addr}(s:Same B B')(p:μ<+:μ'):∀{ps:List (V×V)} {zs:List (W×W)},RWps K B μ ps zs→RWps K B' μ' ps zs
 | [],[],_=>trivial
 | _::_,_::_,h=>⟨⟨RW.to s p h.1.1,RW.to s p h.1.2⟩,RWps.to s p h.2⟩
 | [],_::_,h=>h
 | _::_,[],h=>h
abbrev DTP:=En→Me→(List (W×W)→Me→Prop)→QX→Prop
section
variable {X:Cx} {E:XK}
structure DPs (X:Cx) (E:XK) (pos:Pos) (keys:List (Option Expr)) (values:List Expr) (T:DTP):Prop where
 ex:∃trs,PPs X pos keys values trs∧trs.length=keys.length∧∀B μ en m σ H (Q:List (W×W)→Me→Prop) (Qx:QX) (QV:List (V×V)→Hp→Prop),Rel X.K B μ en m σ H→ExOf X.K E B μ m H Qx→T en m Q Qx→
  (∀B' μ' m' H' zs ps,Stp B μ m H B' μ' m' H'→Rel X.K B' μ' en m' σ H'→RWps X.K B' μ' ps zs→ps.length=keys.length→Q zs m'→QV ps H')→tPairs trs σ H QV
end
def cmA(K:Frag)(p:Str×Str):Addr:=match PySem.W.recIn K (He.ma K (He.ga K p.1) p.2) "classmethod" with
 | some (.ref g::_)=>g
 | _=>He.ma K (He.ga K p.1) p.2
def Dy:Data→He.FnW
 | .func fd=>some (fd.name,(fd.qualname,(fd.params,(fd.body,(fd.scope,(fd.globals,(fd.closure.map fun q=>(q.1,0),fd.builtins)))))))
 | _=>none
def Dz(K:Frag)(a:Addr):He.FnW:=(K.lookup a).bind fun o=>Dy o.data
def DB(K:Frag)(q:Str):Data→Bool
 | .func fd=>PySem.W.codeIn K fd.code q&&(He.dflB K fd.defaults []&&He.kwdB K fd.kwdefaults [])
 | _=>false
def DC(K:Frag)(q:Str)(a:Addr):Bool:=PySem.W.keepIn K (.ref a)&&(K.lookup a).any fun o=>DB K q o.data
structure CmD (K:Frag) (x m q:Str):Prop where
 rd:ClX.CRead K (He.ga K x) (.type "type")
 cm:ClX.CMet K (He.ga K x) (.type "type") m (He.ma K (He.ga K x) m) (cmA K (x,m))
 ok:DC K q (cmA K (x,m))=true
def cmW(cms:List (Str×Str))(K:Frag):List He.FnW:=cms.map fun p=>Dz K (cmA K p)
def CH(o:Obj):List Addr:=match o.cls with
 | .type n=>bif n == "code" then [] else He.refsD o
 | _=>He.refsD o
def Bq(k:Nat→List Addr→List Addr):List Addr→Nat→List Addr→List Addr
 | [],m,acc=>k m acc
 | a::r,m,acc=>match Nat.beq (Nat.land (Nat.shiftRight m a) 1) 1 with
  | true=>Bq k r m acc
  | false=>HandSHeadRun.frNat (Nat.lor m (Nat.shiftLeft 1 a)) fun m=>Bq k r m (a::acc)
def goZ(g:Addr→Option Obj):Nat→Nat→List Addr→List Addr→List Addr
 | 0,_,fr,all=>all++fr
 | n+1,m,fr,all=>Bq (fun m new=>goZ g n m new (all++fr)) (fr.flatMap fun a=>match g a with
  | some o=>CH o
  | none=>[]) m []
abbrev asY(g:Addr→Option Obj)(n:Nat):List Addr:=goZ g n (Nat.lor (Nat.shiftLeft 1 mainGlobals) (Nat.shiftLeft 1 cStatics)) [mainGlobals,cStatics] []
abbrev frY(g:Addr→Option Obj)(n:Nat):Frag:=He.frT g (asY g n)
abbrev AlY:Type:=He.AlX×List He.FnW
def wU(n:Nat)(fa:List He.Fa)(fn:List He.DefD)(ts:List He.Tab)(tf:List He.Defn)(ex:Frag→Bool)(cms:List (Str×Str))(g:Addr→Option Obj):AlY:=
 ((He.obsT fa fn ts (frY g n),ex (frY g n)&&He.tabsB g tf (frY g n)),cmW cms (frY g n))
theorem wV{n:Nat}{fa:List He.Fa}{fn:List He.DefD}{ts:List He.Tab}{tf:List He.Defn}{ex:Frag→Bool}{cms:List (Str×Str)}{cv:List He.FnW}{w:World}{h:Heap}(e:wU n fa fn ts tf ex cms h.get? =(He.valX fn ts w,cv)):
  He.SaysX fa fn ts tf ex w h (frY h.get? n)∧cmW cms (frY h.get? n)=cv:=by
 have e0:=congrArg (fun z:AlY=>z.1) e
 have e1:He.obsT fa fn ts (frY h.get? n)=He.valT fn ts w:=congrArg (fun z:He.AlX=>z.1) e0
 have e2:(ex (frY h.get? n)&&He.tabsB h.get? tf (frY h.get? n))=true:=congrArg (fun z:He.AlX=>z.2) e0
 have e3:cmW cms (frY h.get? n)=cv:=congrArg (fun z:AlY=>z.2) e
 obtain ⟨h1,h2⟩:=Bool.and_eq_true_iff.mp e2
 have one:∀p∈tf,PySem.W.codeHdIn (frY h.get? n) (He.cT (frY h.get? n) p).1 (He.cT (frY h.get? n) p).2=true∧∃o,h.get? (He.cT (frY h.get? n) p).2=some o∧He.emptyTab o=true:=fun p hp=>by
  have z:=List.all_eq_true.mp h2 p hp
  obtain ⟨z1,z2⟩:=Bool.and_eq_true_iff.mp z
  refine ⟨z1,?_⟩
  split at z2
  ·rename_i o ho
   exact ⟨o,ho,z2⟩
  ·cases z2
 refine ⟨{ t:=e1,more:=h1,hd:=fun p hp=>(one p hp).1,out:=fun p hp=>?_,empty:=fun p hp=>?_ },e3⟩
 ·obtain ⟨o,ho,hz⟩:=(one p hp).2
  exact He.frT_none ho hz
 ·obtain ⟨o,ho,hz⟩:=(one p hp).2
  rw [ho,He.emptyTab_eq hz]
def AO(n:Nat)(fa:List He.Fa)(fn:List He.DefD)(ts:List He.Tab)(tf:List He.Defn)(ex:Frag→Bool)(cms:List (Str×Str))(cv:List He.FnW):PySem.W.Hook where
 α:=AlY
 obs:=fun s=>wU n fa fn ts tf ex cms s.heap.get?
 val:=fun w=>(He.valX fn ts w,cv)
 says:=fun w h=>∃K:Frag,K.In h∧He.SaysX fa fn ts tf ex w h K∧cmW cms K=cv
 of:=fun _ _ e=>⟨_,He.frT_in,wV e⟩
 keeps:=fun _ _ _ ⟨K,hK,c,y⟩ k=>⟨K,PySem.W.Frag.In.keeps hK k,{ t:=c.t,more:=c.more,hd:=c.hd,out:=c.out,empty:=fun p hp=>k _ _ (c.empty p hp) },y⟩
theorem zo{n:Nat}{fa:List He.Fa}{fn:List He.DefD}{ts:List He.Tab}{tf:List He.Defn}{ex:Frag→Bool}{cms:List (Str×Str)}{cv:List He.FnW}{g:Addr→Option Obj}{s:Shared}(h:∀a,g a=s.heap.get? a):wU n fa fn ts tf ex cms g=(AO n fa fn ts tf ex cms cv).obs s:=
 congrArg (wU n fa fn ts tf ex cms) (funext h)
def tR(K:Frag)(C:Addr)(m:Str):Bool:=decide (PySem.W.findIn K (.ref C) m=some (some (.ref (He.ma K C m))))&&(PySem.W.isFn K (.ref (He.ma K C m))&&PySem.W.keepIn K (.ref (He.ma K C m)))
structure SpecC (K:Frag) (C:Addr) (m:Str):Prop where
 at_:PySem.W.findIn K (.ref C) m=some (some (.ref (He.ma K C m)))
 fn:PySem.W.isFn K (.ref (He.ma K C m))=true
 kp:PySem.W.keepIn K (.ref (He.ma K C m))=true
theorem qA{K:Frag}{C:Addr}{m:Str}(h:tR K C m=true):SpecC K C m:=by
 unfold tR at h
 simp only [Bool.and_eq_true,decide_eq_true_eq] at h
 exact ⟨h.1,h.2.1,h.2.2⟩
def Br(K:Frag)(C:Addr):Bool:=PySem.W.plainGet K C Str.empty&&(PySem.W.hasDictIn K C&&(PySem.W.plainOver K C&&decide (PySem.W.findIn K (.ref C) "__setattr__"=some (some (.builtin "object.__setattr__")))))
theorem zp{K:Frag}{C:Addr}(h:Br K C=true):Cls K C:=by
 unfold Br at h
 simp only [Bool.and_eq_true,decide_eq_true_eq] at h
 exact ⟨h.1,h.2.1,h.2.2.1,h.2.2.2⟩
def mkB(K:Frag)(C:Addr):Bool:=PySem.W.makesIn K C&&(tR K C "__init__"&&PySem.W.keepIn K (.ref C))
theorem Bs{K:Frag}{C:Addr}(h:mkB K C=true):Mk K C (He.ma K C "__init__"):=by
 unfold mkB at h
 simp only [Bool.and_eq_true] at h
 have s:=qA h.2.1
 exact ⟨h.1,s.at_,s.fn,h.2.2⟩
theorem SpecC.meth{K:Frag}{C:Addr}{m:Str}(s:SpecC K C m):Meth K C m (He.ma K C m):=⟨s.at_,s.fn,s.kp⟩
def fn:List He.DefD:=[dD "common_factor" (top 10),dD "is_whole" (top 11),dD "is_ratio" (top 12),dD "ratio_text" (top 13),dD "read_digits" (top 14),dD "read_positive" (top 15),dD "is_thing" (top 18),dD "is_size" (top 26),dD "is_edge" (top 27),dD "is_factor" (top 28),dD "check_expression" (top 30),dD "item_text" (top 34),dD "format_expression" (top 35),dD "parse_expression" (top 37),dD "facts_text" (top 39),dD "parse_facts" (top 40),dD "_law_bag" (top 42),dD "_law_pull" (top 43),dD "_law_of" (top 44),dD "_law_mixed" (top 45),dD "_law_same" (top 46),dD "_law_field" (top 47),dD "_law_try" (top 48),dD "_law_low" (top 49),dD "_law_names" (top 50),dD "_law_flat" (top 51),dD "_law_factor" (top 52),dD "_law_expression" (top 53),dD "_law_size_names" (top 54),dD "_law_edge_names" (top 55),dD "_law_ratio_text" (top 56),dD "_law_any_expression" (top 57),dD "_law_expression_text" (top 58),dD "_law_facts_text" (top 59),dD "law" (top 60),⟨("is_expression",none),"is_expression","is_expression",defArgs (top 29),defBody (top 29),defScope (top 29),[],[("sizes_only",.bl false)]⟩,dI "InvalidExpression" "InvalidExpression.__init__" (inClass (top 3) 0),dI "InvalidText" "InvalidText.__init__" (inClass (top 4) 0),⟨("Reader",some "__init__"),"__init__","Reader.__init__",defArgs (inClass (top 36) 0),defBody (inClass (top 36) 0),defScope (inClass (top 36) 0),[],[]⟩,⟨("Reader",some "ahead"),"ahead","Reader.ahead",defArgs (inClass (top 36) 1),defBody (inClass (top 36) 1),defScope (inClass (top 36) 1),[],[]⟩,⟨("Reader",some "take"),"take","Reader.take",defArgs (inClass (top 36) 2),defBody (inClass (top 36) 2),defScope (inClass (top 36) 2),[],[]⟩,⟨("Reader",some "letters"),"letters","Reader.letters",defArgs (inClass (top 36) 3),defBody (inClass (top 36) 3),defScope (inClass (top 36) 3),[],[]⟩,⟨("Reader",some "finish"),"finish","Reader.finish",defArgs (inClass (top 36) 5),defBody (inClass (top 36) 5),defScope (inClass (top 36) 5),[],[]⟩,⟨("Reader",some "item"),"item","Reader.item",defArgs (inClass (top 36) 10),defBody (inClass (top 36) 10),defScope (inClass (top 36) 10),[],[]⟩,⟨("Reader",some "expression"),"expression","Reader.expression",defArgs (inClass (top 36) 11),defBody (inClass (top 36) 11),defScope (inClass (top 36) 11),[],[]⟩]
def fa:List He.Fa:=[.glo "common_factor",.glo "is_whole",.glo "is_ratio",.glo "ratio_text",.glo "read_digits",.glo "read_positive",.glo "is_thing",.glo "is_size",.glo "is_edge",.glo "is_factor",.glo "check_expression",.glo "item_text",.glo "format_expression",.glo "parse_expression",.glo "facts_text",.glo "parse_facts",.glo "_law_bag",.glo "_law_pull",.glo "_law_of",.glo "_law_mixed",.glo "_law_same",.glo "_law_field",.glo "_law_try",.glo "_law_low",.glo "_law_names",.glo "_law_flat",.glo "_law_factor",.glo "_law_expression",.glo "_law_size_names",.glo "_law_edge_names",.glo "_law_ratio_text",.glo "_law_any_expression",.glo "_law_expression_text",.glo "_law_facts_text",.glo "law",.glo "FrameError",.glo "Missing",.glo "NothingLeft",.glo "InvalidExpression",.glo "InvalidText",.glo "Reader",.glo "ONE",.glo "WORDS",.glo "AXES",.glo "EDGES",.glo "ROOMS",.glo "is_expression",.free "int",.free "list",.free "len",.free "isinstance",.free "tuple",.free "all",.free "range",.free "dict",.free "bool",.free "str",.free "abs",.free "any",.free "set",.int "MOST_DIGITS" 12,.int "MOST_ITEMS" 6,.int "MOST_FACTOR" 1000000,.str "CONSTANT" "one",.str "END" " >= 0",.str "LETTERS" "abcdefghijklmnopqrstuvwxyz"]
def exB(K:Frag):Bool:=(AI K ["InvalidExpression","InvalidText"])&&(sZ K ["InvalidText"])&&(eu K 3 (.ref (He.ga K "WORDS")) (.tup (([("gap":Str),"pad","row","pile","grid","clip","hole","room","one","and","or"]:List Str).map .str)))&&(eu K 3 (.ref (He.ga K "AXES")) (.tup [.str "w",.str "h"]))&&(eu K 3 (.ref (He.ga K "EDGES")) (.tup [.tup [.str "left",.str "right"],.tup [.str "top",.str "bottom"]]))&&(eu K 3 (.ref (He.ga K "ROOMS")) (.tup [.str "room.w",.str "room.h"]))&&(eu K 3 (.ref (He.ga K "ONE")) (.tup [.int 1,.int 1]))&&(decide (PySem.W.exmOne K (.ref (He.ga K "InvalidText")) (.ref (He.ga K "InvalidText"))=some true))&&(Br K (He.ga K "Reader"))&&(mkB K (He.ga K "Reader"))&&((["text","at"]:List Str).all fun x=>decide (PySem.W.findIn K (.ref (He.ga K "Reader")) x=some none))&&((["ahead","take","letters","finish","item","expression"]:List Str).all fun m=>tR K (He.ga K "Reader") m)
abbrev R:PySem.W.OpenRow:=PySem.W.OpenLaw.row PySem.Challenge.rw_framesure_k60_texts_of_facts
def tf:List He.Defn:=[("law",none)]
def tsL:List He.Tab:=[]
def cms:List (Str×Str):=[]
def cv:List He.FnW:=[]
abbrev hk:PySem.W.Hook:=AO 6 fa fn tsL tf exB cms cv
def ob(s:PySem.W.SharedT):He.AlX×List He.FnW:=wU 6 fa fn tsL tf exB cms (HandSHeadRun.getT s)
theorem CI(s:PySem.W.SharedT):ob s=hk.obs s.abs:=zo (HandSHeadRun.getT_eq s)
abbrev cTs(K:Frag):List (Addr×Addr):=tf.map (He.cT K)
theorem inT{K:Frag}{q:Addr×Addr}(hq:q∈cTs K):∃p∈tf,He.cT K p=q:=List.mem_map.mp hq
theorem zq(K:Frag):He.cT K ("law",none)∈cTs K:=List.mem_map.mpr ⟨("law",none),by decide,rfl⟩
def loose:List Str:=(["_wall","FrameError","InvalidExpression","InvalidText","Missing","NothingLeft","ONE","MOST_DIGITS","common_factor","is_whole","is_ratio","ratio_text","read_digits","read_positive","WORDS","is_thing","CONSTANT","AXES","ROOMS","EDGES","MOST_ITEMS","MOST_FACTOR","is_size","is_edge","is_factor","is_expression","check_expression","LETTERS","END","item_text"]:List Str)++(["format_expression","Reader","parse_expression","facts_text","parse_facts","_law_bag","_law_pull","_law_of","_law_mixed","_law_same","_law_field","_law_try","_law_low","_law_names","_law_flat","_law_factor","_law_expression","_law_size_names","_law_edge_names","_law_ratio_text","_law_any_expression","_law_expression_text","_law_facts_text"]:List Str)
theorem run(w:World):HandSHeadRun.RunEq R (PySem.W.view R.prog [60]) hk ob 16000 loose w:=by
 intro os
 kernel_rfl
section
variable {prog:Program} {w:World} {A:Around} {E:Value→Shared→Prop} {s:Shared} {K:Frag} {x y C L f:Addr} {h₀:Heap} {m:Str→Option Value} {ox:Obj} {od:Option Obj} {name:Str}
end
section
variable {X:Cx} {E:XK} {C:Addr} {k:Nat} {sp:SpD}
end
section
variable {X:Cx} {E:XK}
end
section
variable {α:Type}
def eB:Code→Option Addr
 | .builtin id ⟨.ref a::_,_⟩=>if id="proto.yield_from" then some a else none
 | _=>none
def cR:Option Obj→Bool
 | some o=>o.genNumber?.isSome
 | none=>false
def er(c:Code):Sem α→Sem α
 | .pure a=>.pure a
 | .raise e=>.raise e
 | .unsupported x=>.unsupported x
 | .finish e=>.finish e
 | .rule t k=>.rule t fun x=>er c (k x)
 | .at p k=>.at p fun x=>er c (k x)
 | .load a p k=>.load a p fun x=>er c (k x)
 | .update a p f k=>.update a p f fun x=>er c (k x)
 | .alloc o k=>.alloc o fun x=>er c (k x)
 | .loadIfAlive a k=>.loadIfAlive a fun x=>er c (k x)
 | .point l k=>.point l fun x=>er c (k x)
 | .register a k=>.register a fun x=>er c (k x)
 | .fresh k=>.fresh fun x=>er c (k x)
 | .ask k=>.ask fun x=>er c (k x)
 | .choose s n k=>.choose s n fun x=>er c (k x)
 | .os q l k=>.os q l fun x=>er c (k x)
 | .call d h g l k=>.call d h g l fun x=>er c (k x)
 | .handled o k=>.handled o fun x=>er c (k x)
 | .newGen d k=>.newGen d fun x=>er c (k x)
 | .genState g k=>.genState g fun x=>er c (k x)
 | .resume g r l k=>.resume g r l fun x=>er c (k x)
 | .yield v g l k=>match g,eB c with
  | false,none=>.yield v false l fun x=>er c (k x)
  | false,some _=>.yield v false (.none::l) fun x=>er c (k x)
  | true,some a=>.loadIfAlive a fun o=>if cR o=true then .yield v false (.ellipsis::l) fun x=>er c (k x) else .unsupported "loud"
  | true,none=>.yield v true l fun x=>er c (k x)
 | .stack k=>.stack fun x=>er c (k x)
 | .fork d k=>.fork d fun x=>er c (k x)
 | .thread k=>.thread fun x=>er c (k x)
 | .await a t d l k=>.await a t d l fun x=>er c (k x)
end
def qB:Frame→Frame
 | .ret k h g l c p kp=>.ret (fun r=>er c (k r)) h g l c p kp
 | .gen g k l c p=>.gen g (fun r=>er c (k r)) l c p
def erS(fs:List Frame):List Frame:=fs.map qB
def dJ(c:Code)(fs:List Frame):Bool:=(eB c).isSome&& !fs.any Frame.guarded
def erL(c:Code)(b:Bool)(l:List Value):List Value:=match eB c with
 | none=>l
 | some _=>(if b=true then .ellipsis else .none)::l
def erG:GenState→GenState
 | .fresh c=>.fresh c
 | .suspended k l c p fs cl=>.suspended (fun r=>er c (k r)) (erL c (cl&&dJ c fs) l) c p (erS fs) (cl&& !dJ c fs)
 | .running=>.running
 | .finished=>.finished
def au(s:Shared):Shared:={ s with gens:=s.gens.map erG }
def erT(t:Thread):Thread:=⟨er t.code t.cur,t.code,t.pos,erS t.stack⟩
theorem vk(f:Frame):(qB f).where_=f.where_:=by cases f <;> rfl
theorem qC(f:Frame):(qB f).guarded=f.guarded:=by cases f <;> rfl
theorem fK(fs:List Frame):(erS fs).map Frame.where_=fs.map Frame.where_:=by
 unfold erS
 rw [List.map_map]
 exact List.map_congr_left fun f _=>vk f
theorem iy(fs:List Frame):(erS fs).any Frame.guarded=fs.any Frame.guarded:=by
 unfold erS
 rw [List.any_map]
 congr 1
 funext f
 exact qC f
theorem bV(fs:List Frame):splitAtGen (erS fs)=(splitAtGen fs).map fun q=>(erS q.1,(q.2.1.1,(fun r=>er q.2.1.2.2.1 (q.2.1.2.1 r)),q.2.1.2.2.1,q.2.1.2.2.2),erS q.2.2):=by
 induction fs with
 | nil=>rfl
 | cons f fs ih=>
  cases f with
  | gen g k l c p=>rfl
  | ret k h g l c p kp=>
   show (splitAtGen (erS fs)).map _=((splitAtGen fs).map _).map _
   rw [ih]
   cases splitAtGen fs <;> rfl
theorem lH(b:Bool)(fs:List Frame):topHandled.go b (erS fs)=topHandled.go b fs:=by
 induction fs generalizing b with
 | nil=>cases b <;> rfl
 | cons f fs ih=>
  cases f with
  | gen g k l c p=>
   show topHandled.go b (Frame.gen g _ l c p::erS fs)=_
   cases b <;> simp only [topHandled.go,ih]
  | ret k h g l c p kp=>
   show topHandled.go b (Frame.ret _ h g l c p kp::erS fs)=_
   cases b with
   | true=>simp only [topHandled.go,ih]
   | false=>cases h <;> simp only [topHandled.go,ih]
def wW(t:Thread):Bool:=match t.cur with
 | .yield _ g _ _=>g
 | _=>false
theorem CJ{α:Type}{c:Code}(h:eB c=none)(t:Sem α):er c t=t:=by
 induction t with
 | yield v g l k ih=>
  cases g with
  | false=>
   rw [er.eq_def]
   simp only [h]
   congr 1
   funext x
   exact ih x
  | true=>
   rw [er.eq_def]
   simp only [h]
   congr 1
   funext x
   exact ih x
 | _=>first | rfl | (rw [er.eq_def]; simp only []; congr 1; funext x; rename_i ih; exact ih x)
theorem zr{α:Type}{c:Code}{v:Value}{l:List Value}{k:Resume→Sem α}:er c (Sem.yield v false l k)=.yield v false (erL c false l) fun x=>er c (k x):=by
 rw [er.eq_def]
 unfold erL
 cases eB c <;> rfl
def hI:Step→Step
 | .go s t=>.go (au s) (erT t)
 | .halt o s=>.halt o (au s)
def fw(den:Code→Sem PySem.Fin):Code→Sem PySem.Fin:=fun c=>er c (den c)
theorem qD(x:GenState):(erG x).seen=x.seen:=by
 cases x with
 | suspended k l c p fs cl=>
  show (GenStatus.suspended,some ((c,p)::(erS fs).map Frame.where_))=(GenStatus.suspended,some ((c,p)::fs.map Frame.where_))
  rw [fK]
 | _=>rfl
theorem lI(a b:List Frame):erS (a++b)=erS a++erS b:=List.map_append ..
theorem fY{gens:Array GenState}{g:Nat}{x:GenState}:(gens.setIfInBounds g x).map erG=(gens.map erG).setIfInBounds g (erG x):=by
 apply Array.ext_getElem?
 intro i
 rw [Array.getElem?_map,Array.getElem?_setIfInBounds,Array.getElem?_setIfInBounds,Array.getElem?_map,Array.size_map]
 by_cases c:g=i
 ·rw [if_pos c,if_pos c]
  by_cases d:i<gens.size
  ·simp [c,d]
  ·simp [c,d]
 ·rw [if_neg c,if_neg c]
theorem wX{gens:Array GenState}{x:GenState}:(gens.push x).map erG=(gens.map erG).push (erG x):=by simp
theorem tS{gens:Array GenState}{g:Nat}:(gens.map erG)[g]? =(gens[g]?).map erG:=by simp
section
variable (den:Code→Sem PySem.Fin) (prog:Program) (w:World)
theorem DH{s:Shared}{t:Thread}(hy:wW t=false)(he:t.atItsEnd=false):step (fw den) prog w (au s) (erT t)=hI (step den prog w s t):=by
  obtain ⟨heap,gens,drawn,toks,os⟩:=s
  obtain ⟨cur,code,pos,stack⟩:=t
  cases cur with
  | pure a=>
    cases a with
    | again c=>
      cases stack with
      | nil=>cases code <;> cases c <;> rfl
      | cons f fs=>cases f <;> cases code <;> cases c <;> rfl
    | done f=>
      cases stack with
      | nil=>exact absurd he (by simp [Thread.atItsEnd])
      | cons fr fs=>
        cases fr with
        | ret k h g l c p kp=>rfl
        | gen g k l c p=>
          show Step.go ⟨heap,(gens.map erG).setIfInBounds g .finished,drawn,toks,os⟩ _=Step.go ⟨heap,(gens.setIfInBounds g .finished).map erG,drawn,toks,os⟩ _
          rw [fY]
          rfl
  | raise e=>
    cases stack with
    | nil=>exact absurd he (by simp [Thread.atItsEnd])
    | cons fr fs=>
      cases fr with
      | ret k h g l c p kp=>rfl
      | gen g k l c p=>
        show Step.go ⟨heap,(gens.map erG).setIfInBounds g .finished,drawn,toks,os⟩ _=Step.go ⟨heap,(gens.setIfInBounds g .finished).map erG,drawn,toks,os⟩ _
        rw [fY]
        rfl
  | unsupported x=>rfl
  | finish e=>exact absurd he (by simp [Thread.atItsEnd])
  | rule t k=>rfl
  | «at» p k=>rfl
  | load a p k=>
    simp only [step,au,erT,er,hI]
    cases heap.get? a <;> rfl
  | update a p f k=>
    by_cases h:(heap.get? a).isSome=true <;> simp [step,au,erT,er,hI,h]
  | alloc o k=>rfl
  | loadIfAlive a k=>rfl
  | point l k=>rfl
  | register a k=>rfl
  | fresh k=>rfl
  | ask k=>rfl
  | choose s n k=>
    simp only [step,au,erT,er,hI]
    by_cases h:n=0
    · simp only [h,if_true]
    · simp only [h,if_false]
  | os q l k=>rfl
  | call d h g l k=>rfl
  | handled o k=>
    cases o with
    | false=>
      show Step.go _ ⟨er code (k (topHandled (erS stack))),_,_,_⟩=Step.go _ ⟨er code (k (topHandled stack)),_,_,_⟩
      rw [show topHandled (erS stack)=topHandled stack from lH false stack]
      rfl
    | true=>
      simp only [step,au,erT,er,hI,if_true]
      rw [bV]
      cases q:splitAtGen stack with
      | none=>
        simp only [Option.map_none]
        rw [show topHandled (erS stack)=topHandled stack from lH false stack]
      | some z=>
        obtain ⟨fs,b,r⟩:=z
        simp only [Option.map_some]
        rw [show topHandled (erS fs)=topHandled fs from lH false fs]
  | newGen d k=>
    show Step.go ⟨heap,(gens.map erG).push (.fresh d),drawn,toks,os⟩ ⟨er code (k (gens.map erG).size),_,_,_⟩=Step.go ⟨heap,(gens.push (.fresh d)).map erG,drawn,toks,os⟩ ⟨er code (k gens.size),_,_,_⟩
    rw [wX,Array.size_map]
    rfl
  | genState g k=>
    simp only [step,au,erT,er,hI]
    rw [tS]
    cases q:gens[g]? with
    | none=>rfl
    | some x=>
      cases x with
      | suspended kk l c p fs cl=>
        simp only [Option.map_some,erG]
        rw [fK]
      | _=>rfl
  | resume g r l k=>
    simp only [step,au,erT,er,hI]
    rw [tS]
    cases q:gens[g]? with
    | none=>rfl
    | some x=>
      cases x with
      | fresh c=>
        cases r with
        | send v=>
          cases v <;> first
            | rfl
            | (simp only [Option.map_some,erG]; rw [fY]; rfl)
        | throw e=>
          simp only [Option.map_some,erG]
          rw [fY]
          rfl
      | suspended kk l c p fs cl=>
        simp only [Option.map_some,erG]
        rw [fY,lI]
        rfl
      | running=>rfl
      | finished=>rfl
  | yield v g l k=>
    have hg:g=false:=hy
    subst hg
    have ey:er code (Sem.yield v false l k)=.yield v false (erL code false l) fun x=>er code (k x):=zr
    show step (fw den) prog w (au ⟨heap,gens,drawn,toks,os⟩) ⟨er code (Sem.yield v false l k),code,pos,erS stack⟩=_
    rw [ey]
    simp only [step,au,hI]
    rw [bV]
    cases q:splitAtGen stack with
    | none=>simp [erT,ey]
    | some z=>
      obtain ⟨fs,⟨gn,kg,cg,pg⟩,r⟩:=z
      simp only [Option.map_some]
      rw [fY]
      simp only [erG,Bool.false_or,iy]
      have e:(fs.any Frame.guarded&& !dJ code fs)=fs.any Frame.guarded:=by
        unfold dJ
        cases fs.any Frame.guarded <;> cases (eB code).isSome <;> rfl
      have e2:(fs.any Frame.guarded&&dJ code fs)=false:=by
        unfold dJ
        cases fs.any Frame.guarded <;> cases (eB code).isSome <;> rfl
      rw [e,e2]
      rfl
  | stack k=>
    show Step.go _ ⟨er code (k ((code,pos)::(erS stack).map Frame.where_)),_,_,_⟩=_
    rw [fK]
    rfl
  | fork d k=>rfl
  | thread k=>rfl
  | await a t d l k=>rfl
end
theorem oh{c:Code}{a:Addr}(h:eB c=some a):∃rest kw,c=.builtin "proto.yield_from" ⟨.ref a::rest,kw⟩:=by
 unfold eB at h
 split at h
 ·rename_i id a' rest kw
  split at h
  ·rename_i e
   subst e
   cases h
   exact ⟨_,_,rfl⟩
  ·cases h
 ·cases h
structure Mild (s:Shared) (t:Thread):Prop where
 ex:∃v l k a fs b r,t.cur=.yield v true l k∧eB t.code=some a∧cR (s.heap.get? a)=true∧splitAtGen t.stack=some (fs,b,r)∧fs.any Frame.guarded=false
theorem qE{s:Shared}{a:Addr}(h:cR (s.heap.get? a)=true)(hr:s.heap.life.registered=[]):delegateShows s (.ref a)=false:=by
 cases q:s.heap.get? a with
 | none=>
  unfold delegateShows
  simp only [q]
 | some o=>
  rw [q] at h
  have h:o.genNumber?.isSome=true:=h
  unfold delegateShows
  simp only [q]
  cases g:o.genNumber? with
  | none=>rw [g] at h; cases h
  | some n=>
   simp only [hr]
   rfl
section
variable (den:Code→Sem PySem.Fin) (prog:Program) (w:World)
theorem nA(others:List Value){s:Shared}{t:Thread}(h:Mild s t)(hz:s.asleep):lifeStep den prog w others s t=step den prog w s t:=by
 obtain ⟨v,l,k,a,fs,b,r,e1,e2,e3,e4,e5⟩:=h.ex
 obtain ⟨cur,code,pos,stack⟩:=t
 have e1:cur=.yield v true l k:=e1
 subst e1
 obtain ⟨rest,kw,rfl⟩:=oh e2
 have e4:splitAtGen stack=some (fs,b,r):=e4
 obtain ⟨hr,hc⟩:=hz
 have sp:Thread.special ⟨.yield v true l k,.builtin "proto.yield_from" ⟨.ref a::rest,kw⟩,pos,stack⟩=true:=by simp [Thread.special,Thread.yieldsInsideHandler]
 have cs:closingShows s fs (.builtin "proto.yield_from" ⟨.ref a::rest,kw⟩) true=false:=by
  unfold closingShows
  rw [e5]
  exact qE e3 hr
 obtain ⟨fb,kg,cg,pg⟩:=b
 unfold lifeStep
 rw [if_pos sp]
 simp only [collectorTurn?,e4,cs]
 simp [stepCounting,hc,Thread.atItsEnd]
theorem sh(pr:Profile){s:Shared}{t:Thread}(h:Mild s t):(Config.single s t).moves pr=[.run 0]:=by
 obtain ⟨v,l,k,a,fs,b,r,e1,_⟩:=h.ex
 obtain ⟨cur,code,pos,stack⟩:=t
 have e1:cur=.yield v true l k:=e1
 subst e1
 simp [Config.moves,Config.single,movesFrom,Thread.moves,Thread.atomic,Thread.rests,Thread.tells]
theorem vl{s:Shared}{t:Thread}(h:Mild s t)(hr:s.heap.life.registered=[]):(Config.single s t).pick w=.ok (.run 0,.single s t):=by
 have h1:(Config.single s t).collect? w.params=none:=by
  simp [Config.collect?,Config.single,(nothing_to_collect _ _ _ s t hr).1]
 have h2:(Config.single s t).collectable=[]:=by
  simp [Config.collectable,Config.single,(nothing_to_collect w.params _ _ s t hr).2]
 simp only [Config.pick,h1,h2,Config.pickThread,sh _ h]
 cases w.params.lifetimes <;> simp
theorem wY{s:Shared}{t:Thread}(h:Mild s t)(hz:s.asleep):(Config.single s t).run den prog w 0=(step den prog w s t).lift:=by
 have hl:=fun others=>nA den prog w others h hz
 obtain ⟨v,l,k,a,fs,b,r,e1,e2,e3,e4,e5⟩:=h.ex
 obtain ⟨cur,code,pos,stack⟩:=t
 have e1:cur=.yield v true l k:=e1
 subst e1
 simp only [Config.run,Config.single]
 simp [hl,others_single,frozenBadly,ThreadState.insideWrite]
 split <;> simp_all [Step.lift,Config.single,Thread.finalizes]
end
section
variable (den:Code→Sem PySem.Fin) (prog:Program) (w:World)
theorem si{s:Shared}{t:Thread}(h:Mild s t)(hz:s.asleep):sstep den prog w (.single s t)=(step den prog w s t).lift:=by
 simp only [sstep,vl w h hz.1,Config.move,wY den prog w h hz]
inductive Path:Shared→Thread→Shared→Thread→Prop
 | refl (s:Shared) (t:Thread):Path s t s t
 | step {s s' sf:Shared} {t t' tf:Thread}:(t.calm=true∨Mild s t)→PySem.step den prog w s t=.go s' t'→Path s' t' sf tf→Path s t sf tf
theorem Path.life{s sf:Shared}{t tf:Thread}(h:Path den prog w s t sf tf):sf.heap.life=s.heap.life:=by
 induction h with
 | refl=>rfl
 | step _ e _ ih=>rw [ih,step_life den prog w _ _ _ _ e]
theorem Path.sched{s sf:Shared}{t tf:Thread}(h:Path den prog w s t sf tf):∀{m:Nat} {o:Outcome} {s1:Shared},s.asleep→schedN den prog w m (.single sf tf)=.halted o s1→∃n,schedN den prog w n (.single s t)=.halted o s1:=by
 induction h with
 | refl=>exact fun _ e=>⟨_,e⟩
 | @step s s' sf t t' tf ok e _ ih=>
  intro m o s1 hz hm
  have hz':s'.asleep:=by
   unfold Shared.asleep
   rw [step_life den prog w s s' t t' e]
   exact hz
  obtain ⟨n,hn⟩:=ih hz' hm
  have es:sstep den prog w (.single s t)=(PySem.step den prog w s t).lift:=by
   rcases ok with hc | hm'
   ·rcases sstep_single den prog w s t hc hz with z | z
    ·exact z
    ·rw [e] at z
     cases z
   ·exact si den prog w hm' hz
  refine ⟨n+1,?_⟩
  simp only [schedN,es,e]
  exact hn
def Bt(t:Thread):Option Outcome:=match t.cur,t.stack with
 | .pure (.done f),[]=>some (.done f)
 | .raise e,[]=>some (.uncaught e)
 | _,_=>none
theorem vm{s:Shared}{t:Thread}{o:Outcome}(he:Bt t=some o)(hz:s.asleep)(hl:leftWithCleanup (forgetSuspended (w.params.lifetimes == .anyTime) s).gens=false):
  schedN den prog w 1 (.single s t)=.halted o (forgetSuspended (w.params.lifetimes == .anyTime) s):=by
 obtain ⟨cur,code,pos,stack⟩:=t
 have key:∀cur:Sem PySem.Fin,(∃f,cur=.pure (.done f)∧o=.done f)∨(∃e,cur=.raise e∧o=.uncaught e)→stack=[]→schedN den prog w 1 (.single s ⟨cur,code,pos,stack⟩)=.halted o (forgetSuspended (w.params.lifetimes == .anyTime) s):=fun cur hc hs=>by
  subst hs
  have calm:Thread.calm ⟨cur,code,pos,[]⟩=true:=by
   rcases hc with ⟨f,rfl,_⟩ | ⟨e,rfl,_⟩ <;> rfl
  have fin:∀others,lifeStep den prog w others s ⟨cur,code,pos,[]⟩=.halt o (forgetSuspended (w.params.lifetimes == .anyTime) s):=fun others=>by
   rw [lifeStep_calm0 den prog w others s _ calm hz]
   have ae:Thread.atItsEnd ⟨cur,code,pos,[]⟩=true:=by
    rcases hc with ⟨f,rfl,_⟩ | ⟨e,rfl,_⟩ <;> rfl
   rw [if_pos ae]
   generalize forgetSuspended (w.params.lifetimes == .anyTime) s=S at *
   obtain ⟨heap,gens,drawn,toks,os⟩:=S
   have hl:leftWithCleanup gens=false:=hl
   rcases hc with ⟨f,rfl,rfl⟩ | ⟨e,rfl,rfl⟩
   ·simp [PySem.step,PySem.finish,hl]
   ·simp [PySem.step,PySem.finish,hl]
  have hp:=pick_single w s ⟨cur,code,pos,[]⟩ calm hz.1
  simp only [schedN,sstep,hp,Config.move]
  rcases hc with ⟨f,rfl,rfl⟩ | ⟨e,rfl,rfl⟩
  ·simp only [Config.run,Config.single]
   simp [fin,others_single,frozenBadly,ThreadState.insideWrite]
  ·simp only [Config.run,Config.single]
   simp [fin,others_single,frozenBadly,ThreadState.insideWrite]
 unfold Bt at he
 split at he
 ·cases he
  rename_i h1 h2
  exact key _ (.inl ⟨_,h1,rfl⟩) h2
 ·cases he
  rename_i h1 h2
  exact key _ (.inr ⟨_,h1,rfl⟩) h2
 ·cases he
end
theorem zt{t:Thread}(hy:wW t=false)(h:(erT t).calm=true):t.calm=true:=by
 obtain ⟨cur,code,pos,stack⟩:=t
 cases cur with
 | pure a=>cases a <;> exact h
 | yield v g l k=>
  have hg:g=false:=hy
  subst hg
  have e:erT ⟨.yield v false l k,code,pos,stack⟩=⟨.yield v false (erL code false l) fun x=>er code (k x),code,pos,erS stack⟩:=by
   show (⟨er code (.yield v false l k),code,pos,erS stack⟩:Thread)=_
   rw [zr]
  rw [e] at h
  cases q:splitAtGen stack with
  | none=>simp [Thread.calm,Thread.atCollectorCode,Thread.yieldsInsideHandler,q]
  | some z=>
   obtain ⟨fs,b,r⟩:=z
   simp [Thread.calm,Thread.atCollectorCode,Thread.yieldsInsideHandler,bV,q,iy] at h
   simpa [Thread.calm,Thread.atCollectorCode,Thread.yieldsInsideHandler,q] using h
 | _=>exact h
theorem o5{α:Type}{c:Code}{v:Value}{l:List Value}{k:Resume→Sem α}{a:Addr}(h:eB c=some a):er c (.yield v true l k)=.loadIfAlive a fun o=>if cR o=true then .yield v false (.ellipsis::l) fun x=>er c (k x) else .unsupported "loud":=by
 rw [er]
 rw [h]
theorem o6{α:Type}{c:Code}{v:Value}{l:List Value}{k:Resume→Sem α}(h:eB c=none):er c (.yield v true l k)=.yield v true l fun x=>er c (k x):=by
 rw [er.eq_def]
 simp only [h]
theorem Bu{t:Thread}:(erT t).atItsEnd=t.atItsEnd:=by
 obtain ⟨cur,code,pos,stack⟩:=t
 cases cur with
 | pure a=>cases a <;> cases stack <;> rfl
 | raise e=>cases stack <;> rfl
 | yield v g l k=>
  cases g with
  | false=>
   show Thread.atItsEnd ⟨er code (.yield v false l k),code,pos,erS stack⟩=false
   rw [zr]
   rfl
  | true=>
   show Thread.atItsEnd ⟨er code (.yield v true l k),code,pos,erS stack⟩=false
   unfold er
   cases eB code <;> rfl
 | _=>rfl
section
variable (den:Code→Sem PySem.Fin) (prog:Program) (w:World)
theorem wZ{s s':Shared}{t:Thread}{o:Outcome}(he:t.atItsEnd=false)(h:step den prog w s t=.halt o s'):o.ends=false:=by
 obtain ⟨heap,gens,drawn,toks,os⟩:=s
 obtain ⟨cur,code,pos,stack⟩:=t
 cases cur <;> simp only [step,PySem.finish] at h <;> (repeat' split at h) <;> simp_all [Thread.atItsEnd,Outcome.ends] <;> (first | (obtain ⟨h,_⟩:=h; subst h; rfl) | rfl | skip)
theorem vn{s:Shared}{t:Thread}(he:t.atItsEnd=true):∃o s',step den prog w s t=.halt o s':=by
 obtain ⟨heap,gens,drawn,toks,os⟩:=s
 obtain ⟨cur,code,pos,stack⟩:=t
 cases cur with
 | pure a=>
  cases a with
  | again c=>exact absurd he (by simp [Thread.atItsEnd])
  | done f=>
   cases stack with
   | nil=>
    simp only [step,PySem.finish]
    split <;> exact ⟨_,_,rfl⟩
   | cons f fs=>exact absurd he (by simp [Thread.atItsEnd])
 | raise e=>
  cases stack with
  | nil=>
   simp only [step,PySem.finish]
   split <;> exact ⟨_,_,rfl⟩
  | cons f fs=>exact absurd he (by simp [Thread.atItsEnd])
 | finish e=>
  simp only [step]
  split <;> exact ⟨_,_,rfl⟩
 | _=>exact absurd he (by simp [Thread.atItsEnd])
theorem sim:∀(n:Nat) {s:Shared} {t:Thread} {o:Outcome} {s0:Shared},runN (fw den) prog w n (au s) (erT t)=.halted o s0→o.ends=true→(∀k s1 t1,runN (fw den) prog w k (au s) (erT t)=.running s1 t1→t1.calm=true)→
  ∃sf tf,Path den prog w s t sf tf∧tf.atItsEnd=true∧step (fw den) prog w (au sf) (erT tf)=.halt o s0:=by
 intro n
 induction n using Nat.strongRecOn with
 | _ n ih=>
  intro s t o s0 hr ho hc
  cases n with
  | zero=>cases hr
  | succ n=>
   have c0:=hc 0 _ _ rfl
   cases hl:wW t with
   | false=>
    cases he:t.atItsEnd with
    | true=>
     refine ⟨s,t,.refl _ _,he,?_⟩
     obtain ⟨o',s',e⟩:=vn (fw den) prog w (s:=au s) (t:=erT t) (Bu.trans he)
     simp only [runN,e] at hr
     cases hr
     exact e
    | false=>
     have lk:=DH den prog w (s:=s) hl he
     cases q:step den prog w s t with
     | go s' t'=>
      rw [q] at lk
      have lk:step (fw den) prog w (au s) (erT t)=.go (au s') (erT t'):=lk
      have hr':runN (fw den) prog w n (au s') (erT t')=.halted o s0:=by
       simp only [runN,lk] at hr
       exact hr
      obtain ⟨sf,tf,p,e1,e2⟩:=ih n (Nat.lt_succ_self n) hr' ho fun k s1 t1 hk=>hc (k+1) s1 t1 (by simp only [runN,lk]; exact hk)
      exact ⟨sf,tf,.step (.inl (zt hl c0)) q p,e1,e2⟩
     | halt o' s'=>
      rw [q] at lk
      have lk:step (fw den) prog w (au s) (erT t)=.halt o' (au s'):=lk
      simp only [runN,lk] at hr
      cases hr
      rw [wZ den prog w he q] at ho
      cases ho
   | true=>
    obtain ⟨cur,code,pos,stack⟩:=t
    cases cur with
    | yield v g l k=>
     have hg:g=true:=hl
     subst hg
     cases ya:eB code with
     | none=>
      have e2:erT ⟨.yield v true l k,code,pos,stack⟩=⟨.yield v true l fun x=>er code (k x),code,pos,erS stack⟩:=by
       show (⟨er code (.yield v true l k),code,pos,erS stack⟩:Thread)=_
       rw [o6 ya]
      rw [e2] at c0
      exact absurd c0 (by simp [Thread.calm,Thread.yieldsInsideHandler])
     | some a=>
      have e2:erT ⟨.yield v true l k,code,pos,stack⟩=⟨.loadIfAlive a fun o=>if cR o=true then .yield v false (.ellipsis::l) fun x=>er code (k x) else .unsupported "loud",code,pos,erS stack⟩:=by
       show (⟨er code (.yield v true l k),code,pos,erS stack⟩:Thread)=_
       rw [o5 ya]
      have e3:step (fw den) prog w (au s) (erT ⟨.yield v true l k,code,pos,stack⟩)=.go (au s) ⟨if cR (s.heap.get? a)=true then .yield v false (.ellipsis::l) fun x=>er code (k x) else .unsupported "loud",code,pos,erS stack⟩:=by
       rw [e2]
       rfl
      simp only [runN,e3] at hr
      cases n with
      | zero=>cases hr
      | succ n=>
       cases hg:cR (s.heap.get? a) with
       | false=>
        rw [hg] at hr
        cases hr
        cases ho
       | true=>
        rw [hg] at hr e3
        simp only [if_true] at hr e3
        have c1:=hc 1 _ _ (by simp only [runN,e3]; rfl)
        cases sp:splitAtGen stack with
        | none=>
         have e4:step (fw den) prog w (au s) ⟨.yield v false (.ellipsis::l) fun x=>er code (k x),code,pos,erS stack⟩=.halt (.stuck "yield outside a generator") (au s):=by
          simp only [step,au]
          rw [bV,sp]
          rfl
         simp only [runN,e4] at hr
         cases hr
         cases ho
        | some z=>
         obtain ⟨fs,⟨gn,kg,cg,pg⟩,r⟩:=z
         have un:fs.any Frame.guarded=false:=by
          simp [Thread.calm,Thread.atCollectorCode,Thread.yieldsInsideHandler,bV,sp,iy] at c1
          simpa using c1
         have real:step den prog w s ⟨.yield v true l k,code,pos,stack⟩=.go (s.setGen gn (.suspended k l code pos fs true)) ⟨kg (.yielded v),cg,pg,r⟩:=by
          obtain ⟨heap,gens,drawn,toks,os⟩:=s
          simp only [step,sp]
          rfl
         have e4:step (fw den) prog w (au s) ⟨.yield v false (.ellipsis::l) fun x=>er code (k x),code,pos,erS stack⟩=.go (au (s.setGen gn (.suspended k l code pos fs true))) (erT ⟨kg (.yielded v),cg,pg,r⟩):=by
          obtain ⟨heap,gens,drawn,toks,os⟩:=s
          simp only [step,au,Shared.setGen]
          rw [bV,sp]
          simp only [Option.map_some]
          rw [fY]
          have em:dJ code fs=true:=by
           unfold dJ
           rw [ya,un]
           rfl
          have el:erL code (true&&true) l=.ellipsis::l:=by
           unfold erL
           rw [ya]
           rfl
          simp only [erG,Bool.false_or,iy,un,em,el]
          rfl
         simp only [runN,e4] at hr
         obtain ⟨sf,tf,p,f1,f2⟩:=ih n (by omega) hr ho fun j s1 t1 hk=>hc (j+2) s1 t1 (by
          have:runN (fw den) prog w (j+1+1) (au s) (erT ⟨.yield v true l k,code,pos,stack⟩)=.running s1 t1:=by
           simp only [runN,e3,e4]
           exact hk
          exact this)
         exact ⟨sf,tf,.step (.inr ⟨v,l,k,a,fs,_,r,rfl,ya,hg,sp,un⟩) real p,f1,f2⟩
    | _=>cases hl
end
def a6(s:Shared):Prop:=∀(i:Nat) (k:Resume→Sem PySem.Fin) (l:List Value) (c:Code) (p:Pos) (fs:List Frame) (cl:Bool),s.gens[i]? =some (.suspended k (.ellipsis::l) c p fs cl)→∀a,eB c=some a→cR (s.heap.get? a)=true
def AP(s:Shared):Prop:=∀(i:Nat) (k:Resume→Sem PySem.Fin) (l:List Value) (c:Code) (p:Pos) (fs:List Frame),s.gens[i]? =some (.suspended k l c p fs true)→dJ c fs=true→∀a,eB c=some a→cR (s.heap.get? a)=true
theorem o7{s:Shared}(hz:s.asleep)(all:Bool)(h:leftWithCleanup (au s).gens=false)(g:AP s):leftWithCleanup (forgetSuspended all s).gens=false:=by
 obtain ⟨heap,gens,drawn,toks,os⟩:=s
 unfold leftWithCleanup at h ⊢
 rw [Array.any_eq_false] at h ⊢
 intro i hi
 have hi':i<gens.size:=by simpa [forgetSuspended] using hi
 have hx:gens[i]? =some gens[i]:=Array.getElem?_eq_getElem hi'
 have he:=h i (by simpa [au] using hi')
 simp only [au,Array.getElem_map] at he
 simp only [forgetSuspended,Array.getElem_map]
 generalize gens[i]=x at *
 cases x with
 | suspended k l c p fs cl=>
  cases cl with
  | false=>simp
  | true=>
   have he:¬(true&& !dJ c fs)=true:=he
   have m:dJ c fs=true:=by
    cases q:dJ c fs with
    | true=>rfl
    | false=>rw [q] at he; exact absurd rfl he
   unfold dJ at m
   obtain ⟨m1,m2⟩:=Bool.and_eq_true_iff.mp m
   obtain ⟨a,ha⟩:=Option.isSome_iff_exists.mp m1
   have gg:=g i k l c p fs hx m a ha
   obtain ⟨rest,kw,rfl⟩:=oh ha
   have cs:closingShows ⟨heap,gens,drawn,toks,os⟩ fs (.builtin "proto.yield_from" ⟨.ref a::rest,kw⟩) true=false:=by
    unfold closingShows
    rw [show fs.any Frame.guarded=false by simpa using m2]
    exact qE (s:=⟨heap,gens,drawn,toks,os⟩) gg hz.1
   simp [cs]
 | _=>simp
theorem vo{s s':Shared}(e:(au s).forget=s'.forget)(g:a6 s'):AP s:=by
 intro i k l c p fs h hm a ha
 have hh:s.heap=s'.heap:=(congrArg Shared.heap e:(au s).forget.heap=s'.forget.heap)
 have hg:((au s).forget).gens[i]? =(s'.forget).gens[i]? :=by rw [e]
 have el:erL c (true&&dJ c fs) l=.ellipsis::l:=by
  unfold erL
  rw [ha,hm]
  rfl
 simp only [Shared.forget,au,Array.getElem?_map,h,Option.map_some,erG,el] at hg
 cases q:s'.gens[i]? with
 | none=>rw [q] at hg; cases hg
 | some x=>
  rw [q] at hg
  cases x with
  | suspended k2 l2 c2 p2 fs2 cl2=>
   simp only [Option.map_some,GenState.forget,Option.some.injEq,GenState.suspended.injEq] at hg
   obtain ⟨_,e2,e3,_⟩:=hg
   subst e2 e3
   rw [hh]
   exact g i k2 l c p2 fs2 cl2 q a ha
  | fresh c2=>simp [GenState.forget] at hg
  | running=>simp [GenState.forget] at hg
  | finished=>simp [GenState.forget] at hg
section
variable (prog:Program) (w:World)
abbrev M0:Model:=⟨fw (denote table),prog,w⟩
theorem sj{S s1:Shared}{o q:Outcome}(h:PySem.finish o S=.halt q s1)(hq:∀m,q≠ .unsupported m):o=q∧s1=S∧leftWithCleanup S.gens=false:=by
 unfold PySem.finish at h
 by_cases z:leftWithCleanup S.gens=true
 ·rw [if_pos z] at h
  exact absurd (Step.halt.inj h).1.symm (hq _)
 ·rw [if_neg z] at h
  exact ⟨(Step.halt.inj h).1,(Step.halt.inj h).2.symm,by simpa using z⟩
theorem sk(r:Result):∀m,outcomeOf r≠ .unsupported m:=by
 intro m h
 cases r <;> cases h
theorem zu(r:Result):∀m,outcomeOf r≠ .ended m:=by
 intro m h
 cases r <;> cases h
theorem Bv{s s1:Shared}{t:Thread}{r:Result}(he:t.atItsEnd=true)(h:step (fw (denote table)) prog w (au s) (erT t)=.halt (outcomeOf r) s1):Bt t=some (outcomeOf r)∧s1=au s∧leftWithCleanup (au s).gens=false:=by
 obtain ⟨cur,code,pos,stack⟩:=t
 cases cur with
 | pure a=>
  cases a with
  | again c=>exact absurd he (by simp [Thread.atItsEnd])
  | done f=>
   cases stack with
   | nil=>
    have h':PySem.finish (.done f) (au s)=.halt (outcomeOf r) s1:=h
    obtain ⟨e1,e2,e3⟩:=sj h' (sk r)
    exact ⟨congrArg some e1,e2,e3⟩
   | cons f fs=>exact absurd he (by simp [Thread.atItsEnd])
 | raise e=>
  cases stack with
  | nil=>
   have h':PySem.finish (.uncaught e) (au s)=.halt (outcomeOf r) s1:=h
   obtain ⟨e1,e2,e3⟩:=sj h' (sk r)
   exact ⟨congrArg some e1,e2,e3⟩
  | cons f fs=>exact absurd he (by simp [Thread.atItsEnd])
 | finish e=>
  have h':PySem.finish (.ended e) (au s)=.halt (outcomeOf r) s1:=h
  exact absurd (sj h' (sk r)).1.symm (zu r e)
 | _=>exact absurd he (by simp [Thread.atItsEnd])
theorem ss{t:Sem PySem.Fin}{c:Code}{p:Pos}{s:Shared}{R:Result→Shared→Prop}(hz:s.asleep)
  (h:Sem.wp (M0 prog w) ⟨c,none,none,[],none⟩ (er c t) (Sem.finPost (M0 prog w) ⟨c,none,none,[],none⟩ fun r s'=>(R r s'∧a6 s')∧leftWithCleanup s'.gens=false) (fun e _ s'=>(R (.error e) s'∧a6 s')∧leftWithCleanup s'.gens=false) p (au s)):
  ∃n r s1 s2,schedN (denote table) prog w n (.single s ⟨t,c,p,[]⟩)=.halted (outcomeOf r) s1∧R r s2∧s1.heap=s2.heap∧s1.drawn=s2.drawn∧s1.toks=s2.toks∧s1.os=s2.os:=by
 obtain ⟨n,r,s',hn,hR,hG⟩:=(wp_iff_halts (M:=M0 prog w) (er c t) (fun r s'=>R r s'∧a6 s') p (au s)).mp h
 obtain ⟨s'',hr,hf,hc⟩:=runNI_real (fw (denote table)) prog w hn (outcomeOf_ends r)
 obtain ⟨sf,tf,pa,he,hs⟩:=sim (denote table) prog w n (s:=s) (t:=⟨t,c,p,[]⟩) hr (outcomeOf_ends r) hc
 obtain ⟨ho,rfl,hl⟩:=Bv prog w he hs
 have hzf:sf.asleep:=by
  unfold Shared.asleep
  rw [Path.life _ _ _ pa]
  exact hz
 have gf:=vo hf hG
 obtain ⟨m,hm⟩:=Path.sched (denote table) prog w pa hz (vm (denote table) prog w ho hzf (o7 hzf _ hl gf))
 refine ⟨m,r,_,s',hm,hR,?_,?_,?_,?_⟩
 ·exact (congrArg Shared.heap hf:(au sf).forget.heap=s'.forget.heap)
 ·exact (congrArg Shared.drawn hf:(au sf).forget.drawn=s'.forget.drawn)
 ·exact (congrArg Shared.toks hf:(au sf).forget.toks=s'.forget.toks)
 ·exact (congrArg Shared.os hf:(au sf).forget.os=s'.forget.os)
end
section
theorem vp(f:Frame):(qB f).marks=f.marks:=by cases f <;> rfl
theorem oi(fs:List Frame)(x:Option Value×Option Value):marksOver (erS fs) x=marksOver fs x:=by
 induction fs with
 | nil=>rfl
 | cons f fs ih=>
  show (qB f).marks (marksOver (erS fs) x)=f.marks (marksOver fs x)
  rw [ih,vp]
def erE:End→End
 | .ret r=>.ret r
 | .susp v g l k c p fs=>.susp v g (erL c false l) (fun r=>er c (k r)) c p (erS fs)
theorem jF(Γ:PySem.Ctx)(fs:List Frame):Γ.over (erS fs)=Γ.over fs:=by
 unfold Ctx.over
 rw [oi,oi,fK,bV]
 cases splitAtGen fs with
 | none=>rfl
 | some q=>
  simp only [Option.map_some,topHandled,lH]
theorem cj(s:Shared)(g:Nat)(x:GenState):au (s.setGen g x)=(au s).setGen g (erG x):=by
 simp [au,Shared.setGen,Array.map_setIfInBounds]
theorem oj(s:Shared)(c:Code):au { s with gens:=s.gens.push (.fresh c) }={ au s with gens:=(au s).gens.push (.fresh c) }:=by
 simp [au,erG]
theorem dR{s:Shared}{g:Nat}{x:GenState}(h:s.gens[g]? =some x):(au s).gens[g]? =some (erG x):=by
 simp [au,h]
theorem fL{e:End}(h:e.quiet=true):erG e.genState=(erE e).genState:=by
 cases e with
 | ret r=>rfl
 | susp v g l k c p fs=>
  have q:(g||fs.any Frame.guarded)=false:=by simpa [End.quiet] using h
  show GenState.suspended _ (erL c ((g||fs.any Frame.guarded)&&dJ c fs) l) c p (erS fs) ((g||fs.any Frame.guarded)&& !dJ c fs)=GenState.suspended _ (erL c false l) c p (erS fs) (g||(erS fs).any Frame.guarded)
  rw [iy,q]
  rfl
theorem fZ(e:End):(erE e).result=e.result:=by cases e <;> rfl
theorem fM(e:End):(erE e).quiet=e.quiet:=by
 cases e with
 | ret r=>rfl
 | susp v g l k c p fs=>
  show (!(g||(erS fs).any Frame.guarded))=_
  rw [iy]
  rfl
variable {den:Code→Sem Fin} {prog:Program} {w:World}
theorem o8{Γ:PySem.Ctx}{p:Pos}{t:Sem Fin}{fs:List Frame}{s s':Shared}{e:End}(h:Runs ⟨den,prog,w⟩ Γ p t fs s e s'):
  e.quiet=true→Runs ⟨fw den,prog,w⟩ Γ p (er Γ.code t) (erS fs) (au s) (erE e) (au s'):=by
 induction h with
 | done=>intro _; exact .done
 | raise=>intro _; exact .raise
 | again hq _ ih=>intro q; exact .again hq (ih q)
 | rule _ ih=>intro q; exact .rule (ih q)
 | «at» _ ih=>intro q; exact .at (ih q)
 | load h _ ih=>intro q; exact .load h (ih q)
 | update h _ ih=>intro q; exact .update h (ih q)
 | loadIfAlive _ ih=>intro q; exact .loadIfAlive (ih q)
 | point _ ih=>intro q; exact .point (ih q)
 | alloc _ ih=>intro q; exact .alloc (ih q)
 | fresh _ ih=>intro q; exact .fresh (ih q)
 | ask _ ih=>intro q; exact .ask (ih q)
 | choose h _ ih=>intro q; exact .choose h (ih q)
 | os _ ih=>intro q; exact .os (ih q)
 | handled _ ih=>intro q; exact .handled (ih q)
 | genState h _ ih=>intro q; exact .genState (dR h) (by rw [qD]; exact ih q)
 | stack _ ih=>intro q; exact .stack (ih q)
 | thread _ ih=>intro q; exact .thread (ih q)
 | newGen _ ih=>
  intro q
  have z:=ih q
  rw [oj] at z
  refine .newGen ?_
  rw [show (au _).gens.size=_ from Array.size_map ..]
  exact z
 | call _ _ ih1 ih2=>intro q; exact .call (ih1 rfl) (ih2 q)
 | callSusp _ ih=>
  intro q
  have z:=ih (by simp only [End.quiet,List.any_append,Bool.not_eq_true',Bool.or_eq_false_iff] at q ⊢; exact ⟨q.1,q.2.1⟩)
  show Runs _ _ _ _ _ _ (.susp _ _ _ _ _ _ (erS (_++[_]))) _
  rw [lI]
  exact .callSusp z
 | @yield _ _ _ g _ _ _=>
  intro q
  have hg:g=false:=by cases g with
   | false=>rfl
   | true=>exact absurd q (by simp [End.quiet])
  subst hg
  rw [zr]
  exact .yield
 | resumeFresh h _ qe _ ih1 ih2=>
  intro q
  have z1:=ih1 qe
  have z2:=ih2 q
  rw [cj] at z1 z2
  rw [fL qe] at z2
  rw [←fZ] at z2
  exact .resumeFresh (dR h) z1 (by rw [fM]; exact qe) z2
 | resumeSuspended h _ qe _ ih1 ih2=>
  intro q
  have z1:=ih1 qe
  have z2:=ih2 q
  rw [cj] at z1 z2
  rw [fL qe] at z2
  rw [←fZ] at z2
  exact .resumeSuspended (dR h) z1 (by rw [fM]; exact qe) z2
 | resumeJustStarted h hv _ ih=>intro q; exact .resumeJustStarted (dR h) hv (ih q)
 | resumeThrowFresh h _ ih=>
  intro q
  have z:=ih q
  rw [cj] at z
  exact .resumeThrowFresh (dR h) z
 | resumeRunning h _ ih=>intro q; exact .resumeRunning (dR h) (ih q)
 | resumeFinished h _ ih=>intro q; exact .resumeFinished (dR h) (ih q)
 | segRet _ _ ih1 ih2=>
  intro q
  have z1:=ih1 rfl
  rw [←jF] at z1
  exact .segRet z1 (ih2 q)
 | segGen _ _ ih1 ih2=>
  intro q
  have z1:=ih1 rfl
  have z2:=ih2 q
  rw [←jF] at z1
  rw [cj] at z2
  exact .segGen z1 z2
 | segSuspOut hs _ ih=>
  intro q
  have z:=ih (by simp only [End.quiet,List.any_append,Bool.not_eq_true',Bool.or_eq_false_iff] at q ⊢; exact ⟨q.1,q.2.1⟩)
  rw [←jF] at z
  show Runs _ _ _ _ _ _ (.susp _ _ _ _ _ _ (erS (_++_))) _
  rw [lI]
  refine .segSuspOut ?_ z
  show splitAtGen (erS (_::_))=none
  rw [bV,hs]
  rfl
 | @segSuspGen Γ p t F fs pre g k c₁ p₁ rest s v g₀ l₀ k₀ c₀ p₀ fs₀ s₁ e s' hs _ qe _ ih1 ih2=>
  intro q
  have z1:=ih1 (by simp only [End.quiet,List.any_append,Bool.not_eq_true',Bool.or_eq_false_iff] at qe ⊢; exact ⟨qe.1,qe.2.1⟩)
  have z2:=ih2 q
  rw [←jF] at z1
  rw [cj,fL qe] at z2
  have q2:=(fM _).trans qe
  have e0:erE (.susp v g₀ l₀ k₀ c₀ p₀ (fs₀++pre))=.susp v g₀ (erL c₀ false l₀) (fun r=>er c₀ (k₀ r)) c₀ p₀ (erS fs₀++erS pre):=by simp only [erE,lI]
  rw [e0] at z2 q2
  have hs':splitAtGen (erS (F::fs))=some (erS pre,(g,(fun r=>er c₁ (k r)),c₁,p₁),erS rest):=by
   rw [bV,hs]
   rfl
  exact .segSuspGen hs' z1 q2 z2
end
section
variable {den:Code→Sem PySem.Fin} {prog:Program} {w:World}
theorem w4{Γ:PySem.Ctx}{p:Pos}{g:Nat}{r:Resume}{s s':Shared}{res:GenResult}(h:Wakes ⟨den,prog,w⟩ Γ p g r s res s'):Wakes ⟨fw den,prog,w⟩ Γ p g r (au s) res (au s'):=by
 unfold Wakes at h ⊢
 cases q:s.gens[g]? with
 | none=>
  rw [q] at h
  exact h.elim
 | some x=>
  rw [q] at h
  rw [dR q]
  cases x with
  | fresh c=>
   cases r with
   | send v=>
    by_cases hv:v=.none
    ·subst hv
     obtain ⟨e1,s1,hr,hq,rfl,rfl⟩:=h
     refine ⟨erE e1,au s1,?_,(fM e1).trans hq,(fZ e1).symm,?_⟩
     ·have z:=o8 hr hq
      rw [cj] at z
      exact z
     ·rw [cj,fL hq]
    ·have h':res=.justStarted∧s'=s:=by
      cases v <;> first | exact h | exact absurd rfl hv
     obtain ⟨rfl,rfl⟩:=h'
     show (match (Resume.send v) with | .send .none=>_ | .send _=>GenResult.justStarted=.justStarted∧au s'=au s' | .throw x=>_)
     cases v <;> first | exact ⟨rfl,rfl⟩ | exact absurd rfl hv
   | throw x=>
    obtain ⟨rfl,rfl⟩:=h
    exact ⟨rfl,cj _ _ _⟩
  | suspended k l c p0 fs cl=>
   obtain ⟨e1,s1,hr,hq,rfl,rfl⟩:=h
   refine ⟨erE e1,au s1,?_,(fM e1).trans hq,(fZ e1).symm,?_⟩
   ·have z:=o8 hr hq
    rw [cj] at z
    exact z
   ·rw [cj,fL hq]
  | running=>
   obtain ⟨rfl,rfl⟩:=h
   exact ⟨rfl,rfl⟩
  | finished=>
   obtain ⟨rfl,rfl⟩:=h
   exact ⟨rfl,rfl⟩
theorem su{Γ:PySem.Ctx}{p:Pos}{s s':Shared}{r:Result}(h:Returns ⟨den,prog,w⟩ Γ p s r s'):Returns ⟨fw den,prog,w⟩ Γ p (au s) r (au s'):=
 o8 h rfl
def Beh{β:Type}(Q:β→Shared→Prop)(a:β)(s1:Shared):Prop:=∃s',s1=au s'∧Q a s'
theorem zv{α:Type}{Γ:PySem.Ctx}(t:Sem α){Q:α→Pos→Shared→Prop}{E:Value→Pos→Shared→Prop}{p:Pos}{s:Shared}(h:Sem.wp ⟨den,prog,w⟩ Γ t Q E p s):
  Sem.wp ⟨fw den,prog,w⟩ Γ t (fun a p s1=>∃s',s1=au s'∧Q a p s') (fun e p s1=>∃s',s1=au s'∧E e p s') p (au s):=by
 induction t generalizing p s with
 | pure a=>exact ⟨s,rfl,h⟩
 | raise e=>exact ⟨s,rfl,h⟩
 | unsupported | finish | yield | fork | await | register=>exact h.elim
 | rule t k ih=>exact ih _ h
 | «at» p' k ih=>exact ih _ h
 | load a part k ih=>
  obtain ⟨o,ho,h⟩:=h
  exact ⟨o,ho,ih _ h⟩
 | update a part f k ih=>exact ⟨h.1,ih _ h.2⟩
 | loadIfAlive a k ih=>exact ih _ h
 | point l k ih=>exact ih _ h
 | alloc o k ih=>exact ih _ h
 | fresh k ih=>exact ih _ h
 | ask k ih=>exact ih _ h
 | choose src n k ih=>exact ⟨h.1,ih _ h.2⟩
 | os q l k ih=>exact ih _ h
 | call c hd g l k ih=>
  obtain ⟨r,s1,hr,h⟩:=h
  exact ⟨r,au s1,su hr,ih _ h⟩
 | handled own k ih=>exact ih _ h
 | genState g k ih=>
  obtain ⟨st,hg,h⟩:=h
  refine ⟨erG st,dR hg,?_⟩
  rw [qD]
  exact ih _ h
 | newGen c k ih=>
  have z:=ih _ h
  rw [oj] at z
  show Sem.wp _ _ (k (au s).gens.size) _ _ _ _
  rw [show (au s).gens.size=s.gens.size from Array.size_map ..]
  exact z
 | resume g r l k ih=>
  obtain ⟨res,s1,hw,h⟩:=h
  exact ⟨res,au s1,w4 hw,ih _ h⟩
 | stack k ih=>exact ih _ h
 | thread k ih=>exact ih _ h
theorem w6{α:Type}{A:Around}{t:Sem α}{Q:α→Shared→Prop}{E:Value→Shared→Prop}{s:Shared}(h:wpAny ⟨den,prog,w⟩ A t Q E s):wpAny ⟨fw den,prog,w⟩ A t (Beh Q) (Beh E) (au s):=
 fun Γ p hΓ=>zv t (h Γ p hΓ)
end
theorem CK{α:Type}{M:Model}{Γ:PySem.Ctx}{c:Code}(t:Sem α){Q:α→Pos→Shared→Prop}{E:Value→Pos→Shared→Prop}{p:Pos}{s:Shared}(h:Sem.wp M Γ t Q E p s):Sem.wp M Γ (er c t) Q E p s:=by
 induction t generalizing p s with
 | pure a=>exact h
 | raise e=>exact h
 | unsupported | finish | yield | fork | await | register=>exact h.elim
 | rule t k ih=>exact ih _ h
 | «at» p' k ih=>exact ih _ h
 | load a part k ih=>
  obtain ⟨o,ho,h⟩:=h
  exact ⟨o,ho,ih _ h⟩
 | update a part f k ih=>exact ⟨h.1,ih _ h.2⟩
 | loadIfAlive a k ih=>exact ih _ h
 | point l k ih=>exact ih _ h
 | alloc o k ih=>exact ih _ h
 | fresh k ih=>exact ih _ h
 | ask k ih=>exact ih _ h
 | choose src n k ih=>exact ⟨h.1,ih _ h.2⟩
 | os q l k ih=>exact ih _ h
 | call c hd g l k ih=>
  obtain ⟨r,s1,hr,h⟩:=h
  exact ⟨r,s1,hr,ih _ h⟩
 | handled own k ih=>exact ih _ h
 | genState g k ih=>
  obtain ⟨st,hg,h⟩:=h
  exact ⟨st,hg,ih _ h⟩
 | newGen c k ih=>exact ih _ h
 | resume g r l k ih=>
  obtain ⟨res,s1,hw,h⟩:=h
  exact ⟨res,s1,hw,ih _ h⟩
 | stack k ih=>exact ih _ h
 | thread k ih=>exact ih _ h
theorem sy{prog:Program}{w:World}{t:Sem PySem.Fin}{c:Code}{p:Pos}{s:Shared}{R:Result→Shared→Prop}(hz:s.asleep)(h0:s.gens= #[])
  (h:Sem.wp (M0 prog w) ⟨c,none,none,[],none⟩ t (Sem.finPost (M0 prog w) ⟨c,none,none,[],none⟩ fun r s'=>(R r s'∧a6 s')∧leftWithCleanup s'.gens=false) (fun e _ s'=>(R (.error e) s'∧a6 s')∧leftWithCleanup s'.gens=false) p s):
  ∃n r s1 s2,schedN (denote table) prog w n (.single s ⟨t,c,p,[]⟩)=.halted (outcomeOf r) s1∧R r s2∧s1.heap=s2.heap∧s1.drawn=s2.drawn∧s1.toks=s2.toks∧s1.os=s2.os:=by
 have e:au s=s:=by
  obtain ⟨heap,gens,drawn,toks,os⟩:=s
  have h0:gens= #[]:=h0
  subst h0
  simp [au]
 exact ss prog w hz (by rw [e]; exact CK t h)
def Psn(a b:GenState):Prop:=∃l c p fs cl k l' fs',a=.suspended (fun _=>.unsupported "") l c p fs cl∧b=.suspended k l' c p fs' cl∧fs.map Frame.where_=fs'.map Frame.where_
theorem Psn.seen{a b:GenState}(h:Psn a b):a.seen=b.seen:=by
 obtain ⟨l,c,p,fs,cl,k,l',fs',rfl,rfl,e⟩:=h
 show (GenStatus.suspended,some ((c,p)::fs.map Frame.where_))=(GenStatus.suspended,some ((c,p)::fs'.map Frame.where_))
 rw [e]
theorem Psn.bare{a b:GenState}(h:Psn a b):a.bare=b.bare:=by
 obtain ⟨l,c,p,fs,cl,k,l',fs',rfl,rfl,_⟩:=h
 rfl
structure SimG (J:Nat→Prop) (a b:Array GenState):Prop where
 sz:a.size=b.size
 at_:∀i,J i→∃x y,a[i]? =some x∧b[i]? =some y∧Psn x y
 off:∀i,¬J i→a[i]? =b[i]?
theorem SimG.lt{J:Nat→Prop}{a b:Array GenState}(h:SimG J a b){i:Nat}(j:J i):i<a.size:=by
 obtain ⟨x,y,e,_⟩:=h.at_ i j
 exact (Array.getElem?_eq_some_iff.mp e).1
theorem SimG.push{J:Nat→Prop}{a b:Array GenState}(h:SimG J a b)(x:GenState):SimG J (a.push x) (b.push x):=by
 refine ⟨by simp [h.sz],fun i j=>?_,fun i j=>?_⟩
 ·obtain ⟨u,v,e1,e2,r⟩:=h.at_ i j
  have l:=h.lt j
  have l2:i<b.size:=by rw [←h.sz]; exact l
  exact ⟨u,v,by rw [Array.getElem?_push_lt l,←Array.getElem?_eq_getElem l]; exact e1,by rw [Array.getElem?_push_lt l2,←Array.getElem?_eq_getElem l2]; exact e2,r⟩
 ·have q:=h.off i j
  rw [Array.getElem?_push,Array.getElem?_push,h.sz,q]
theorem SimG.set{J:Nat→Prop}{a b:Array GenState}(h:SimG J a b){g:Nat}(hg:¬J g)(x:GenState):SimG J (a.setIfInBounds g x) (b.setIfInBounds g x):=by
 refine ⟨by simp [h.sz],fun i j=>?_,fun i j=>?_⟩
 ·obtain ⟨u,v,e1,e2,r⟩:=h.at_ i j
  have ne:g≠i:=fun z=>hg (by rw [z]; exact j)
  exact ⟨u,v,by rw [Array.getElem?_setIfInBounds_ne ne]; exact e1,by rw [Array.getElem?_setIfInBounds_ne ne]; exact e2,r⟩
 ·have q:=h.off i j
  rw [Array.getElem?_setIfInBounds,Array.getElem?_setIfInBounds,h.sz,q]
def WfG(J:Nat→Prop)(a:Array GenState):Prop:=∀i k l c p fs cl,¬J i→a[i]? =some (.suspended k l c p fs cl)→splitAtGen fs=none
theorem WfG.push{J:Nat→Prop}{a:Array GenState}(h:WfG J a)(c:Code):WfG J (a.push (.fresh c)):=fun i k l c' p fs cl j e=>by
 rw [Array.getElem?_push] at e
 split at e
 ·cases e
 ·exact h i k l c' p fs cl j e
theorem WfG.set{J:Nat→Prop}{a:Array GenState}(h:WfG J a){g:Nat}{x:GenState}(hx:∀k l c p fs cl,x=.suspended k l c p fs cl→splitAtGen fs=none):WfG J (a.setIfInBounds g x):=fun i k l c p fs cl j e=>by
 rw [Array.getElem?_setIfInBounds] at e
 split at e
 ·split at e
  ·exact hx k l c p fs cl (Option.some.inj e)
  ·cases e
 ·exact h i k l c p fs cl j e
def endWf:End→Prop
 | .ret _=>True
 | .susp _ _ _ _ _ _ fs=>splitAtGen fs=none
theorem endWf.gs{e:End}(h:endWf e):∀k l c p fs cl,e.genState=.suspended k l c p fs cl→splitAtGen fs=none:=fun k l c p fs cl q=>by
 cases e with
 | ret r=>cases q
 | susp v g l k c p fs=>cases q; exact h
theorem eF{k:Result→Sem PySem.Fin}{h:Option Value}{g:Bool}{l kp:List Value}{c:Code}{p:Pos}{fs:List Frame}:splitAtGen (.ret k h g l c p kp::fs)=none↔splitAtGen fs=none:=by
 show (splitAtGen fs).map _=none↔_
 cases splitAtGen fs <;> simp
theorem om{a b:List Frame}(ha:splitAtGen a=none)(hb:splitAtGen b=none):splitAtGen (a++b)=none:=by
 induction a with
 | nil=>exact hb
 | cons F r ih=>cases F with
  | ret k h g l c p kp=>
   rw [List.cons_append]
   exact eF.mpr (ih (eF.mp ha))
  | gen g k l c p=>cases ha
theorem mt{M:Model}{Γ:PySem.Ctx}{p:Pos}{what:String}:∀{fs:List Frame} {s:Shared} {e:End} {s':Shared},¬Runs M Γ p (.unsupported what) fs s e s':=by
 have nil:∀{Γ:PySem.Ctx} {s:Shared} {e:End} {s':Shared},¬Runs M Γ p (.unsupported what) [] s e s':=fun h=>nomatch h
 intro fs s e s' h
 cases fs with
 | nil=>exact nil h
 | cons F fs=>
  cases h with
  | segRet h _=>exact nil h
  | segGen h _=>exact nil h
  | segSuspOut _ h=>exact nil h
  | segSuspGen _ h _ _=>exact nil h
theorem SimG.noj{J:Nat→Prop}{a b:Array GenState}(hb:SimG J a b){g:Nat}{x:GenState}(hg:a[g]? =some x)(hx:∀l c p fs cl,x≠ .suspended (fun _=>.unsupported "") l c p fs cl):¬J g:=fun j=>by
 obtain ⟨x',y,e1,e2,l,c',p,fs,cl,k,l',fs',r,_⟩:=hb.at_ g j
 rw [hg,r] at e1
 exact hx _ _ _ _ _ (Option.some.inj e1)
theorem SimG.seen{J:Nat→Prop}{a b:Array GenState}(hb:SimG J a b){g:Nat}{x:GenState}(hg:a[g]? =some x):∃y,b[g]? =some y∧x.seen=y.seen:=by
 rcases Classical.em (J g) with j | j
 ·obtain ⟨x',y,e1,e2,r⟩:=hb.at_ g j
  rw [hg] at e1
  cases e1
  exact ⟨y,e2,r.seen⟩
 ·exact ⟨x,by rw [←hb.off g j]; exact hg,rfl⟩
theorem SimG.keepJ{J:Nat→Prop}{b:Array GenState}{g:Nat}(nj:¬J g){i:Nat}(j:J i)(x:GenState):(b.setIfInBounds g x)[i]? =b[i]? :=Array.getElem?_setIfInBounds_ne fun z=>nj (by rw [z]; exact j)
theorem mu{M:Model}{J:Nat→Prop}{Γ:PySem.Ctx}{p:Pos}{t:Sem PySem.Fin}{fs:List Frame}{s:Shared}{e:End}{s':Shared}(h:Runs M Γ p t fs s e s'):
  splitAtGen fs=none→WfG J s.gens→∀b,SimG J s.gens b→endWf e∧WfG J s'.gens∧∃b',SimG J s'.gens b'∧(∀i,J i→b'[i]? =b[i]?)∧Runs M Γ p t fs { s with gens:=b } e { s' with gens:=b' }:=by
 induction h with
 | done=>exact fun hf hw b hb=>⟨trivial,hw,b,hb,fun _ _=>rfl,.done⟩
 | raise=>exact fun hf hw b hb=>⟨trivial,hw,b,hb,fun _ _=>rfl,.raise⟩
 | again hc _ ih=>intro hf hw b hb; obtain ⟨h0,h1,b',h2,h3,h4⟩:=ih hf hw b hb; exact ⟨h0,h1,b',h2,h3,.again hc h4⟩
 | rule _ ih=>intro hf hw b hb; obtain ⟨h0,h1,b',h2,h3,h4⟩:=ih hf hw b hb; exact ⟨h0,h1,b',h2,h3,.rule h4⟩
 | «at» _ ih=>intro hf hw b hb; obtain ⟨h0,h1,b',h2,h3,h4⟩:=ih hf hw b hb; exact ⟨h0,h1,b',h2,h3,.at h4⟩
 | load ho _ ih=>intro hf hw b hb; obtain ⟨h0,h1,b',h2,h3,h4⟩:=ih hf hw b hb; exact ⟨h0,h1,b',h2,h3,.load ho h4⟩
 | update ho _ ih=>intro hf hw b hb; obtain ⟨h0,h1,b',h2,h3,h4⟩:=ih hf hw b hb; exact ⟨h0,h1,b',h2,h3,.update ho h4⟩
 | loadIfAlive _ ih=>intro hf hw b hb; obtain ⟨h0,h1,b',h2,h3,h4⟩:=ih hf hw b hb; exact ⟨h0,h1,b',h2,h3,.loadIfAlive h4⟩
 | point _ ih=>intro hf hw b hb; obtain ⟨h0,h1,b',h2,h3,h4⟩:=ih hf hw b hb; exact ⟨h0,h1,b',h2,h3,.point h4⟩
 | alloc _ ih=>intro hf hw b hb; obtain ⟨h0,h1,b',h2,h3,h4⟩:=ih hf hw b hb; exact ⟨h0,h1,b',h2,h3,.alloc h4⟩
 | fresh _ ih=>intro hf hw b hb; obtain ⟨h0,h1,b',h2,h3,h4⟩:=ih hf hw b hb; exact ⟨h0,h1,b',h2,h3,.fresh h4⟩
 | ask _ ih=>intro hf hw b hb; obtain ⟨h0,h1,b',h2,h3,h4⟩:=ih hf hw b hb; exact ⟨h0,h1,b',h2,h3,.ask h4⟩
 | choose hn _ ih=>intro hf hw b hb; obtain ⟨h0,h1,b',h2,h3,h4⟩:=ih hf hw b hb; exact ⟨h0,h1,b',h2,h3,.choose hn h4⟩
 | os _ ih=>intro hf hw b hb; obtain ⟨h0,h1,b',h2,h3,h4⟩:=ih hf hw b hb; exact ⟨h0,h1,b',h2,h3,.os h4⟩
 | handled _ ih=>intro hf hw b hb; obtain ⟨h0,h1,b',h2,h3,h4⟩:=ih hf hw b hb; exact ⟨h0,h1,b',h2,h3,.handled h4⟩
 | stack _ ih=>intro hf hw b hb; obtain ⟨h0,h1,b',h2,h3,h4⟩:=ih hf hw b hb; exact ⟨h0,h1,b',h2,h3,.stack h4⟩
 | thread _ ih=>intro hf hw b hb; obtain ⟨h0,h1,b',h2,h3,h4⟩:=ih hf hw b hb; exact ⟨h0,h1,b',h2,h3,.thread h4⟩
 | genState hg _ ih=>
  intro hf hw b hb
  obtain ⟨h0,h1,b',h2,h3,h4⟩:=ih hf hw b hb
  obtain ⟨y,e,r⟩:=hb.seen hg
  rw [r] at h4
  exact ⟨h0,h1,b',h2,h3,.genState e h4⟩
 | newGen _ ih=>
  intro hf hw b hb
  obtain ⟨h0,h1,b',h2,h3,h4⟩:=ih hf (hw.push _) _ (hb.push _)
  refine ⟨h0,h1,b',h2,fun i j=>?_,.newGen ?_⟩
  ·have l:i<b.size:=by rw [←hb.sz]; exact hb.lt j
   rw [h3 i j,Array.getElem?_push_lt l,←Array.getElem?_eq_getElem l]
  ·exact hb.sz ▸h4
 | call _ _ ih1 ih2=>
  intro hf hw b hb
  obtain ⟨h0,h1,b1,h2,h3,h4⟩:=ih1 rfl hw b hb
  obtain ⟨k0,k1,b2,k2,k3,k4⟩:=ih2 hf h1 b1 h2
  exact ⟨k0,k1,b2,k2,fun i j=>(k3 i j).trans (h3 i j),.call h4 k4⟩
 | callSusp _ ih1=>
  intro hf hw b hb
  obtain ⟨h0,h1,b1,h2,h3,h4⟩:=ih1 rfl hw b hb
  exact ⟨om h0 rfl,h1,b1,h2,h3,.callSusp h4⟩
 | yield=>exact fun hf hw b hb=>⟨rfl,hw,b,hb,fun _ _=>rfl,.yield⟩
 | resumeFresh hg _ hq _ ih1 ih2=>
  intro hf hw b hb
  have nj:=hb.noj hg fun _ _ _ _ _ z=>nomatch z
  obtain ⟨h0,h1,b1,h2,h3,h4⟩:=ih1 rfl (hw.set fun _ _ _ _ _ _ z=>nomatch z) _ (hb.set nj .running)
  obtain ⟨k0,k1,b2,k2,k3,k4⟩:=ih2 hf (h1.set h0.gs) _ (h2.set nj _)
  exact ⟨k0,k1,b2,k2,fun i j=>(k3 i j).trans ((SimG.keepJ nj j _).trans ((h3 i j).trans (SimG.keepJ nj j _))),.resumeFresh (by rw [←hb.off _ nj]; exact hg) h4 hq k4⟩
 | resumeSuspended hg hr hq _ ih1 ih2=>
  intro hf hw b hb
  have nj:=hb.noj hg fun _ _ _ _ _ z=>by
   cases z
   exact mt hr
  obtain ⟨h0,h1,b1,h2,h3,h4⟩:=ih1 (hw _ _ _ _ _ _ _ nj hg) (hw.set fun _ _ _ _ _ _ z=>nomatch z) _ (hb.set nj .running)
  obtain ⟨k0,k1,b2,k2,k3,k4⟩:=ih2 hf (h1.set h0.gs) _ (h2.set nj _)
  exact ⟨k0,k1,b2,k2,fun i j=>(k3 i j).trans ((SimG.keepJ nj j _).trans ((h3 i j).trans (SimG.keepJ nj j _))),.resumeSuspended (by rw [←hb.off _ nj]; exact hg) h4 hq k4⟩
 | resumeJustStarted hg hv _ ih=>
  intro hf hw b hb
  have nj:=hb.noj hg fun _ _ _ _ _ z=>nomatch z
  obtain ⟨h0,h1,b',h2,h3,h4⟩:=ih hf hw b hb
  exact ⟨h0,h1,b',h2,h3,.resumeJustStarted (by rw [←hb.off _ nj]; exact hg) hv h4⟩
 | resumeThrowFresh hg _ ih=>
  intro hf hw b hb
  have nj:=hb.noj hg fun _ _ _ _ _ z=>nomatch z
  obtain ⟨h0,h1,b',h2,h3,h4⟩:=ih hf (hw.set fun _ _ _ _ _ _ z=>nomatch z) _ (hb.set nj .finished)
  exact ⟨h0,h1,b',h2,fun i j=>(h3 i j).trans (SimG.keepJ nj j _),.resumeThrowFresh (by rw [←hb.off _ nj]; exact hg) h4⟩
 | resumeRunning hg _ ih=>
  intro hf hw b hb
  have nj:=hb.noj hg fun _ _ _ _ _ z=>nomatch z
  obtain ⟨h0,h1,b',h2,h3,h4⟩:=ih hf hw b hb
  exact ⟨h0,h1,b',h2,h3,.resumeRunning (by rw [←hb.off _ nj]; exact hg) h4⟩
 | resumeFinished hg _ ih=>
  intro hf hw b hb
  have nj:=hb.noj hg fun _ _ _ _ _ z=>nomatch z
  obtain ⟨h0,h1,b',h2,h3,h4⟩:=ih hf hw b hb
  exact ⟨h0,h1,b',h2,h3,.resumeFinished (by rw [←hb.off _ nj]; exact hg) h4⟩
 | segRet _ _ ih1 ih2=>
  intro hf hw b hb
  obtain ⟨h0,h1,b1,h2,h3,h4⟩:=ih1 rfl hw b hb
  obtain ⟨k0,k1,b2,k2,k3,k4⟩:=ih2 (eF.mp hf) h1 b1 h2
  exact ⟨k0,k1,b2,k2,fun i j=>(k3 i j).trans (h3 i j),.segRet h4 k4⟩
 | segGen _ _ _ _=>exact fun hf=>nomatch hf
 | segSuspOut hs _ ih1=>
  intro hf hw b hb
  obtain ⟨h0,h1,b1,h2,h3,h4⟩:=ih1 rfl hw b hb
  exact ⟨om h0 hf,h1,b1,h2,h3,.segSuspOut hs h4⟩
 | segSuspGen hs _ _ _ _ _=>exact fun hf=>by rw [hs] at hf; cases hf
theorem SimG.bare{J:Nat→Prop}{a b:Array GenState}(h:SimG J a b)(ha:AllBare a):AllBare b:=fun y hy=>by
 obtain ⟨i,hi,e⟩:=Array.mem_iff_getElem.mp hy
 have e':b[i]? =some y:=by rw [Array.getElem?_eq_getElem hi,e]
 rcases Classical.em (J i) with j | j
 ·obtain ⟨x,y',e1,e2,r⟩:=h.at_ i j
  rw [e'] at e2
  cases e2
  rw [←r.bare]
  exact ha x (Array.mem_of_getElem? e1)
 ·rw [←h.off i j] at e'
  exact ha y (Array.mem_of_getElem? e')
def OffG(J:Nat→Prop)(b:Array GenState)(s':Shared)(Q:Shared→Prop):Prop:=∃a',SimG J a' s'.gens∧WfG J a'∧(∀i,J i→s'.gens[i]? =b[i]?)∧Q { s' with gens:=a' }
theorem OffG.next{J:Nat→Prop}{b b':Array GenState}{s':Shared}{Q:Shared→Prop}(h:OffG J b' s' Q)(k:∀i,J i→b'[i]? =b[i]?):OffG J b s' Q:=by
 obtain ⟨a',h1,h2,h3,h4⟩:=h
 exact ⟨a',h1,h2,fun i j=>(h3 i j).trans (k i j),h4⟩
theorem qF{M:Model}{J:Nat→Prop}{Γ:PySem.Ctx}{p:Pos}{s s':Shared}{r:Result}(h:Returns M Γ p s r s')(hw:WfG J s.gens){b:Array GenState}(hb:SimG J s.gens b):
  WfG J s'.gens∧∃b',SimG J s'.gens b'∧(∀i,J i→b'[i]? =b[i]?)∧Returns M Γ p { s with gens:=b } r { s' with gens:=b' }:=
 (mu h rfl hw b hb).2
theorem vq{M:Model}{J:Nat→Prop}{Γ:PySem.Ctx}{p:Pos}{g:Nat}{r:Resume}{s s':Shared}{res:GenResult}(h:Wakes M Γ p g r s res s')(hw:WfG J s.gens){b:Array GenState}(hb:SimG J s.gens b):
  WfG J s'.gens∧∃b',SimG J s'.gens b'∧(∀i,J i→b'[i]? =b[i]?)∧Wakes M Γ p g r { s with gens:=b } res { s' with gens:=b' }:=by
 unfold Wakes at h ⊢
 split at h
 ·exact h.elim
 ·rename_i c hg
  have nj:=hb.noj hg fun _ _ _ _ _ z=>nomatch z
  have hg':b[g]? =some (.fresh c):=by rw [←hb.off g nj]; exact hg
  split at h
  ·obtain ⟨e₁,s₁,hr,hq,rfl,rfl⟩:=h
   obtain ⟨h0,h1,b1,h2,h3,h4⟩:=mu hr rfl (hw.set fun _ _ _ _ _ _ z=>nomatch z) _ (hb.set nj .running)
   refine ⟨h1.set h0.gs,_,h2.set nj e₁.genState,fun i j=>(SimG.keepJ nj j _).trans ((h3 i j).trans (SimG.keepJ nj j _)),?_⟩
   simp only [hg']
   exact ⟨e₁,_,h4,hq,rfl,rfl⟩
  ·obtain ⟨rfl,rfl⟩:=h
   refine ⟨hw,b,hb,fun _ _=>rfl,?_⟩
   simp only [hg']
   first | exact ⟨trivial,trivial⟩ | exact ⟨trivial,rfl⟩ | exact ⟨rfl,rfl⟩ | trivial | skip
  ·obtain ⟨rfl,rfl⟩:=h
   refine ⟨hw.set (fun _ _ _ _ _ _ z=>nomatch z),_,hb.set nj .finished,fun i j=>SimG.keepJ nj j _,?_⟩
   simp only [hg']
   trivial
 ·rename_i k₀ l c₀ p₀ fs cl hg
  obtain ⟨e₁,s₁,hr,hq,rfl,rfl⟩:=h
  have nj:=hb.noj hg fun _ _ _ _ _ z=>by
   cases z
   exact mt hr
  have hg':b[g]? =some (.suspended k₀ l c₀ p₀ fs cl):=by rw [←hb.off g nj]; exact hg
  obtain ⟨h0,h1,b1,h2,h3,h4⟩:=mu hr (hw _ _ _ _ _ _ _ nj hg) (hw.set fun _ _ _ _ _ _ z=>nomatch z) _ (hb.set nj .running)
  refine ⟨h1.set h0.gs,_,h2.set nj e₁.genState,fun i j=>(SimG.keepJ nj j _).trans ((h3 i j).trans (SimG.keepJ nj j _)),?_⟩
  simp only [hg']
  exact ⟨e₁,_,h4,hq,rfl,rfl⟩
 ·rename_i hg
  have nj:=hb.noj hg fun _ _ _ _ _ z=>nomatch z
  obtain ⟨rfl,rfl⟩:=h
  refine ⟨hw,b,hb,fun _ _=>rfl,?_⟩
  simp only [show b[g]? =some .running by rw [←hb.off g nj]; exact hg]
  first | exact ⟨trivial,trivial⟩ | exact ⟨trivial,rfl⟩ | exact ⟨rfl,rfl⟩ | trivial | skip
 ·rename_i hg
  have nj:=hb.noj hg fun _ _ _ _ _ z=>nomatch z
  obtain ⟨rfl,rfl⟩:=h
  refine ⟨hw,b,hb,fun _ _=>rfl,?_⟩
  simp only [show b[g]? =some .finished by rw [←hb.off g nj]; exact hg]
  first | exact ⟨trivial,trivial⟩ | exact ⟨trivial,rfl⟩ | exact ⟨rfl,rfl⟩ | trivial | skip
theorem Bw{α:Type}{M:Model}{J:Nat→Prop}{Γ:PySem.Ctx}(t:Sem α):∀(Q:α→Pos→Shared→Prop) (E:Value→Pos→Shared→Prop) (p:Pos) (s:Shared) (b:Array GenState),SimG J s.gens b→WfG J s.gens→Sem.wp M Γ t Q E p s→
  Sem.wp M Γ t (fun a p' s'=>OffG J b s' (Q a p')) (fun e p' s'=>OffG J b s' (E e p')) p { s with gens:=b }:=by
 have mono:∀{β:Type} {t:Sem β} {Q Q':β→Pos→Shared→Prop} {E E':Value→Pos→Shared→Prop} {p:Pos} {s:Shared},(∀a p s,Q a p s→Q' a p s)→(∀a p s,E a p s→E' a p s)→Sem.wp M Γ t Q E p s→Sem.wp M Γ t Q' E' p s:=fun h1 h2 h=>Sem.wp_mono _ _ _ h1 h2 _ _ h
 induction t with
 | pure a=>intro Q E p s b hb hw h; exact ⟨s.gens,hb,hw,fun _ _=>rfl,h⟩
 | raise e=>intro Q E p s b hb hw h; exact ⟨s.gens,hb,hw,fun _ _=>rfl,h⟩
 | unsupported _=>intro Q E p s b hb hw h; exact h
 | finish _=>intro Q E p s b hb hw h; exact h
 | rule _ k ih=>intro Q E p s b hb hw h; exact ih () Q E p s b hb hw h
 | «at» p' k ih=>intro Q E p s b hb hw h; exact ih () Q E p' s b hb hw h
 | load a _ k ih=>intro Q E p s b hb hw h; obtain ⟨o,ho,h⟩:=h; exact ⟨o,ho,ih o Q E p s b hb hw h⟩
 | update a _ f k ih=>intro Q E p s b hb hw h; exact ⟨h.1,ih () Q E p { s with heap:=s.heap.update a f } b hb hw h.2⟩
 | loadIfAlive a k ih=>intro Q E p s b hb hw h; exact ih _ Q E p s b hb hw h
 | point _ k ih=>intro Q E p s b hb hw h; exact ih () Q E p s b hb hw h
 | register _ _=>intro Q E p s b hb hw h; exact h
 | alloc o k ih=>intro Q E p s b hb hw h; exact ih _ Q E p { s with heap:=s.heap.push o } b hb hw h
 | fresh k ih=>intro Q E p s b hb hw h; exact ih _ Q E p { s with toks:=s.toks+1 } b hb hw h
 | ask k ih=>intro Q E p s b hb hw h; exact ih _ Q E p s b hb hw h
 | choose src m k ih=>intro Q E p s b hb hw h; exact ⟨h.1,ih _ Q E p { s with drawn:=s.drawn.bump src } b hb hw h.2⟩
 | os q _ k ih=>intro Q E p s b hb hw h; exact ih _ Q E p { s with os:=(Os.step s.os q).1 } b hb hw h
 | call c hd _ _ k ih=>
  intro Q E p s b hb hw h
  obtain ⟨r,s',hr,h⟩:=h
  obtain ⟨h1,b',h2,h3,h4⟩:=qF hr hw hb
  exact ⟨r,_,h4,mono (fun a p s z=>z.next h3) (fun a p s z=>z.next h3) (ih r Q E p s' b' h2 h1 h)⟩
 | handled own k ih=>intro Q E p s b hb hw h; exact ih _ Q E p s b hb hw h
 | genState g k ih=>
  intro Q E p s b hb hw h
  obtain ⟨st,hs,h⟩:=h
  obtain ⟨y,e,r⟩:=hb.seen hs
  rw [r] at h
  exact ⟨y,e,ih _ Q E p s b hb hw h⟩
 | newGen c k ih=>
  intro Q E p s b hb hw h
  have z:=ih _ Q E p { s with gens:=s.gens.push (.fresh c) } _ (hb.push (.fresh c)) (hw.push c) h
  have z2:=mono (Q':=fun a p' s'=>OffG J b s' (Q a p')) (E':=fun a p' s'=>OffG J b s' (E a p')) (fun a p s z=>z.next fun i j=>by
   have l:i<b.size:=by rw [←hb.sz]; exact hb.lt j
   rw [Array.getElem?_push_lt l,←Array.getElem?_eq_getElem l]) (fun a p s z=>z.next fun i j=>by
   have l:i<b.size:=by rw [←hb.sz]; exact hb.lt j
   rw [Array.getElem?_push_lt l,←Array.getElem?_eq_getElem l]) z
  show Sem.wp M Γ (k b.size) _ _ _ _
  rw [←hb.sz]
  exact z2
 | resume g r _ k ih=>
  intro Q E p s b hb hw h
  obtain ⟨res,s',hr,h⟩:=h
  obtain ⟨h1,b',h2,h3,h4⟩:=vq hr hw hb
  exact ⟨res,_,h4,mono (fun a p s z=>z.next h3) (fun a p s z=>z.next h3) (ih res Q E p s' b' h2 h1 h)⟩
 | yield _ _ _ _=>intro Q E p s b hb hw h; exact h
 | stack k ih=>intro Q E p s b hb hw h; exact ih _ Q E p s b hb hw h
 | fork _ _=>intro Q E p s b hb hw h; exact h
 | thread k ih=>intro Q E p s b hb hw h; exact ih _ Q E p s b hb hw h
 | await _ _ _ _ _=>intro Q E p s b hb hw h; exact h
def gv:GenState→Prop
 | .suspended .. =>True
 | _=>False
def psn:GenState→GenState
 | .suspended _ l c p fs cl=>.suspended (fun _=>.unsupported "") l c p fs cl
 | x=>x
def asleep(s:Shared):Shared:={ s with gens:=s.gens.map psn }
structure Slp (s s0 s':Shared):Prop where
 eq:s'={ s0 with gens:=s'.gens }
 bare:AllBare s0.gens→AllBare s'.gens
 slp:∀(i:Nat) (x:GenState),s.gens[i]? =some x→gv x→s'.gens[i]? =some x
 sim:SimG (fun i=>∃x,s.gens[i]? =some x∧gv x) s0.gens s'.gens
 wf:WfG (fun i=>∃x,s.gens[i]? =some x∧gv x) s0.gens
theorem bu{s:Shared}(h:AllBare s.gens):AllBare (asleep s).gens:=fun y hy=>by
 obtain ⟨x,hx,rfl⟩:=Array.mem_map.mp hy
 have q:=h x hx
 cases x <;> exact q
structure Fz (s s':Shared):Prop where
 hp:s.heap.objs.size≤s'.heap.objs.size
 gn:s.gens.size≤s'.gens.size
 gone:∀b,b<s.heap.objs.size→s.heap.get? b=none→s'.heap.get? b=none
 bare:AllBare s.gens→AllBare s'.gens
 life:s'.heap.life=s.heap.life
theorem Fz.refl(s:Shared):Fz s s:=⟨Nat.le_refl _,Nat.le_refl _,fun _ _ h=>h,id,rfl⟩
theorem Fz.trans{a b c:Shared}(h:Fz a b)(k:Fz b c):Fz a c:=⟨Nat.le_trans h.hp k.hp,Nat.le_trans h.gn k.gn,fun x l e=>k.gone x (Nat.lt_of_lt_of_le l h.hp) (h.gone x l e),fun x=>k.bare (h.bare x),k.life.trans h.life⟩
theorem Fz.upd{s:Shared}{a:Addr}{f:Obj→Obj}(h:(s.heap.get? a).isSome):Fz s { s with heap:=s.heap.update a f }:=by
 refine ⟨by simp [Heap.update,Array.size_modify],Nat.le_refl _,fun b _ e=>?_,id,rfl⟩
 have ne:a≠b:=fun z=>by rw [z,e] at h; cases h
 show (s.heap.update a f).get? b=none
 rw [Heap.get?_update_other _ _ ne]
 exact e
theorem Fz.push{s:Shared}{o:Obj}:Fz s { s with heap:=s.heap.push o }:=by
 refine ⟨by show _≤(s.heap.push o).objs.size; rw [Heap.size_push]; exact Nat.le_succ _,Nat.le_refl _,fun b l e=>?_,id,rfl⟩
 cases q:(s.heap.push o).get? b with
 | none=>rfl
 | some u=>
  rcases Heap.get?_push_cases q with ⟨z,_⟩ | z
  ·exact absurd l (by rw [z]; exact Nat.lt_irrefl _)
  ·rw [e] at z
   cases z
theorem Fz.of{s s':Shared}(h:s'.heap=s.heap)(g:s.gens.size≤s'.gens.size)(hb:AllBare s.gens→AllBare s'.gens):Fz s s':=⟨by rw [h]; exact Nat.le_refl _,g,fun b _ e=>by rw [h]; exact e,hb,by rw [h]⟩
theorem Fz.set{s:Shared}{g:Nat}{x:GenState}(hx:x.bare=true:=by rfl):Fz s (s.setGen g x):=⟨Nat.le_refl _,by simp [Shared.setGen],fun _ _ h=>h,fun h=>L2.allBare_setGen h hx,rfl⟩
theorem Fz.setR{s s':Shared}{g:Nat}{x:GenState}(h:Fz (s.setGen g x) s')(hx:x.bare=true:=by rfl):Fz s s':=(Fz.set hx).trans h
theorem o9{M:Model}{Γ:PySem.Ctx}{p:Pos}{t:Sem PySem.Fin}{fs:List Frame}{s:Shared}{e:End}{s':Shared}(h:Runs M Γ p t fs s e s'):Fz s s':=by
 induction h with
 | update ho _ ih=>exact (Fz.upd ho).trans ih
 | alloc _ ih=>exact Fz.push.trans ih
 | newGen _ ih=>refine Fz.trans ?_ ih; exact Fz.of rfl (by simp) fun h=>AllBare.push h rfl
 | fresh _ ih=>refine Fz.trans ?_ ih; exact Fz.of rfl (Nat.le_refl _) id
 | choose _ _ ih=>refine Fz.trans ?_ ih; exact Fz.of rfl (Nat.le_refl _) id
 | os _ ih=>refine Fz.trans ?_ ih; exact Fz.of rfl (Nat.le_refl _) id
 | call _ _ ih1 ih2=>exact ih1.trans ih2
 | resumeFresh _ _ hq _ ih1 ih2=>exact ih1.setR.trans (ih2.setR (End.bare_of_quiet hq))
 | resumeSuspended _ _ hq _ ih1 ih2=>exact ih1.setR.trans (ih2.setR (End.bare_of_quiet hq))
 | resumeThrowFresh _ _ ih=>exact ih.setR
 | segRet _ _ ih1 ih2=>exact ih1.trans ih2
 | segGen _ _ ih1 ih2=>exact ih1.trans ih2.setR
 | segSuspGen _ _ hq _ ih1 ih2=>exact ih1.trans (ih2.setR hq)
 | done=>exact .refl _
 | raise=>exact .refl _
 | yield=>exact .refl _
 | again _ _ ih=>exact ih
 | rule _ ih=>exact ih
 | «at» _ ih=>exact ih
 | load _ _ ih=>exact ih
 | loadIfAlive _ ih=>exact ih
 | point _ ih=>exact ih
 | ask _ ih=>exact ih
 | handled _ ih=>exact ih
 | genState _ _ ih=>exact ih
 | stack _ ih=>exact ih
 | thread _ ih=>exact ih
 | callSusp _ ih=>exact ih
 | resumeJustStarted _ _ _ ih=>exact ih
 | resumeRunning _ _ ih=>exact ih
 | resumeFinished _ _ ih=>exact ih
 | segSuspOut _ _ ih=>exact ih
theorem w8{M:Model}{Γ:PySem.Ctx}{p:Pos}{g:Nat}{r:Resume}{s s':Shared}{res:GenResult}(h:Wakes M Γ p g r s res s'):Fz s s':=by
 unfold Wakes at h
 split at h
 ·exact h.elim
 ·split at h
  ·obtain ⟨e₁,s₁,hr,hq,_,rfl⟩:=h
   exact (o9 hr).setR.trans (.set (End.bare_of_quiet hq))
  ·rw [h.2]; exact .refl _
  ·rw [h.2]; exact .set
 ·obtain ⟨e₁,s₁,hr,hq,_,rfl⟩:=h
  exact (o9 hr).setR.trans (.set (End.bare_of_quiet hq))
 ·rw [h.2]; exact .refl _
 ·rw [h.2]; exact .refl _
theorem CL{α:Type}{M:Model}{Γ:PySem.Ctx}(s0:Shared)(t:Sem α):∀(Q:α→Pos→Shared→Prop) (E:Value→Pos→Shared→Prop) (p:Pos) (s:Shared),Fz s0 s→Sem.wp M Γ t Q E p s→
  Sem.wp M Γ t (fun a p' s'=>Fz s0 s'∧Q a p' s') (fun e p' s'=>Fz s0 s'∧E e p' s') p s:=by
 induction t with
 | pure a=>intro Q E p s hn h; exact ⟨hn,h⟩
 | raise e=>intro Q E p s hn h; exact ⟨hn,h⟩
 | unsupported _=>intro Q E p s _ h; exact h
 | finish _=>intro Q E p s _ h; exact h
 | rule _ k ih=>intro Q E p s hn h; exact ih () Q E p s hn h
 | «at» p' k ih=>intro Q E p s hn h; exact ih () Q E p' s hn h
 | load a _ k ih=>intro Q E p s hn h; obtain ⟨o,ho,h⟩:=h; exact ⟨o,ho,ih o Q E p s hn h⟩
 | update a _ f k ih=>intro Q E p s hn h; exact ⟨h.1,ih () Q E p _ (hn.trans (Fz.upd h.1)) h.2⟩
 | loadIfAlive a k ih=>intro Q E p s hn h; exact ih _ Q E p s hn h
 | point _ k ih=>intro Q E p s hn h; exact ih () Q E p s hn h
 | register _ _=>intro Q E p s _ h; exact h
 | alloc o k ih=>intro Q E p s hn h; exact ih _ Q E p _ (hn.trans Fz.push) h
 | fresh k ih=>intro Q E p s hn h; exact ih _ Q E p _ (hn.trans ⟨Nat.le_refl _,Nat.le_refl _,fun _ _ h=>h,id,rfl⟩) h
 | ask k ih=>intro Q E p s hn h; exact ih _ Q E p s hn h
 | choose src m k ih=>intro Q E p s hn h; exact ⟨h.1,ih _ Q E p _ (hn.trans ⟨Nat.le_refl _,Nat.le_refl _,fun _ _ h=>h,id,rfl⟩) h.2⟩
 | os q _ k ih=>intro Q E p s hn h; exact ih _ Q E p _ (hn.trans ⟨Nat.le_refl _,Nat.le_refl _,fun _ _ h=>h,id,rfl⟩) h
 | call c hd _ _ k ih=>intro Q E p s hn h; obtain ⟨r,s',hr,h⟩:=h; exact ⟨r,s',hr,ih r Q E p s' (hn.trans (o9 hr)) h⟩
 | handled own k ih=>intro Q E p s hn h; exact ih _ Q E p s hn h
 | genState g k ih=>intro Q E p s hn h; obtain ⟨st,hs,h⟩:=h; exact ⟨st,hs,ih _ Q E p s hn h⟩
 | newGen c k ih=>intro Q E p s hn h; exact ih _ Q E p _ (hn.trans ⟨Nat.le_refl _,by simp,fun _ _ h=>h,fun h=>AllBare.push h rfl,rfl⟩) h
 | resume g r _ k ih=>intro Q E p s hn h; obtain ⟨res,s',hw,h⟩:=h; exact ⟨res,s',hw,ih res Q E p s' (hn.trans (w8 hw)) h⟩
 | yield _ _ _ _=>intro Q E p s _ h; exact h
 | stack k ih=>intro Q E p s hn h; exact ih _ Q E p s hn h
 | fork _ _=>intro Q E p s _ h; exact h
 | thread k ih=>intro Q E p s hn h; exact ih _ Q E p s hn h
 | await _ _ _ _ _=>intro Q E p s _ h; exact h
theorem mw{α:Type}{M:Model}{A:Around}{s0 s:Shared}{t:Sem α}{Q:α→Shared→Prop}{E:Value→Shared→Prop}(hn:Fz s0 s)(h:wpAny M A t (fun a s'=>Fz s0 s'→Q a s') (fun e s'=>Fz s0 s'→E e s') s):wpAny M A t Q E s:=
 wpAny_mono (fun Γ p hΓ=>CL s0 t _ _ p s hn (h Γ p hΓ):wpAny M A t (fun a s'=>Fz s0 s'∧(Fz s0 s'→Q a s')) (fun e s'=>Fz s0 s'∧(Fz s0 s'→E e s')) s) (fun _ _ x=>x.2 x.1) fun _ _ x=>x.2 x.1
abbrev tW(s:Shared):Nat→Prop:=fun i=>∃x,s.gens[i]? =some x∧gv x
structure Sj (J:Nat→Prop) (s0 s':Shared):Prop where
 eq:s'={ s0 with gens:=s'.gens }
 sim:SimG J (au s0).gens s'.gens
 wf:WfG J (au s0).gens
theorem w9{x:GenState}(h:x.bare=true):(erG x).bare=true:=by
 cases x with
 | suspended k l c p fs cl=>
  cases cl with
  | true=>cases h
  | false=>rfl
 | _=>rfl
theorem vr{s:Shared}(h:AllBare s.gens):AllBare (au s).gens:=fun y hy=>by
 obtain ⟨x,hx,rfl⟩:=Array.mem_map.mp hy
 exact w9 (h x hx)
theorem Sj.bare{J:Nat→Prop}{s0 s':Shared}(j:Sj J s0 s')(h:AllBare s0.gens):AllBare s'.gens:=j.sim.bare (vr h)
theorem Sj.loud{J:Nat→Prop}{s0 s':Shared}(j:Sj J s0 s')(q:AllBare s0.gens){i:Nat}{k:Resume→Sem PySem.Fin}{l:List Value}{c:Code}{p:Pos}{fs:List Frame}{cl:Bool}
  (e:s'.gens[i]? =some (.suspended k (.ellipsis::l) c p fs cl)) (hy:(eB c).isSome=true):J i:=by
 rcases Classical.em (J i) with h | h
 ·exact h
 ·have e5:=j.sim.off i h
  rw [e] at e5
  simp only [au,Array.getElem?_map] at e5
  cases r:s0.gens[i]? with
  | none=>rw [r] at e5; cases e5
  | some x=>
   rw [r] at e5
   have hx:=q x (Array.mem_of_getElem? r)
   cases x with
   | suspended k2 l2 c2 p2 fs2 cl2=>
    cases cl2 with
    | true=>cases hx
    | false=>
     simp only [Option.map_some,erG,Bool.false_and,Option.some.injEq,GenState.suspended.injEq] at e5
     obtain ⟨_,e6,e7,_⟩:=e5
     subst e7
     unfold erL at e6
     cases y:eB c2 with
     | none=>rw [y] at hy; cases hy
     | some a=>
      rw [y] at e6
      exact absurd (List.cons.inj e6).1 (by simp)
   | fresh c2=>simp [erG] at e5
   | running=>simp [erG] at e5
   | finished=>simp [erG] at e5
theorem xa{α:Type}{P:Program}{w:World}{A:Around}{t:Sem α}{Q:α→Shared→Prop}{E:Value→Shared→Prop}{J:Nat→Prop}{s0 s':Shared}(j:Sj J s0 s')(h:wpAny (model P w) A t Q E s0):
  wpAny (M0 P w) A t (fun a s2=>∃s1,Q a s1∧Sj J s1 s2∧∀i,J i→s2.gens[i]? =s'.gens[i]?) (fun e s2=>∃s1,E e s1∧Sj J s1 s2∧∀i,J i→s2.gens[i]? =s'.gens[i]?) s':=by
 intro Γ p hΓ
 have z0:wpAny (M0 P w) A t (Beh Q) (Beh E) (au s0):=w6 h
 have z:=Bw t _ _ p (au s0) s'.gens j.sim j.wf (z0 Γ p hΓ)
 rw [show ({ au s0 with gens:=s'.gens }:Shared)=s' from j.eq.symm] at z
 have fin:∀{s2:Shared} {Z:Shared→Prop},OffG J s'.gens s2 (fun s1=>∃s0,s1=au s0∧Z s0)→∃s1,Z s1∧Sj J s1 s2∧∀i,J i→s2.gens[i]? =s'.gens[i]? :=fun {s2 Z} ⟨a',h1,h2,h3,s1,e0,h4⟩=>by
  have eg:a'=(au s1).gens:=congrArg Shared.gens e0
  subst eg
  refine ⟨s1,h4,⟨?_,h1,h2⟩,h3⟩
  have e1:s2.heap=s1.heap:=(congrArg Shared.heap e0:({ s2 with gens:=(au s1).gens }:Shared).heap=(au s1).heap)
  have e2:s2.drawn=s1.drawn:=(congrArg Shared.drawn e0:({ s2 with gens:=(au s1).gens }:Shared).drawn=(au s1).drawn)
  have e3:s2.toks=s1.toks:=(congrArg Shared.toks e0:({ s2 with gens:=(au s1).gens }:Shared).toks=(au s1).toks)
  have e4:s2.os=s1.os:=(congrArg Shared.os e0:({ s2 with gens:=(au s1).gens }:Shared).os=(au s1).os)
  obtain ⟨h,g,d,t,o⟩:=s2
  have e1:h=s1.heap:=e1
  have e2:d=s1.drawn:=e2
  have e3:t=s1.toks:=e3
  have e4:o=s1.os:=e4
  subst e1 e2 e3 e4
  rfl
 exact Sem.wp_mono _ _ _ (fun a p s' q=>fin q) (fun a p s' q=>fin q) _ _ z
theorem Sj.of{s:Shared}(hb:AllBare s.gens):Sj (tW s) (asleep s) s:=by
 refine ⟨rfl,⟨by simp [asleep,au],fun i ⟨x,e,hx⟩=>?_,fun i j=>?_⟩,fun i k l c p fs cl j e=>?_⟩
 ·cases x with
  | suspended k l c p fs cl=>
   have hc:cl=false:=by
    have q:=hb _ (Array.mem_of_getElem? e)
    cases cl with
    | false=>rfl
    | true=>cases q
   subst hc
   exact ⟨erG (psn (.suspended k l c p fs false)),_,by simp [asleep,au,e],e,erL c false l,c,p,erS fs,false,k,l,fs,rfl,rfl,fK fs⟩
  | _=>exact hx.elim
 ·simp only [asleep,au,Array.getElem?_map]
  cases e:s.gens[i]? with
  | none=>rfl
  | some x=>
   cases x with
   | suspended k l c p fs cl=>exact absurd ⟨_,e,trivial⟩ j
   | _=>rfl
 ·simp only [asleep,au,Array.getElem?_map] at e
  cases q:s.gens[i]? with
  | none=>rw [q] at e; cases e
  | some x=>
   rw [q] at e
   cases x with
   | suspended k l c p fs cl=>exact absurd ⟨_,q,trivial⟩ j
   | _=>cases e
theorem my{α:Type}{M:Model}{A:Around}{t:Sem α}{Q:α→Shared→Prop}{E:Value→Shared→Prop}{s:Shared}(hb:AllBare s.gens)(h:wpAny M A t Q E s):wpAny M A t (fun a s'=>Q a s'∧AllBare s'.gens) (fun e s'=>E e s'∧AllBare s'.gens) s:=
 mw (Fz.refl s) (wpAny_mono h (fun _ _ q fz=>⟨q,fz.bare hb⟩) fun _ _ q fz=>⟨q,fz.bare hb⟩)
structure Slq (s s0 s':Shared):Prop where
 j:Sj (tW s) s0 s'
 kept:∀i,tW s i→s'.gens[i]? =s.gens[i]?
 b0:AllBare s0.gens
theorem Slq.eq{s s0 s':Shared}(q:Slq s s0 s'):s'={ s0 with gens:=s'.gens }:=q.j.eq
theorem Slq.bare{s s0 s':Shared}(q:Slq s s0 s')(_:AllBare s0.gens):AllBare s'.gens:=q.j.bare q.b0
theorem Slq.slp{s s0 s':Shared}(q:Slq s s0 s'){i:Nat}{x:GenState}(e:s.gens[i]? =some x)(h:gv x):s'.gens[i]? =some x:=(q.kept i ⟨x,e,h⟩).trans e
theorem a4{α:Type}{P:Program}{w:World}{A:Around}{t:Sem α}{Q:α→Shared→Prop}{E:Value→Shared→Prop}{s:Shared}(hb:AllBare s.gens)(h:wpAny (model P w) A t Q E (asleep s)):
  wpAny (M0 P w) A t (fun a s'=>∃s0,Q a s0∧Slq s s0 s') (fun e s'=>∃s0,E e s0∧Slq s s0 s') s:=
 wpAny_mono (xa (Sj.of hb) (my (bu hb) h)) (fun _ _ ⟨s0,⟨q,b⟩,j,k⟩=>⟨s0,q,j,k,b⟩) fun _ _ ⟨s0,⟨q,b⟩,j,k⟩=>⟨s0,q,j,k,b⟩
theorem aU{α:Type}{P:Program}{w:World}{A:Around}{t:Sem α}{Q:α→Shared→Prop}{E:Value→Shared→Prop}{s s0 s':Shared}(q:Slq s s0 s')(h:wpAny (model P w) A t Q E s0):
  wpAny (M0 P w) A t (fun a s2=>∃s1,Q a s1∧Slq s s1 s2) (fun e s2=>∃s1,E e s1∧Slq s s1 s2) s':=
 wpAny_mono (xa q.j (my q.b0 h)) (fun _ _ ⟨s1,⟨z,b⟩,j,k⟩=>⟨s1,z,j,fun i hi=>(k i hi).trans (q.kept i hi),b⟩) fun _ _ ⟨s1,⟨z,b⟩,j,k⟩=>⟨s1,z,j,fun i hi=>(k i hi).trans (q.kept i hi),b⟩
def SegX(M:Model)(A:Around)(Φ:End→Shared→Prop)(c:Code)(t:Sem PySem.Fin)(fs:List Frame)(s:Shared):Prop:=∀(Γ:PySem.Ctx) (p:Pos),Γ.code=c→Γ.Woken A→∃e s',Runs M Γ p t fs s e s'∧Φ e s'
section
variable {M:Model} {A:Around} {Φ:End→Shared→Prop} {c:Code} {fs:List Frame} {s:Shared}
theorem SegX.mono{Φ':End→Shared→Prop}{t:Sem PySem.Fin}(h:SegX M A Φ c t fs s)(k:∀e s',Φ e s'→Φ' e s'):SegX M A Φ' c t fs s:=fun Γ p hc hΓ=>
 let ⟨e,s',hr,he⟩:=h Γ p hc hΓ
 ⟨e,s',hr,k e s' he⟩
variable {env:Env} {K:Flow→Sem PySem.Fin} {H:Value→Sem PySem.Fin} {gd:Bool→Bool} {lv:List Value→List Value}
end
section
variable {prog:Program} {w:World} {A:Around} {Φ:End→Shared→Prop} {fs:List Frame} {s:Shared} {env:Env}
theorem f6{c:Code}(h:eB c=none):(M0 prog w).den c=denote table c:=CJ h _
end
theorem sA{id:String}{args:Args}(h:id≠"proto.yield_from"):eB (.builtin id args)=none:=by
 unfold eB
 split
 ·rename_i id' a rest kw e
  injection e with e1 _
  rw [if_neg (by rw [←e1]; exact h)]
 ·rfl
section
variable {P:Program} {w:World} {A:Around} {E:Value→Shared→Prop} {s:Shared} {R:Result→Shared→Prop}
theorem nD{id:String}{args:Args}{b:Builtin}(hn:id≠"proto.yield_from")(hb:entryFor table id=some b)
  (h:wpAny (M0 P w) (A.under (.builtin id args)) (b args) (fun fin s'=>match fin with | .done f=>R (.ok f) s' | .again c'=>c'.quiet=true∧codeAny (M0 P w) A c' R s') (fun e s'=>R (.error e) s') s):codeAny (M0 P w) A (.builtin id args) R s:=by
 refine codeAny_of_tree ?_
 rw [f6 (sA hn)]
 show wpAny _ _ (match entryFor table id with | some b=>b args | none=>unsupported ((withoutEnding? id "#data").getD id)) _ _ s
 rw [hb]
 exact h
end
def trH(n:Nat)(h:Heap):Heap:=⟨h.objs.extract 0 n,h.life⟩
theorem qG(n:Nat)(h:Heap):(trH n h).objs.size=min n h.objs.size:=by simp [trH]
theorem jG{n:Nat}{h:Heap}{b:Addr}{o:Obj}:(trH n h).get? b=some o↔b<n∧h.get? b=some o:=by
 rw [Heap.get?_some_iff,Heap.get?_some_iff]
 show (h.objs.extract 0 n)[b]? =some o∧_↔_
 constructor
 ·rintro ⟨e,f⟩
  rw [Array.getElem?_extract] at e
  split at e
  ·rename_i l
   have l':(b:Nat)<min n h.objs.size - 0:=l
   exact ⟨Nat.lt_of_lt_of_le l' (Nat.le_trans (Nat.sub_le _ _) (Nat.min_le_left _ _)),by simpa using e,f⟩
  ·cases e
 ·rintro ⟨l,e,f⟩
  refine ⟨?_,f⟩
  rw [Array.getElem?_extract]
  have l2:=(Array.getElem?_eq_some_iff.mp e).1
  have l1:(b:Nat)<n:=l
  have l3:(b:Nat)<h.objs.size:=l2
  rw [if_pos (Nat.lt_of_lt_of_eq (Nat.lt_min.mpr ⟨l1,l3⟩) (Nat.sub_zero _).symm)]
  simpa using e
structure Gst where
 P:Program
 w:World
 K:Frag
 mg:Str→Option Value
 base:Heap
 A:Around
 N:List Str
 qual:Str
 scope:Scope
 f:Addr
 cd:Value
 outer:List Env
 n0:Nat
 E:XK
 pn:List (Addr×Obj)
 a:Addr
 g:Nat
 oe:Option Er
abbrev Gst.env(G:Gst):Env:=envOfC G.qual G.scope G.n0 G.f G.cd
def Gx(G:Gst)(s:Shared)(Z:Hp):Cx where
 prog:=G.P
 w:=G.w
 K:=G.K
 mg:=G.mg
 base:=G.base
 A:=G.A.deeper (envOfC G.qual G.scope G.n0 G.f G.cd)
 N:=G.N
 s_0:={ s with heap:=trH G.n0 s.heap }
 H_0:=Z
 env:=envOfC G.qual G.scope G.n0 G.f G.cd
 outer:=G.outer
 stack:=envOfC G.qual G.scope G.n0 G.f G.cd::G.outer
 ex:=[]
 fn:=fun _=>true
 calm:=true
 pn:=G.pn
 xe:=fun e s'=>wpAny (model G.P G.w) (G.A.deeper (envOfC G.qual G.scope G.n0 G.f G.cd)) (leaving (envOfC G.qual G.scope G.n0 G.f G.cd) e)
  (fun _ s''=>L2N.CX G.P G.w G.outer Z { s with heap:=trH G.n0 s.heap } G.E e s''∧∀p∈G.pn,s''.heap.get? p.1=some p.2) (fun _ _=>False) s'
abbrev Ow:=Addr→Prop
open Classical in
noncomputable def Zt(n0:Nat)(T:Hp)(O:Ow)(h:Heap):Hp:=fun b=>match T b with
 | some o=>some o
 | none=>if n0≤b∧¬O b then (h.get? b).map (fun o=>.frz o (.ext fun h'=>h'.get? b=some o)) else none
theorem DL{n0:Nat}{T:Hp}{O:Ow}{h:Heap}{b:Addr}{o:HO}(e:T b=some o):Zt n0 T O h b=some o:=by
 unfold Zt
 rw [e]
theorem mz{n0:Nat}{T:Hp}{O:Ow}{h:Heap}{b:Addr}{o:Obj}(e:T b=none)(l:n0≤b)(no:¬O b)(eh:h.get? b=some o):Zt n0 T O h b=some (.frz o (.ext fun h'=>h'.get? b=some o)):=by
 unfold Zt
 rw [e,eh]
 dsimp only
 rw [if_pos ⟨l,no⟩]
 rfl
theorem pd{n0:Nat}{T:Hp}{O:Ow}{h:Heap}{b:Addr}(e:T b=none)(l:b<n0∨O b∨h.get? b=none):Zt n0 T O h b=none:=by
 unfold Zt
 rw [e]
 dsimp only
 by_cases c:n0≤b∧¬O b
 ·rw [if_pos c]
  rcases l with l | l | l
  ·exact absurd l (Nat.not_lt_of_le c.1)
  ·exact absurd l c.2
  ·rw [l]; rfl
 ·rw [if_neg c]
def LTo(o:HO):Prop:=(∃xs,o=.tup xs)∨∃xs,o=.lst xs
theorem mB{P:Program}{w:World}{H H':Hp}{h:Heap}{a:Addr}{o:HO}(l:LTo o)(x:ObjOk P w H h a o):ObjOk P w H' h a o:=by
 rcases l with ⟨xs,rfl⟩ | ⟨xs,rfl⟩ <;> exact x
theorem qH{P:Program}{w:World}{H:Hp}{h:Heap}{a:Addr}{o:HO}(l:LTo o)(x:ObjOk P w H h a o):∃ob,h.get? a=some ob∧∀v,ob.data≠ .cell v:=by
 rcases l with ⟨xs,rfl⟩ | ⟨xs,rfl⟩
 ·obtain ⟨_,its,_,ob,e,_,n,hd⟩:=x
  exact ⟨ob,e,fun v z=>by rw [hd] at z; cases z⟩
 ·obtain ⟨_,its,n,_,e⟩:=x
  exact ⟨_,e,fun v z=>by cases z⟩
def Ob(h:Heap)(b:Addr):Prop:=∃o,h.get? b=some o∧∀v,o.data≠ .cell v
theorem Ob.lt{h:Heap}{b:Addr}(x:Ob h b):b<h.objs.size:=by
 obtain ⟨o,e,_⟩:=x
 exact Heap.lt_size e
def IsGn(h:Heap)(a:Addr)(g:Nat):Prop:=∃o nm qn,h.get? a=some o∧o.cls=.type "generator"∧o.data=.fields #[.int g 0,nm,qn]∧(o.slots= #[]∨o.slots= #[some (.int 0 0)])
theorem IsGn.of{h h':Heap}{a:Addr}{g:Nat}(x:IsGn h a g)(k:∀o,h.get? a=some o→h'.get? a=some o):IsGn h' a g:=let ⟨o,nm,qn,ho,r⟩:=x; ⟨o,nm,qn,k o ho,r⟩
theorem IsGn.there{h:Heap}{a:Addr}{g:Nat}(x:IsGn h a g):Ob h a:=by
 obtain ⟨o,nm,qn,ho,hc,hd,_⟩:=x
 exact ⟨o,ho,fun v z=>by rw [hd] at z; cases z⟩
def Bx(n0:Nat)(O:Ow)(sw s:Shared):Ow:=fun b=>n0≤b∧Ob s.heap b∧(O b∨sw.heap.objs.size≤b)
def LdAt(s:Shared)(i:Nat)(a:Addr):Prop:=∃(k:Resume→Sem PySem.Fin) (l:List Value) (c:Code) (p:Pos) (fs:List Frame) (cl:Bool),s.gens[i]? =some (.suspended k (.ellipsis::l) c p fs cl)∧eB c=some a
def LD(s:Shared)(a:Addr):Prop:=∃i,LdAt s i a
theorem LdAt.of{s s':Shared}{i:Nat}{a:Addr}(h:LdAt s i a)(e:s'.gens[i]? =s.gens[i]?):LdAt s' i a:=by
 obtain ⟨k,l,c,p,fs,cl,h1,h2⟩:=h
 exact ⟨k,l,c,p,fs,cl,by rw [e]; exact h1,h2⟩
theorem LdAt.set{s:Shared}{g i:Nat}{x:GenState}{a:Addr}(hx:∀k l c p fs cl,x≠ .suspended k l c p fs cl)(h:LdAt (s.setGen g x) i a):i≠g∧LdAt s i a:=by
 obtain ⟨k,l,c,p,fs,cl,h1,h2⟩:=h
 have ne:i≠g:=fun z=>by
  subst z
  have e:(s.gens.setIfInBounds i x)[i]? =_:=h1
  rw [Array.getElem?_setIfInBounds] at e
  split at e
  ·split at e
   ·exact hx _ _ _ _ _ _ (Option.some.inj e)
   ·cases e
  ·contradiction
 refine ⟨ne,k,l,c,p,fs,cl,?_,h2⟩
 have e:(s.gens.setIfInBounds g x)[i]? =_:=h1
 rw [Array.getElem?_setIfInBounds_ne (fun z=>ne z.symm)] at e
 exact e
theorem LD.set{s:Shared}{g:Nat}{x:GenState}{a:Addr}(hx:∀k l c p fs cl,x≠ .suspended k l c p fs cl)(h:LD (s.setGen g x) a):LD s a:=let ⟨i,h⟩:=h; ⟨i,(h.set hx).2⟩
theorem LD.run{s:Shared}{g:Nat}{a:Addr}(h:LD (s.setGen g .running) a):LD s a:=h.set fun _ _ _ _ _ _ z=>by cases z
theorem LD.fin{s:Shared}{g:Nat}{a:Addr}(h:LD (s.setGen g .finished) a):LD s a:=h.set fun _ _ _ _ _ _ z=>by cases z
theorem Slq.ldat{s s0 s':Shared}(sl:Slq s s0 s'){i:Nat}{a:Addr}(h:LdAt s' i a):s'.gens[i]? =s.gens[i]? :=by
 obtain ⟨k,l,c,p,fs,cl,h1,h2⟩:=h
 exact sl.kept i (sl.j.loud sl.b0 h1 (by rw [h2]; rfl))
theorem Slq.ld{s s0 s':Shared}(sl:Slq s s0 s'){a:Addr}(h:LD s' a):LD s a:=let ⟨i,h⟩:=h; ⟨i,h.of (sl.ldat h).symm⟩
structure Run (G:Gst) (O:Ow) (T:Hp) (sw:Shared) (pins:List (Addr×Obj)) (B:Hp) (en:En) (σ:L2.St) (H:Hp) (s:Shared):Prop where
 inv:Inv (Gx G sw (Zt G.n0 T O sw.heap)) pins σ H s
 rel:Rel G.K B [] en [] σ H
 fz:Fz sw s
 bt:∀b o,B b=some o→LTo o
 tb:∀b o,T b=some o→B b=some o
 pm:∀p∈G.pn++pins,G.n0≤p.1
 ol:O G.n0
 ob:∀b,O b→G.n0≤b∧Ob sw.heap b
 nc:∀x,G.env.cells.lookup x=none
 gw:G.g<sw.gens.size
 ga:IsGn sw.heap G.a G.g
 an:G.n0≤G.a∧¬O G.a∧T G.a=none
 lw:∀a,LD sw a→a<sw.heap.objs.size
section
variable {G:Gst} {O:Ow} {T:Hp} {sw s:Shared} {pins:List (Addr×Obj)} {B H:Hp} {en:En} {σ:L2.St}
theorem Run.le(R:Run G O T sw pins B en σ H s):Le B H:=R.rel.mem.le
theorem Run.tt(R:Run G O T sw pins B en σ H s){b:Addr}{o:HO}(e:T b=some o):LTo o:=R.bt b o (R.tb b o e)
theorem Run.mine(R:Run G O T sw pins B en σ H s){b:Addr}{o:Obj}(e:s.heap.get? b=some o)(hc:∀v,o.data≠ .cell v)(n:T b=none)(nf:∀o u,H b≠some (.frz o u))(l:G.n0≤b):Bx G.n0 O sw s b:=by
 refine ⟨l,⟨o,e,hc⟩,?_⟩
 by_cases c:sw.heap.objs.size≤b
 ·exact .inr c
 ·refine .inl (Classical.byContradiction fun no=>?_)
  have lt:b<sw.heap.objs.size:=Nat.lt_of_not_le c
  cases q:sw.heap.get? b with
  | none=>
   have z:=R.fz.gone b lt q
   rw [e] at z
   cases z
  | some o'=>exact nf _ _ (R.inv.base.frzs b _ _ (mz n l no q))
theorem Run.low(R:Run G O T sw pins B en σ H s){b:Addr}{o:Obj}(l:b<G.n0)(e:sw.heap.get? b=some o)(n:T b=none):H b=none:=
 R.inv.base.free b o (jG.mpr ⟨l,e⟩) (pd n (.inl l)) (fun z=>nomatch z)
theorem Run.n0w(R:Run G O T sw pins B en σ H s):G.n0<sw.heap.objs.size:=(R.ob _ R.ol).2.lt
theorem Run.nofz(R:Run G O T sw pins B en σ H s){b:Addr}{u:HO}(e:B b=some u):∀o v,H b≠some (.frz o v):=fun o v z=>by
 rw [R.le b u e] at z
 rcases R.bt b u e with ⟨xs,rfl⟩ | ⟨xs,rfl⟩ <;> cases z
theorem Run.frs_(R:Run G O T sw pins B en σ H s){b:Addr}(h:b∈frs G.outer):b<G.n0∧T b=none∧B b=none:=by
 obtain ⟨_,o,ho,_⟩:=R.inv.ok.funs.mem h
 have z:=jG.mp ho
 have n:Zt G.n0 T O sw.heap b=none:=R.inv.ok.frf b h
 have nT:T b=none:=by
  cases q:T b with
  | none=>rfl
  | some o=>rw [DL q] at n; cases n
 refine ⟨z.1,nT,?_⟩
 have hb:=R.low z.1 z.2 nT
 cases q:B b with
 | none=>rfl
 | some o=>rw [R.le b o q] at hb; cases hb
theorem Run.nB(R:Run G O T sw pins B en σ H s){b:Addr}(e:H b=none):B b=none:=by
 cases q:B b with
 | none=>rfl
 | some o=>rw [R.le b o q] at e; cases e
structure Rely (G:Gst) (O:Ow) (T:Hp) (s s':Shared):Prop where
 os:s'.os=s.os
 bare:AllBare s'.gens
 sz:s.heap.objs.size≤s'.heap.objs.size
 bs:∀b o,G.base.get? b=some o→s'.heap.get? b=some o
 funs:s'.heap.FunFrames G.base G.outer
 own:∀b o,O b→T b=none→s.heap.get? b=some o→s'.heap.get? b=some o
 hok:HOk G.P G.w T s'.heap
 gen:IsGn s'.heap G.a G.g
 slp:∀(i:Nat) (x:GenState),G.g≤i→s.gens[i]? =some x→(i=G.g∨gv x)→s'.gens[i]? =some x
 ld:∀i a,LdAt s' i a→O a→T a=none→s'.gens[i]? =s.gens[i]?
 lw:∀a,LD s' a→a<s'.heap.objs.size
theorem Rely.trans{s1 s2 s3:Shared}(a:Rely G O T s1 s2)(b:Rely G O T s2 s3):Rely G O T s1 s3 where
 os:=b.os.trans a.os
 bare:=b.bare
 sz:=Nat.le_trans a.sz b.sz
 bs:=b.bs
 funs:=b.funs
 own:=fun x o h1 h2 h3=>b.own x o h1 h2 (a.own x o h1 h2 h3)
 hok:=b.hok
 gen:=b.gen
 slp:=fun i x l e h=>b.slp i x l (a.slp i x l e h) h
 ld:=fun i x e h t=>(b.ld i x e h t).trans (a.ld i x (e.of (b.ld i x e h t).symm) h t)
 lw:=b.lw
structure Kp (s s':Shared):Prop where
 slp:∀(i:Nat) (x:GenState),s.gens[i]? =some x→gv x→s'.gens[i]? =some x
 ld:∀i a,LdAt s' i a→s'.gens[i]? =s.gens[i]?
theorem Kp.refl(s:Shared):Kp s s:=⟨fun _ _ e _=>e,fun _ _ _=>rfl⟩
theorem Kp.trans{a b c:Shared}(h:Kp a b)(k:Kp b c):Kp a c:=⟨fun i x e z=>k.slp i x (h.slp i x e z) z,fun i x e=>(k.ld i x e).trans (h.ld i x (e.of (k.ld i x e).symm))⟩
theorem Kp.LD{s s':Shared}(k:Kp s s'){a:Addr}(h:LD s' a):LD s a:=let ⟨i,h⟩:=h; ⟨i,h.of (k.ld i a h).symm⟩
theorem Slq.ldat2{s s0 s1 s2 s':Shared}(sl:Slq s s0 s')(k:Slq s s1 s2){i:Nat}{a:Addr}(h:LdAt s2 i a):s2.gens[i]? =s'.gens[i]? :=by
 have j:=k.ldat h
 have j2:tW s i:=by
  obtain ⟨k',l,c,p,fs,cl,h1,h2⟩:=h
  exact ⟨_,j.symm.trans h1,trivial⟩
 rw [k.kept i j2,sl.kept i j2]
theorem Slq.ld2{s s0 s1 s2 s':Shared}(sl:Slq s s0 s')(k:Slq s s1 s2){a:Addr}(h:LD s2 a):LD s' a:=let ⟨i,h⟩:=h; ⟨i,h.of (sl.ldat2 k h).symm⟩
theorem Slq.kp{s s0 s':Shared}(sl:Slq s s0 s'):Kp s s':=⟨fun _ _ e h=>sl.slp e h,fun _ _ h=>sl.ldat h⟩
theorem Kp.push{s s':Shared}{c:Code}(e:s'.gens=s.gens.push (.fresh c)):Kp s s':=by
 refine ⟨fun i x q _=>?_,fun i a q=>?_⟩
 ·rw [e,Array.getElem?_push_lt (Array.getElem?_eq_some_iff.mp q).1,←Array.getElem?_eq_getElem (Array.getElem?_eq_some_iff.mp q).1]
  exact q
 ·obtain ⟨k,l,c',p,fs,cl,h1,h2⟩:=q
  rw [e,Array.getElem?_push] at h1 ⊢
  split at h1
  ·cases h1
  ·rename_i ne
   rw [if_neg ne]
def Rl(O:Ow)(T:Hp)(sw s:Shared):Prop:=∀a,LD s a→LD sw a∧¬(O a∧T a=none)
structure Gu (G:Gst) (O:Ow) (T:Hp) (O':Ow) (T':Hp) (s s':Shared):Prop where
 os:s'.os=s.os
 bare:AllBare s'.gens
 keep:∀b o,s.heap.get? b=some o→¬O b→b∉frs G.outer→T b=none→s'.heap.get? b=some o
 slot:∀b o,s.heap.get? b=some o→b∈frs G.outer→∃sl,s'.heap.get? b=some { o with slots:=sl }
 tup:∀b o,T b=some o→T' b=some o
 new:∀b o,s.heap.get? b=some o→¬O b→T b=none→T' b=none
 hok:HOk G.P G.w T' s'.heap
 ton:∀b o,T' b=some o→LTo o
 fresh:∀b,O' b→O b∨s.heap.objs.size≤b
 fz:Fz s s'
theorem Run.gu(R:Run G O T sw pins B en σ H s):Gu G O T (Bx G.n0 O sw s) B sw s where
 os:=R.inv.os
 bare:=R.inv.bare
 keep:=fun b o e no nf n=>by
  by_cases l:b<G.n0
  ·exact R.inv.base.keep b o (jG.mpr ⟨l,e⟩) (pd n (.inl l)) nf (fun z=>nomatch z)
  ·exact (R.inv.hok b _ (R.inv.base.frzs b _ _ (mz n (Nat.le_of_not_lt l) no e))).1
 slot:=fun b o e h=>R.inv.base.slot b o (jG.mpr ⟨(R.frs_ h).1,e⟩) (R.inv.ok.frf b h) h (fun z=>nomatch z)
 tup:=R.tb
 new:=fun b o e no n=>by
  cases q:B b with
  | none=>rfl
  | some u=>
   by_cases l:b<G.n0
   ·have z:=R.low l e n
    rw [R.le b u q] at z
    cases z
   ·exact absurd (R.inv.base.frzs b _ _ (mz n (Nat.le_of_not_lt l) no e)) (R.nofz q _ _)
 hok:=fun b o e=>mB (R.bt b o e) (R.inv.hok b _ (R.le b _ e))
 ton:=R.bt
 fresh:=fun b h=>h.2.2
 fz:=R.fz
theorem Run.gH(R:Run G O T sw pins B en σ H s):B G.a=none∧∀o,sw.heap.get? G.a=some o→s.heap.get? G.a=some o:=by
 obtain ⟨o,nm,qn,ho,_⟩:=R.ga
 have z:=R.inv.base.frzs G.a _ _ (mz R.an.2.2 R.an.1 R.an.2.1 ho)
 refine ⟨?_,fun o' e=>?_⟩
 ·cases q:B G.a with
  | none=>rfl
  | some u=>exact absurd z (R.nofz q _ _)
 ·rw [ho] at e
  cases e
  exact (R.inv.hok G.a _ z).1
theorem Run.gen(R:Run G O T sw pins B en σ H s):IsGn s.heap G.a G.g:=R.ga.of R.gH.2
end
theorem oo{P:Program}{w:World}{H:Hp}{h:Heap}{a:Addr}{o:HO}(x:ObjOk P w H h a o):∃ob,h.get? a=some ob:=by
 cases o with
 | lst xs=>obtain ⟨_,_,_,_,e⟩:=x; exact ⟨_,e⟩
 | tup xs=>obtain ⟨_,_,_,o,e,_⟩:=x; exact ⟨_,e⟩
 | dK kvs=>obtain ⟨_,_,_,_,o,_,_,e,_⟩:=x; exact ⟨_,e⟩
 | dT kvs=>obtain ⟨_,_,_,_,o,_,_,e,_⟩:=x; exact ⟨_,e⟩
 | set S n=>obtain ⟨o,_,_,_,e,_⟩:=x; exact ⟨_,e⟩
 | ins C dx fs=>obtain ⟨_,_,_,e,_⟩:=x; exact ⟨_,e⟩
 | own y=>exact x
 | xd fs=>obtain ⟨_,⟨_,_,_,e,_⟩,_⟩:=x; exact ⟨_,e⟩
 | rng lo hi=>obtain ⟨_,_,_,e⟩:=x; exact ⟨_,e⟩
 | frz ob u=>obtain ⟨e,_⟩:=x; exact ⟨_,e⟩
 | tbl ps=>exact ⟨_,(show h.get? a=some _ from x)⟩
 | met f y=>exact ⟨_,(show h.get? a=some _ from x)⟩
 | ext φ=>obtain ⟨_,e,_⟩:=x; exact e
theorem _root_.L2.Inv.grown{X:Cx}{pins:List (Addr×Obj)}{σ:L2.St}{H:Hp}{s s':Shared}(I:Inv X pins σ H s)(ho:s'.os=s.os)(hk:∀b o,s.heap.get? b=some o→s'.heap.get? b=some o)(hg:AllBare s'.gens):Inv X pins σ H s':=
 I.call' (ch:=[]) ho (Un.kept hk) (I.hok.kept hk) hg fun b z=>nomatch z
theorem _root_.L2.Inv.nofrS{X:Cx}{pins:List (Addr×Obj)}{σ:L2.St}{H:Hp}{s:Shared}(I:Inv X pins σ H s){b:Addr}(h:b∈frs X.stack):H b=none:=by
 rcases List.mem_cons.mp (I.stkSub b h) with z | z
 ·rw [z]; exact I.free
 ·obtain ⟨_,o,ho,_⟩:=I.ok.funs.mem z
  exact I.base.free b o ho (I.ok.frf b z) (fun q=>I.ok.exfs b q z)
theorem _root_.L2.Inv.asl{X:Cx}{pins:List (Addr×Obj)}{σ:L2.St}{H:Hp}{s:Shared}(I:Inv X pins σ H s):Inv X pins σ H (asleep s):=
 I.grown rfl (fun _ _ z=>z) (bu I.bare)
theorem Slq.inv{X:Cx}{pins:List (Addr×Obj)}{σ:L2.St}{H:Hp}{s s0 s':Shared}(sl:Slq s s0 s')(I:Inv X pins σ H s0):Inv X pins σ H s':=by
 have e:=sl.eq
 exact I.grown (by rw [e]) (fun b o z=>by rw [e]; exact z) (sl.bare I.bare)
mutual
def LTD:D→Prop
 | .tup xs=>LTDs xs
 | .lst xs=>LTDs xs
 | .dic _=>False
 | .obj _ _=>False
 | .exc _ _=>False
 | .lam _ _ _=>False
 | _=>True
def LTDs:List D→Prop
 | []=>True
 | d::ds=>LTD d∧LTDs ds
end
def ltB(B:Hp):Hp:=fun b=>match B b with
 | some (.tup xs)=>some (.tup xs)
 | some (.lst xs)=>some (.lst xs)
 | _=>none
theorem lJ{B:Hp}{b:Addr}{xs:List V}(e:B b=some (.tup xs)):ltB B b=some (.tup xs):=by
 unfold ltB
 rw [e]
theorem lK{B:Hp}{b:Addr}{xs:List V}(e:B b=some (.lst xs)):ltB B b=some (.lst xs):=by
 unfold ltB
 rw [e]
theorem jH{B:Hp}{b:Addr}{u:HO}(e:ltB B b=some u):B b=some u∧LTo u:=by
 unfold ltB at e
 split at e
 ·rename_i xs q
  cases e
  exact ⟨q,.inl ⟨xs,rfl⟩⟩
 ·rename_i xs q
  cases e
  exact ⟨q,.inr ⟨xs,rfl⟩⟩
 ·cases e
mutual
theorem Rv.lt{K:Frag}{B:Hp}:∀{v:V} {d:D},Rv K B v d→LTD d→Rv K (ltB B) v d
 | _,_,.non,_=>.non
 | _,_,.bl b,_=>.bl b
 | _,_,.int i,_=>.int i
 | _,_,.str h,_=>.str h
 | _,_,.ty n,_=>.ty n
 | _,_,.fn a,_=>.fn a
 | _,_,.tup h a,l=>.tup (h.elim (fun z=>.inl (lJ z)) .inr) (RvL.lt a l)
 | _,_,.lst h a,l=>.lst (lK h) (RvL.lt a l)
 | _,_,.dic _ _,l=>l.elim
 | _,_,.obj _ _,l=>l.elim
 | _,_,.exc _ _ _,l=>l.elim
 | _,_,.lam _,l=>l.elim
theorem RvL.lt{K:Frag}{B:Hp}:∀{v:List V} {d:List D},RvL K B v d→LTDs d→RvL K (ltB B) v d
 | _,_,.nil,_=>.nil
 | _,_,.cons h t,l=>.cons (Rv.lt h l.1) (RvL.lt t l.2)
end
def vt(en:En):Prop:=∀(i:Nat) (x:W),en[i]? =some (some x)→∃d,x=.v d∧LTD d
theorem Slq.rl{O:Ow}{T:Hp}{sw s s0 s':Shared}(sl:Slq s s0 s')(r:Rl O T sw s):Rl O T sw s':=fun a h=>r a (sl.ld h)
structure GnAt (G:Gst) (gs:GenState) (O:Ow) (T:Hp) (s:Shared):Prop where
 gen:IsGn s.heap G.a G.g
 at_:s.gens[G.g]? =some gs
 na:¬O G.a
 nT:T G.a=none
 n0:G.n0≤G.a
 ob:∀b,O b→G.n0≤b∧Ob s.heap b
 ton:∀b o,T b=some o→LTo o
def GoX(M:Model)(A:Around)(gs:GenState)(Φ:End→Shared→Prop)(s:Shared):Prop:=match gs with
 | .fresh c=>SegX M A Φ c (M.den c) [] s
 | .suspended k _ c _ fs _=>SegX M A Φ c (k (.send .none)) fs s
 | _=>False
def CM(G:Gst)(O:Ow)(T:Hp)(sw:Shared)(e:End)(s':Shared):Prop:=
 (e=.ret (.ok (.ret .none))∧G.oe=none∧∃O' T',Gu G O T O' T' sw s')∨
 ∃x,e=.ret (.error x)∧L2N.CX G.P G.w G.outer (Zt G.n0 T O sw.heap) { sw with heap:=trH G.n0 sw.heap } (fun c d H=>Le T H∧G.E c d H) x s'∧IsGn s'.heap G.a G.g
def Yl(G:Gst)(O:Ow)(T:Hp)(sw:Shared)(O':Ow)(T':Hp)(s'':Shared)(e:End):Prop:=∀a,LD (s''.setGen G.g e.genState) a→(LD sw a∧¬(O a∧T a=none))∨(O' a∧T' a=none∧cR (s''.heap.get? a)=true)
def Gn(G:Gst):List D→Ow→Hp→Shared→Prop
 | [],O,T,s=>∃gs,GnAt G gs O T s∧∀s',Rely G O T s s'→GoX (M0 G.P G.w) G.A gs (fun e s''=>CM G O T (s'.setGen G.g .running) e s''∧Rl O T (s'.setGen G.g .running) s'') (s'.setGen G.g .running)
 | d::ds,O,T,s=>∃gs,GnAt G gs O T s∧∀s',Rely G O T s s'→GoX (M0 G.P G.w) G.A gs (fun e s''=>∃v x O' T',e.result=.yielded v∧e.quiet=true∧RelV x v∧Rv G.K T' x d∧Gu G O T O' T' (s'.setGen G.g .running) s''∧Yl G O T (s'.setGen G.g .running) O' T' s'' e∧
   Gn G ds O' T' (s''.setGen G.g e.genState)) (s'.setGen G.g .running)
def Phi(G:Gst):List D→Ow→Hp→Shared→End→Shared→Prop
 | [],O,T,sw,e,s''=>CM G O T sw e s''∧Rl O T sw s''
 | d::ds,O,T,sw,e,s''=>∃v x O' T',e.result=.yielded v∧e.quiet=true∧RelV x v∧Rv G.K T' x d∧Gu G O T O' T' sw s''∧Yl G O T sw O' T' s'' e∧Gn G ds O' T' (s''.setGen G.g e.genState)
theorem sB{G:Gst}{its:List D}{O:Ow}{T:Hp}{s:Shared}:Gn G its O T s↔∃gs,GnAt G gs O T s∧∀s',Rely G O T s s'→GoX (M0 G.P G.w) G.A gs (Phi G its O T (s'.setGen G.g .running)) (s'.setGen G.g .running):=by
 cases its <;> exact Iff.rfl
theorem Gn.later{G:Gst}{its:List D}{O:Ow}{T:Hp}{s s':Shared}(h:Gn G its O T s)(r:Rely G O T s s'):Gn G its O T s':=by
 obtain ⟨gs,k,n⟩:=sB.mp h
 refine sB.mpr ⟨gs,⟨r.gen,r.slp G.g gs (Nat.le_refl _) k.at_ (.inl rfl),k.na,k.nT,k.n0,fun b z=>⟨(k.ob b z).1,?_⟩,k.ton⟩,fun s2 r2=>n s2 (r.trans r2)⟩
 ·obtain ⟨o,e,hc⟩:=(k.ob b z).2
  cases q:T b with
  | none=>exact ⟨o,r.own b o z q e,hc⟩
  | some u=>exact qH (k.ton b u q) (r.hok b u q)
structure NG where
 nx:En→List D→Prop
 rt:List D→Prop
 bk:En→List D→Prop
 ct:En→List D→Prop
 xc:Er→Prop
abbrev DGT:=En→List D→NG→Prop
abbrev Gst.se(G:Gst)(E:XK):Gst:={ G with E:=E }
abbrev Gst.wE(G:Gst)(its:List D)(T:Hp):Gst:=G.se fun c d H=>its=[]∧Le T H∧G.E c d H
theorem Inv.se{G:Gst}{E E':XK}{s s':Shared}{Z H:Hp}{pins:List (Addr×Obj)}{σ:L2.St}(I:Inv (Gx (G.se E) s Z) pins σ H s'):Inv (Gx (G.se E') s Z) pins σ H s':=
 ⟨⟨I.ok.mod,I.ok.kind,I.ok.glob,I.ok.blt,I.ok.above,I.ok.inj,I.ok.has,I.ok.cab,I.ok.hd,I.ok.frames,I.ok.stk,I.ok.exf,I.ok.bs,I.ok.bsz,I.ok.noex,I.ok.exfs,I.ok.funs,I.ok.frf⟩,I.os,I.bare,I.base,I.loc,I.cell,I.free,I.freeC,I.pin,I.hok,I.len⟩
structure GCx (G:Gst) (c:Code) (fs:List Frame) (gd:Bool→Bool):Prop where
 over:G.A.over c fs=G.A.deeper G.env
 split:splitAtGen fs=none
 guard:fs.any Frame.guarded=false
 gd:gd false=false
 yf:eB c=none
def ExG(G:Gst)(xc:Er→Prop):Prop:=∀(er:Er),xc er→∀(B' H':Hp) (dd:Addr) fvs,Le B' H'→H' dd=some (.xd fvs)→RvF G.K B' fvs er.fs→G.E (.ref er.C) (some dd) H'
theorem ExG.of{G:Gst}{its:List D}{T:Hp}{xc:Er→Prop}(h:ExG G xc){B:Hp}{μ:List Addr}{m:Me}{H:Hp}(tb:∀b o,T b=some o→B b=some o):ExOf G.K (G.wE its T).E B μ m H (fun er _=>its=[]∧xc er):=
 fun B' μ' m' H' er dd fvs st M hd r q=>⟨q.1,fun b o e=>M.le b o (st.same b o (tb b o e)),h er q.2 B' H' dd fvs M.le hd r⟩
structure GKont (G:Gst) (pins:List (Addr×Obj)) (Bk:Hp) (c:Code) (fs:List Frame) (K:Flow→Sem PySem.Fin) (J:Value→Sem PySem.Fin) (N:NG):Prop where
 nx:∀O T sw B en σ H s its,Run G O T sw pins B en σ H s→Rl O T sw s→Same Bk B→vt en→N.nx en its→SegX (M0 G.P G.w) G.A (Phi G its O T sw) c (K .next) fs s
 bk:∀O T sw B en σ H s its,Run G O T sw pins B en σ H s→Rl O T sw s→Same Bk B→vt en→N.bk en its→SegX (M0 G.P G.w) G.A (Phi G its O T sw) c (K .brk) fs s
 ct:∀O T sw B en σ H s its,Run G O T sw pins B en σ H s→Rl O T sw s→Same Bk B→vt en→N.ct en its→SegX (M0 G.P G.w) G.A (Phi G its O T sw) c (K .cont) fs s
 rt:∀O T sw B en σ H s its,Run G O T sw pins B en σ H s→Rl O T sw s→Same Bk B→N.rt its→SegX (M0 G.P G.w) G.A (Phi G its O T sw) c (K (.ret .none)) fs s
 xc:∀(O:Ow) (T:Hp) (sw:Shared) its e sx s0 s',IsGn sw.heap G.a G.g→(G.n0≤G.a∧¬O G.a∧T G.a=none)→(Gx (G.wE its T) sw (Zt G.n0 T O sw.heap)).xe e s0→Slq sx s0 s'→Rl O T sw s'→SegX (M0 G.P G.w) G.A (Phi G its O T sw) c (J e) fs s'
structure GS (G:Gst) (st:Stmt) (t:DGT):Prop where
 run:∀(O:Ow) (T:Hp) (sw:Shared) (pins:List (Addr×Obj)) (Bk B:Hp) (en:En) (σ:L2.St) (H:Hp) (s:Shared) (its:List D) (c:Code) (fs:List Frame) (K:Flow→Sem PySem.Fin) (J:Value→Sem PySem.Fin) (gd:Bool→Bool) (lv:List Value→List Value) (N:NG),
  GCx G c fs gd→GKont G pins Bk c fs K J N→ExG G N.xc→Run G O T sw pins B en σ H s→Rl O T sw s→Same Bk B→vt en→t en its N→SegX (M0 G.P G.w) G.A (Phi G its O T sw) c ((exec st G.env).wrap K J gd lv) fs s
structure GSs (G:Gst) (st:List Stmt) (t:DGT):Prop where
 run:∀(O:Ow) (T:Hp) (sw:Shared) (pins:List (Addr×Obj)) (Bk B:Hp) (en:En) (σ:L2.St) (H:Hp) (s:Shared) (its:List D) (c:Code) (fs:List Frame) (K:Flow→Sem PySem.Fin) (J:Value→Sem PySem.Fin) (gd:Bool→Bool) (lv:List Value→List Value) (N:NG),
  GCx G c fs gd→GKont G pins Bk c fs K J N→ExG G N.xc→Run G O T sw pins B en σ H s→Rl O T sw s→Same Bk B→vt en→t en its N→SegX (M0 G.P G.w) G.A (Phi G its O T sw) c ((execs st G.env).wrap K J gd lv) fs s
theorem Run.step{G:Gst}{O:Ow}{T:Hp}{sw s s':Shared}{pins:List (Addr×Obj)}{B B' H H':Hp}{en en':En}{σ σ':L2.St}{μ':List Addr}{E:XK}(R:Run G O T sw pins B en σ H s)(I:Inv (Gx (G.se E) sw (Zt G.n0 T O sw.heap)) pins σ' H' s')(fz:Fz sw s')
  (sm:Same B B') (r:Rel G.K B' μ' en' [] σ' H') (el:vt en'):Run G O T sw pins (ltB B') en' σ' H' s':=by
 have e:μ'=[]:=List.eq_nil_of_length_eq_zero r.mem.len
 subst e
 refine ⟨Inv.se (G:=G) (E:=E) (E':=G.E) I,⟨⟨fun b o q=>r.mem.le b o (jH q).1,rfl,fun a ⟨n,m,q,_⟩=>by simp at q,fun n a m q=>by simp at q,fun n k a m m' q=>by simp at q,fun b ps q=>?_⟩,r.len,fun i x q=>?_⟩,fz,fun b o q=>(jH q).2,fun b o q=>?_,R.pm,R.ol,R.ob,R.nc,R.gw,R.ga,R.an,R.lw⟩
 ·rcases (jH q).2 with ⟨xs,z⟩ | ⟨xs,z⟩ <;> cases z
 ·obtain ⟨v,h1,h2⟩:=r.env i x q
  obtain ⟨d,rfl,l⟩:=el i x q
  exact ⟨v,h1,Rv.lt h2 l⟩
 ·have z:=sm b _ (R.tb b _ q)
  rcases R.tt q with ⟨xs,rfl⟩ | ⟨xs,rfl⟩
  ·exact lJ z
  ·exact lK z
theorem Run.lt{G:Gst}{O:Ow}{T:Hp}{sw s:Shared}{pins:List (Addr×Obj)}{B B' Bk H:Hp}{en:En}{σ:L2.St}(R:Run G O T sw pins B en σ H s)(hB:Same Bk B)(sm:Same B B'):Same Bk (ltB B'):=fun b o q=>by
 have z:=hB b o q
 have z2:=sm b o z
 rcases R.bt b o z with ⟨xs,rfl⟩ | ⟨xs,rfl⟩
 ·exact lJ z2
 ·exact lK z2
section
variable {G:Gst}
theorem Run.pinned{O:Ow}{T:Hp}{sw s:Shared}{pins:List (Addr×Obj)}{B:Hp}{en:En}{σ:L2.St}{H:Hp}(R:Run G O T sw pins B en σ H s){p:Addr×Obj}(hp:p∈G.pn++pins):Bx G.n0 O sw s p.1∧B p.1=none:=by
 obtain ⟨h1,h2,_,_,h6⟩:=R.inv.pin p hp
 have nb:=R.nB h2
 refine ⟨R.mine h1 h6 ?_ (fun o u z=>by rw [h2] at z; cases z) (R.pm p hp),nb⟩
 cases q:T p.1 with
 | none=>rfl
 | some o=>rw [R.tb _ o q] at nb; cases nb
end
section
variable {P:Program} {w:World} {A:Around} {E:Value→Shared→Prop} {s:Shared}
end
def ErG(K:Frag)(oe:Option Er):XK:=fun c d H=>∃er dd fvs,oe=some er∧c=.ref er.C∧d=some dd∧H dd=some (.xd fvs)∧RvF K (fun _=>none) fvs er.fs∧PySem.W.subIn K c (.type "StopIteration")=some false
noncomputable def fpL(a:Addr)(O:Ow)(T:Hp)(n:Nat):List Addr:=(List.range n).filter fun b=>@decide (b=a∨O b∧T b=none) (Classical.propDecidable _)
theorem iz{a:Addr}{O:Ow}{T:Hp}{n:Nat}{b:Addr}:b∈fpL a O T n↔b<n∧(b=a∨O b∧T b=none):=by
 unfold fpL
 rw [List.mem_filter,List.mem_range]
 exact and_congr_right fun _=>@decide_eq_true_iff _ (Classical.propDecidable _)
structure Cons (X:Cx) (G:Gst) (pins:List (Addr×Obj)) (its:List D) (O:Ow) (T B H:Hp) (σ:L2.St) (s:Shared):Prop where
 inv:Inv X pins σ H s
 gn:Gn G its O T s
 eP:G.P=X.prog
 ew:G.w=X.w
 eK:G.K=X.K
 eb:G.base=X.base
 eo:G.outer=X.stack
 eE:G.E=ErG X.K G.oe
 lo:∀b∈frs G.outer,b<G.n0
 bh:Le B H
 tb:∀b o,T b=some o→B b=some o
 fp:∀b,(b=G.a∨O b∧T b=none)→FpOk X pins H b
structure ExtB (B H B' H':Hp):Prop where
 bb:∀b o,B b=some o→B' b=some o
 hh:∀b o,H b=some o→H' b=some o
 nb:∀b o,H b=some o→B b=none→B' b=none
 le:Le B' H'
 tu:∀b o,B b=none→B' b=some o→LTo o
section
variable {X:Cx} {G:Gst} {pins:List (Addr×Obj)} {its:List D} {O O':Ow} {T T' B H:Hp} {σ:L2.St} {s s1:Shared}
theorem Cons.th(C:Cons X G pins its O T B H σ s){b:Addr}{o:HO}(e:T b=some o):H b=some o:=C.bh b o (C.tb b o e)
theorem Cons.nt(C:Cons X G pins its O T B H σ s){b:Addr}(e:H b=none):T b=none:=by
 cases q:T b with
 | none=>rfl
 | some o=>rw [C.th q] at e; cases e
theorem Cons.at_(C:Cons X G pins its O T B H σ s):∃gs,GnAt G gs O T s:=by
 obtain ⟨gs,h,_⟩:=sB.mp C.gn
 exact ⟨gs,h⟩
theorem Cons.noO(C:Cons X G pins its O T B H σ s){b:Addr}{o:HO}(e:H b=some o)(n:T b=none):¬O b:=fun z=>by
 rw [(C.fp b (.inr ⟨z,n⟩)).1] at e
 cases e
theorem Cons.gu(C:Cons X G pins its O T B H σ s){sr:Shared}(hr:sr.heap=s.heap)(hro:sr.os=s.os)(gu:Gu G O T O' T' sr s1):∃B' H',Inv X pins σ H' s1∧ExtB B H B' H'∧(∀b o,T' b=some o→B' b=some o)∧∀b,(b=G.a∨O' b∧T' b=none)→FpOk X pins H' b:=by
 obtain ⟨gs,k⟩:=C.at_
 have I:=C.inv
 let H':Hp:=fun b=>match H b with
  | some o=>some o
  | none=>T' b
 let B':Hp:=fun b=>match B b with
  | some o=>some o
  | none=>match H b with
   | some _=>none
   | none=>T' b
 have hs:∀b o,H b=some o→H' b=some o:=fun b o e=>by
  show (match H b with | some o=>some o | none=>T' b)=_
  rw [e]
 have hn:∀b,H b=none→H' b=T' b:=fun b e=>by
  show (match H b with | some o=>some o | none=>T' b)=_
  rw [e]
 have bs:∀b o,B b=some o→B' b=some o:=fun b o e=>by
  show (match B b with | some o=>some o | none=>match H b with | some _=>none | none=>T' b)=_
  rw [e]
 have bn:∀b,B b=none→H b=none→B' b=T' b:=fun b e e2=>by
  show (match B b with | some o=>some o | none=>match H b with | some _=>none | none=>T' b)=_
  rw [e,e2]
 have bx:∀b o,B b=none→H b=some o→B' b=none:=fun b o e e2=>by
  show (match B b with | some o=>some o | none=>match H b with | some _=>none | none=>T' b)=_
  rw [e,e2]
 have keep:∀b o,s.heap.get? b=some o→¬O b→b∉frs X.stack→T b=none→s1.heap.get? b=some o:=fun b o e h1 h2 h3=>gu.keep b o (by rw [hr]; exact e) h1 (by rw [C.eo]; exact h2) h3
 have slot:∀b o,s.heap.get? b=some o→b∈frs X.stack→∃sl,s1.heap.get? b=some { o with slots:=sl }:=fun b o e h=>gu.slot b o (by rw [hr]; exact e) (by rw [C.eo]; exact h)
 have new:∀b o,s.heap.get? b=some o→¬O b→T b=none→T' b=none:=fun b o e h n=>gu.new b o (by rw [hr]; exact e) h n
 have hokT:∀b o,T' b=some o→∀H2,ObjOk X.prog X.w H2 s1.heap b o:=fun b o e H2=>by
  have z:=gu.hok b _ e
  rw [C.eP,C.ew] at z
  exact mB (gu.ton b o e) z
 have nch:∀b o,s.heap.get? b=some o→T b=none→b∉fpL G.a O T s.heap.objs.size→¬O b:=fun b o e n h z=>h (iz.mpr ⟨Heap.lt_size e,.inr ⟨z,n⟩⟩)
 have un:Un (frs X.stack) (fpL G.a O T s.heap.objs.size) H H' s.heap s1.heap:=by
  refine ⟨fun b o e n hb hc=>keep b o e (nch b o e (C.nt n) hc) hb (C.nt n),fun b o e _ hb _=>slot b o e hb,fun b o e n hc=>?_,fun b o e hc=>?_,fun b xs e=>hs b _ e,fun b o u e=>hs b _ e,fun b ps e=>⟨#[],by rw [hs b _ e]; simp⟩⟩
  ·rw [hn b n]
   exact new b o e (nch b o e (C.nt n) hc) (C.nt n)
  ·by_cases hb:b∈frs X.stack
   ·obtain ⟨sl,z⟩:=slot b o e hb
    exact ⟨_,z⟩
   ·cases q:T b with
    | none=>exact ⟨o,keep b o e (nch b o e q hc) hb q⟩
    | some t=>exact oo (hokT b t (gu.tup b t q) H)
 have hok:HOk X.prog X.w H' s1.heap:=fun a o e=>by
  cases q:H a with
  | none=>
   rw [hn a q] at e
   exact hokT a o e H'
  | some o'=>
   rw [hs a o' q] at e
   have e':o'=o:=Option.some.inj e
   subst e'
   cases t:T a with
   | some u=>
    have z:=C.th t
    rw [q] at z
    cases z
    exact hokT a _ (gu.tup a _ t) H'
   | none=>
    refine (I.hok a o' q).stay (fun c v hc z=>?_) (fun c z=>hs c _ z) fun c xs z=>hs c _ z
    have tr:∃y,H c=some y∧T c=none:=by
     rcases hc with rfl | hc
     ·exact ⟨o',q,t⟩
     ·refine ⟨_,hc,?_⟩
      cases t2:T c with
      | none=>rfl
      | some u=>
       rw [C.th t2] at hc
       rcases k.ton c u t2 with ⟨xs,rfl⟩ | ⟨xs,rfl⟩ <;> cases hc
    obtain ⟨y,hy,ty⟩:=tr
    refine keep c v z (C.noO hy ty) (fun hb=>?_) ty
    rw [I.nofrS hb] at hy
    cases hy
 have I':Inv X pins σ H' s1:=I.call' (ch:=fpL G.a O T s.heap.objs.size) (gu.os.trans hro) un hok gu.bare fun b hb=>by
  obtain ⟨_,h1,_,h3,h4,h5⟩:=C.fp b (iz.mp hb).2
  exact ⟨h3,h1,h4,h5⟩
 have tT:∀b o t,H b=some o→T' b=some t→T b=some o:=fun b o t e e2=>by
  cases q:T b with
  | some u=>rw [C.th q] at e; exact e
  | none=>
   obtain ⟨ob,eo⟩:=oo (I.hok b o e)
   rw [new b ob eo (C.noO e q) q] at e2
   cases e2
 refine ⟨B',H',I',⟨bs,hs,fun b o e n=>bx b o n e,fun b o e=>?_,fun b o n e=>?_⟩,fun b o e=>?_,fun b h=>?_⟩
 ·cases q:B b with
  | some u=>
   rw [bs b u q] at e
   cases e
   exact hs b _ (C.bh b _ q)
  | none=>
   cases q2:H b with
   | some u=>rw [bx b u q q2] at e; cases e
   | none=>
    rw [bn b q q2] at e
    rw [hn b q2]
    exact e
 ·cases q2:H b with
  | some u=>rw [bx b u n q2] at e; cases e
  | none=>
   rw [bn b n q2] at e
   exact gu.ton b o e
 ·cases q2:H b with
  | none=>
   have nb:B b=none:=by
    cases q:B b with
    | none=>rfl
    | some u=>rw [C.bh b u q] at q2; cases q2
   rw [bn b nb q2]
   exact e
  | some u=>
   have z:=tT b u o q2 e
   have z2:=gu.tup b u z
   rw [e] at z2
   cases z2
   exact bs b _ (C.tb b _ z)
 ·rcases h with rfl | ⟨h,n⟩
  ·obtain ⟨h0,h1,h2,h3,h4,h5⟩:=C.fp _ (.inl rfl)
   obtain ⟨o,e,_⟩:=k.gen.there
   exact ⟨by rw [hn _ h0]; exact new _ o e k.na k.nT,h1,h2,h3,h4,h5⟩
  rcases gu.fresh b h with z | z
  ·have nT:T b=none:=by
    cases q:T b with
    | none=>rfl
    | some t=>rw [gu.tup b t q] at n; cases n
   obtain ⟨h0,h1,h2,h3,h4,h5⟩:=C.fp b (.inr ⟨z,nT⟩)
   exact ⟨by rw [hn b h0]; exact n,h1,h2,h3,h4,h5⟩
  ·rw [hr] at z
   exact I.fpOk z (by rw [hn b (I.hok.fresh z)]; exact n)
theorem Cons.item(C:Cons X G pins its O T B H σ s){d:D}{ds:List D}{e:End}(hp:Phi G (d::ds) O T (s.setGen G.g .running) e s1):∃v x O' T' B' H',e.result=.yielded v∧e.quiet=true∧RelV x v∧Rv X.K B' x d∧ExtB B H B' H'∧Cons X G pins ds O' T' B' H' σ (s1.setGen G.g e.genState)∧∀a,LD (s1.setGen G.g e.genState) a→(LD s a∧¬(O a∧T a=none))∨(O' a∧T' a=none∧cR (s1.heap.get? a)=true):=by
 obtain ⟨v,x,O',T',h1,h2,h3,h4,gu,yl,gn⟩:=hp
 obtain ⟨B',H',I',ex,tb,fp⟩:=C.gu (sr:=s.setGen G.g .running) rfl rfl gu
 refine ⟨v,x,O',T',B',H',h1,h2,h3,?_,ex,⟨I'.grown rfl (fun _ _ z=>z) (allBare_setGen gu.bare (End.bare_of_quiet h2)),gn,C.eP,C.ew,C.eK,C.eb,C.eo,C.eE,C.lo,ex.le,tb,fp⟩,fun a h=>?_⟩
 ·rw [←C.eK]
  exact h4.to fun b o z=>tb b o z
 ·exact (yl a h).imp (fun z=>⟨z.1.run,z.2⟩) id
noncomputable abbrev xb(a:Addr)(O:Ow)(T:Hp)(s:Shared):List (Addr×Obj):=pinsAt (fpL a O T s.heap.objs.size) s.heap
theorem Cons.pinned(C:Cons X G pins its O T B H σ s):Inv X (pins++xb G.a O T s) σ H s:=by
 obtain ⟨gs,k⟩:=C.at_
 refine C.inv.pinned (fun b hb=>C.fp b (iz.mp hb).2) fun b hb=>?_
 rcases (iz.mp hb).2 with rfl | h
 ·exact k.gen.there
 ·exact (k.ob b h.1).2
theorem Cons.kept(C:Cons X G pins its O T B H σ s){B2 H2:Hp}{σ2:L2.St}{s2:Shared}(I2:Inv X (pins++xb G.a O T s) σ2 H2 s2)(fz:Fz s s2)(bh:Le B2 H2)(bb:∀b o,B b=some o→B2 b=some o)
  (slp:∀(i:Nat) (x:GenState),G.g≤i→s.gens[i]? =some x→(i=G.g∨gv x)→s2.gens[i]? =some x) (ld:∀i a,LdAt s2 i a→O a→T a=none→s2.gens[i]? =s.gens[i]?) (lw:∀a,LD s2 a→a<s2.heap.objs.size):Cons X G pins its O T B2 H2 σ2 s2:=by
 obtain ⟨gs,k⟩:=C.at_
 have tb2:∀b o,T b=some o→B2 b=some o:=fun b o e=>bb b o (C.tb b o e)
 have pin2:∀b o,(b=G.a∨O b∧T b=none)→s.heap.get? b=some o→s2.heap.get? b=some o∧H2 b=none:=fun b o h1 e=>by
  have z:=I2.pin (b,o) (List.mem_append_right _ (List.mem_append_right _ (mem_pinsAt (iz.mpr ⟨Heap.lt_size e,h1⟩) e)))
  exact ⟨z.1,z.2.1⟩
 have r:Rely G O T s s2:={
  os:=I2.os.trans C.inv.os.symm
  bare:=I2.bare
  sz:=fz.hp
  bs:=fun b o e=>by
   rw [C.eb] at e
   exact I2.bk b o e
  funs:=by
   rw [C.eb,C.eo]
   exact I2.stack
  own:=fun b o h1 h2 e=>(pin2 b o (.inr ⟨h1,h2⟩) e).1
  gen:=k.gen.of fun o e=>(pin2 _ o (.inl rfl) e).1
  hok:=fun b o e=>by
   have z:=I2.hok b _ (bh b _ (tb2 b _ e))
   rw [C.eP,C.ew]
   exact mB (k.ton b o e) z
  slp:=slp
  ld:=ld
  lw:=lw }
 refine ⟨I2.unpinned,C.gn.later r,C.eP,C.ew,C.eK,C.eb,C.eo,C.eE,C.lo,bh,tb2,fun b h1=>?_⟩
 obtain ⟨_,f1,f2,f3,f4,f5⟩:=C.fp b h1
 have ex:Ob s.heap b:=by
  rcases h1 with rfl | h
  ·exact k.gen.there
  ·exact (k.ob b h.1).2
 obtain ⟨o,e,_⟩:=ex
 exact ⟨(pin2 b o h1 e).2,f1,f2,f3,f4,f5⟩
end
section
variable {X:Cx} {G:Gst} {pins:List (Addr×Obj)} {its:List D} {O:Ow} {T B H:Hp} {σ:L2.St} {s s1:Shared}
end
theorem tX{P:Program}{w:World}{outer:List Env}{H:Hp}{s:Shared}{E:XK}{u:Value}{s':Shared}(h:L2N.CX P w outer H s E u s'){g:Array GenState}(hg:AllBare s'.gens→AllBare g):L2N.CX P w outer H s E u { s' with gens:=g }:=by
 obtain ⟨a,B,H',cls,d,h1,h2,h3,h4,h5,h6,h7,h8⟩:=h
 exact ⟨a,B,H',cls,d,h1,h2,h3,h4,h5,h6,hg h7,h8⟩
section
variable {X:Cx} {G:Gst} {pins:List (Addr×Obj)} {its:List D} {O:Ow} {T B H:Hp} {σ:L2.St} {s s1:Shared}
theorem Cons.asleep(C:Cons X G pins its O T B H σ s):Inv X (pins++xb G.a O T s) σ H (Fs.asleep s):=C.pinned.grown rfl (fun _ _ z=>z) (bu C.inv.bare)
theorem Cons.after0(C:Cons X G pins its O T B H σ s)(hs:∃gs,s.gens[G.g]? =some gs∧gv gs){B2 H2:Hp}{σ2:L2.St}{s1 s2:Shared}(I2:Inv X (pins++xb G.a O T s) σ2 H2 s1)(sl:Slq s s1 s2)(fz:Fz s s2)(bh:Le B2 H2)(bb:∀b o,B b=some o→B2 b=some o)(lw:∀a,LD s a→a<s.heap.objs.size):
  Cons X G pins its O T B2 H2 σ2 s2∧∃gs,s2.gens[G.g]? =some gs∧gv gs:=by
 obtain ⟨gs,e,h⟩:=hs
 have z:=sl.slp e h
 refine ⟨C.kept (sl.inv I2) fz bh bb (fun i x _ q r=>?_) (fun i a q _ _=>sl.ldat q) fun a q=>Nat.lt_of_lt_of_le (lw a (sl.ld q)) fz.hp,gs,z,h⟩
 rcases r with r | r
 ·subst r
  rw [e] at q
  cases q
  exact z
 ·exact sl.slp q r
end
theorem ExtB.mem{K:Frag}{B H B' H':Hp}{μ:List Addr}{m:Me}(ex:ExtB B H B' H')(M:MemOk K B μ m H):MemOk K B' μ m H':=by
 refine ⟨ex.le,M.len,fun a l=>?_,fun n a x e1 e2 e3=>OO.to (fun b o z=>ex.bb b o z) (List.prefix_refl _) (fun o z=>ex.hh a o z) (M.at_ n a x e1 e2 e3),M.inj,fun a ps e=>?_⟩
 ·have z:=M.there l
  cases q:H a with
  | none=>exact absurd q z
  | some o=>exact ex.nb a o q (M.off a l)
 ·cases q:B a with
  | some u=>
   have z:=ex.bb a u q
   rw [e] at z
   cases z
   exact M.ntb a ps q
  | none=>rcases ex.tu a _ q e with ⟨xs,z⟩ | ⟨xs,z⟩ <;> cases z
theorem ExtB.stp{B H B' H':Hp}{μ:List Addr}{m:Me}(ex:ExtB B H B' H'):Stp B μ m H B' μ m H':=
 ⟨fun b o z=>ex.bb b o z,List.prefix_refl _,fun a o _ e _=>ex.hh a o e,fun a o n e _ b=>⟨ex.nb a o e b,n⟩⟩
abbrev SpG:=List W→List D→Option Er→Prop
def ErOk(K:Frag)(oe:Option Er):Prop:=∀er,oe=some er→(∀B fvs,RvF K B fvs er.fs→RvF K (fun _=>none) fvs er.fs)∧PySem.W.subIn K (.ref er.C) (.type "StopIteration")=some false
theorem ErOk.none{K:Frag}:ErOk K none:=fun _ h=>nomatch h
def GMk(n:Nat)(X:Cx)(k:Nat)(pins:List (Addr×Obj))(its:List D)(oe:Option Er)(B H:Hp)(σ:L2.St)(a:Addr)(s':Shared):Prop:=∀A':Around,Room k A'→A'.frames=X.A.frames→∃(G:Gst) (O:Ow) (T:Hp),G.a=a∧G.A=A'∧Cons X G pins its O T B H σ s'∧G.oe=oe∧n≤G.g
structure GnOk (P:Program) (w:World) (K:Frag) (mg:Str→Option Value) (base:Heap) (k:Nat) (f:Addr) (fd:FuncData) (ps:List Str) (sp:SpG):Prop where
 len:∀ws its oe,sp ws its oe→ws.length=ps.length
 run:∀(X:Cx),X.prog=P→X.w=w→X.K=K→X.mg=mg→X.base=base→∀(pins:List (Addr×Obj)) (σ:L2.St) (H:Hp) (s:Shared) (B:Hp) (μ:List Addr) (m:Me) (args:Args) (us:List Value) (vs:List V) (ws:List W) (its:List D) (oe:Option Er),
  Room k X.A→Inv X pins σ H s→MemOk X.K B μ m H→BindsTo s fd args (ps.zip us)→Vals vs us→RWs X.K B μ vs ws→sp ws its oe→(∀a,LD s a→a<s.heap.objs.size)→codeAny (M0 P w) X.A (.call (.ref f) args) (fun r s'=>∃a,r=.ok (.ret (.ref a))∧GMk s.gens.size X k pins its oe B H σ a s'∧Kp s s') s
theorem GnOk.mono{P:Program}{w:World}{K:Frag}{mg:Str→Option Value}{base:Heap}{j k:Nat}{f:Addr}{fd:FuncData}{ps:List Str}{sp:SpG}(F:GnOk P w K mg base j f fd ps sp)(h:j≤k):GnOk P w K mg base k f fd ps sp:=
 ⟨F.len,fun X e1 e2 e3 e4 e5 pins σ H s B μ m args us vs ws its oe hr I M hb hv hw hs lw=>codeAny_mono (F.run X e1 e2 e3 e4 e5 pins σ H s B μ m args us vs ws its oe (hr.mono h) I M hb hv hw hs lw) fun r s' ⟨a,e,q,kp⟩=>⟨a,e,fun A' hA=>q A' (hA.mono h),kp⟩⟩
theorem RWs.lt{K:Frag}{B:Hp}{μ:List Addr}:∀{vs:List V} {ws:List W},RWs K B μ vs ws→(∀w∈ws,∃d,w=.v d∧LTD d)→RWs K (ltB B) [] vs ws
 | _,_,.nil,_=>.nil
 | _,_,.cons (w:=x) h t,l=>by
  obtain ⟨d,rfl,ld⟩:=l x List.mem_cons_self
  exact .cons (RW.d (Rv.lt h ld)) (t.lt fun w hw=>l w (List.mem_cons_of_mem _ hw))
section
variable {G:Gst} {O:Ow} {T:Hp} {sw s:Shared} {pins ps:List (Addr×Obj)} {B Bk H:Hp} {en:En} {σ:L2.St}
theorem Run.same(R:Run G O T sw pins B en σ H s){E:XK}{s':Shared}(I:Inv (Gx (G.se E) sw (Zt G.n0 T O sw.heap)) pins σ H s')(fz:Fz sw s'):Run G O T sw pins B en σ H s':=
 ⟨Inv.se (G:=G) (E:=E) (E':=G.E) I,R.rel,fz,R.bt,R.tb,R.pm,R.ol,R.ob,R.nc,R.gw,R.ga,R.an,R.lw⟩
theorem Run.pin(R:Run G O T sw pins B en σ H s){fp:List Addr}(h:∀b∈fp,FpOk (Gx G sw (Zt G.n0 T O sw.heap)) pins H b)(ho:∀b∈fp,Ob s.heap b):Run G O T sw (pins++pinsAt fp s.heap) B en σ H s:=by
 refine ⟨R.inv.pinned h ho,R.rel,R.fz,R.bt,R.tb,fun p hp=>?_,R.ol,R.ob,R.nc,R.gw,R.ga,R.an,R.lw⟩
 rw [←List.append_assoc] at hp
 rcases List.mem_append.mp hp with z | z
 ·exact R.pm p z
 ·have q:=(of_pinsAt z).1
  obtain ⟨_,_,_,f3,_⟩:=h p.1 q
  rcases f3 with f3 | f3
  ·cases f3
  ·have e:(trH G.n0 sw.heap).objs.size≤p.1:=f3
   rw [qG] at e
   have:=R.n0w
   omega
theorem Run.fp(R:Run G O T sw (pins++ps) B en σ H s){p:Addr×Obj}(hp:p∈ps)(ne:∀q∈G.pn++pins,q.1≠p.1):FpOk (Gx G sw (Zt G.n0 T O sw.heap)) pins H p.1∧s.heap.get? p.1=some p.2:=by
 have hm:p∈G.pn++(pins++ps):=List.mem_append_right _ (List.mem_append_right _ hp)
 obtain ⟨h1,h2,h3,h4,h5⟩:=R.inv.pin p hm
 refine ⟨⟨h2,h3,h4,.inr ?_,fun x c e=>?_,ne⟩,h1⟩
 ·show (trH G.n0 sw.heap).objs.size≤p.1
  rw [qG]
  exact Nat.le_trans (Nat.min_le_left _ _) (R.pm p hm)
 ·have z:=R.nc x
  rw [show G.env.cells.lookup x=some c from e] at z
  cases z
variable {c cF:Code} {fs:List Frame} {K:Flow→Sem PySem.Fin} {J:Value→Sem PySem.Fin} {gd:Bool→Bool} {lv:List Value→List Value} {l:List Value} {p:Pos} {N:NG}
end
section
variable {G:Gst} {tg iter:Expr} {body:List Stmt} {te:DTE} {g:DTG} {is:List Nat} {tb:DGT} {pos:Pos}
end
section
variable {M:Model} {A:Around} {Φ:End→Shared→Prop} {c:Code} {fs:List Frame} {s:Shared}
end
section
variable {M:Model} {A:Around} {E:Value→Shared→Prop} {s:Shared} {a:Addr} {g:Nat} {Q:Unit→Shared→Prop}
end
section
variable {X:Cx} {G:Gst} {pins:List (Addr×Obj)} {its:List D} {O:Ow} {T B H:Hp} {σ:L2.St} {s s1:Shared} {A:Around}
theorem Cons.kin(C:Cons X G pins its O T B H σ s){x:Value}
  (cx:L2N.CX G.P G.w G.outer (Zt G.n0 T O (s.setGen G.g .running).heap) { (s.setGen G.g .running) with heap:=trH G.n0 (s.setGen G.g .running).heap } (fun c d H=>Le T H∧G.E c d H) x s1):X.K.In s1.heap:=by
 refine C.inv.ok.mod.kin.keeps fun b o e=>?_
 obtain ⟨a,Bg,H'',cls,d,rfl,fl,hok,ub,na,os,ag,hT,hE'⟩:=cx
 obtain ⟨e1,e2⟩:=C.inv.bs b o e
 have nT:=C.nt e2
 have nfr:b∉frs X.stack:=fun hb=>by
  rcases List.mem_cons.mp (C.inv.stkSub b hb) with z | z
  ·have z4:=Heap.lt_size e
   rw [z] at z4
   exact absurd (Nat.lt_of_lt_of_le z4 (Nat.le_trans C.inv.ok.bsz C.inv.ok.above)) (Nat.lt_irrefl _)
  ·exact C.inv.ok.nofr e z
 by_cases l:b<G.n0
 ·exact fl.1 b o (ub.keep b o (jG.mpr ⟨l,e1⟩) (pd nT (.inl l)) (by rw [C.eo]; exact nfr))
 ·refine fl.1 b o (hok b _ (ub.frzs b o _ (mz nT (Nat.le_of_not_lt l) (fun z=>?_) e1))).1
  obtain ⟨_,f1,f2,f3,f4,f5⟩:=C.fp b (.inr ⟨z,nT⟩)
  rcases f3 with f3 | f3
  ·exact C.inv.ok.noex b o e f3
  ·have z3:=C.inv.ok.bsz
   have z4:=Heap.lt_size e
   have z5:X.s_0.heap.objs.size≤b:=f3
   have z6:(b:Nat)<X.base.objs.size:=z4
   exact absurd (Nat.lt_of_lt_of_le z6 (Nat.le_trans z3 z5)) (Nat.lt_irrefl _)
end
section
variable {G Gi:Gst} {O Oi:Ow} {T Ti:Hp} {sw s s1:Shared} {pins:List (Addr×Obj)} {B B' H H':Hp} {en:En} {σ:L2.St} {its:List D}
theorem Run.turn(R:Run G O T sw pins B en σ H s)(ex:ExtB B H B' H'){E:XK}(I:Inv (Gx (G.se E) sw (Zt G.n0 T O sw.heap)) pins σ H' s1)(fz:Fz sw s1):Run G O T sw pins B' en σ H' s1:=by
 refine ⟨Inv.se (G:=G) (E:=E) (E':=G.E) I,⟨ex.mem R.rel.mem,R.rel.len,fun i x e=>?_⟩,fz,fun b o e=>?_,fun b o e=>ex.bb b o (R.tb b o e),R.pm,R.ol,R.ob,R.nc,R.gw,R.ga,R.an,R.lw⟩
 ·obtain ⟨v,h1,h2⟩:=R.rel.env i x e
  exact ⟨v,h1,h2.to (fun b o z=>ex.bb b o z) (List.prefix_refl _)⟩
 ·cases q:B b with
  | some u=>
   have z:=ex.bb b u q
   rw [e] at z
   cases z
   exact R.bt b o q
  | none=>exact ex.tu b o q e
theorem Cons.se{Z:Hp}{E:XK}(C:Cons (Gx G sw Z) Gi pins its Oi Ti B H σ s):Cons (Gx (G.se E) sw Z) Gi pins its Oi Ti B H σ s:=
 ⟨Inv.se (G:=G) (E:=G.E) (E':=E) C.inv,C.gn,C.eP,C.ew,C.eK,C.eb,C.eo,C.eE,C.lo,C.bh,C.tb,C.fp⟩
end
abbrev DGE:=En→Me→(List D→Option Er→Me→Prop)→QX→Prop
structure GE (X:Cx) (E:XK) (k:Nat) (e:Expr) (t:DGE):Prop where
 run:∀(pins:List (Addr×Obj)) (B:Hp) (μ:List Addr) (en:En) (m:Me) (σ:L2.St) (H:Hp) (s:Shared) (Q:List D→Option Er→Me→Prop) (Qx:QX),Inv X pins σ H s→Rel X.K B μ en m σ H→ExOf X.K E B μ m H Qx→(∀a,LD s a→a<s.heap.objs.size)→t en m Q Qx→
  wpAny (M0 X.prog X.w) X.A (eval e X.env) (fun v s'=>∃a B' μ' m' H' its oe,v=.ref a∧Stp B μ m H B' μ' m' H'∧Rel X.K B' μ' en m' σ H'∧GMk s.gens.size X k pins its oe B' H' σ a s'∧Kp s s'∧Q its oe m') (fun e s'=>∃s1,X.xe e s1∧Slq s s1 s') s
theorem Cons.ltB{X:Cx}{G:Gst}{pins:List (Addr×Obj)}{its:List D}{O:Ow}{T B H:Hp}{σ:L2.St}{s:Shared}(C:Cons X G pins its O T B H σ s):Cons X G pins its O T (Fs.ltB B) H σ s:=by
 obtain ⟨gs,k⟩:=C.at_
 refine ⟨C.inv,C.gn,C.eP,C.ew,C.eK,C.eb,C.eo,C.eE,C.lo,fun b o e=>C.bh b o (jH e).1,fun b o e=>?_,C.fp⟩
 have z:=C.tb b o e
 rcases k.ton b o e with ⟨xs,rfl⟩ | ⟨xs,rfl⟩
 ·exact lJ z
 ·exact lK z
abbrev sxX(X:Cx)(E:XK):Cx:={ X with xe:=fun e s'=>wpAny (model X.prog X.w) X.A (leaving X.env e) (fun _ s''=>L2N.CX X.prog X.w X.outer X.H_0 X.s_0 E e s'') (fun e' s''=>L2N.CX X.prog X.w X.outer X.H_0 X.s_0 E e' s'') s' }
section
variable {X:Cx} {E:XK} {pins:List (Addr×Obj)} {σ:L2.St} {H:Hp} {s:Shared}
theorem toSx(I:Inv X pins σ H s):Inv (sxX X E) pins σ H s:=
 ⟨⟨I.ok.mod,I.ok.kind,I.ok.glob,I.ok.blt,I.ok.above,I.ok.inj,I.ok.has,I.ok.cab,I.ok.hd,I.ok.frames,I.ok.stk,I.ok.exf,I.ok.bs,I.ok.bsz,I.ok.noex,I.ok.exfs,I.ok.funs,I.ok.frf⟩,I.os,I.bare,I.base,I.loc,I.cell,I.free,I.freeC,I.pin,I.hok,I.len⟩
theorem k7(I:Inv (sxX X E) pins σ H s):Inv X pins σ H s:=
 ⟨⟨I.ok.mod,I.ok.kind,I.ok.glob,I.ok.blt,I.ok.above,I.ok.inj,I.ok.has,I.ok.cab,I.ok.hd,I.ok.frames,I.ok.stk,I.ok.exf,I.ok.bs,I.ok.bsz,I.ok.noex,I.ok.exfs,I.ok.funs,I.ok.frf⟩,I.os,I.bare,I.base,I.loc,I.cell,I.free,I.freeC,I.pin,I.hok,I.len⟩
def Gok(H:Hp)(s:Shared):Prop:=∀a,LD s a→∃o u,H a=some (.frz o u)∧o.genNumber?.isSome=true
theorem Gok.ld{s':Shared}(g:Gok H s)(h:∀a,LD s' a→LD s a):Gok H s':=fun a z=>g a (h a z)
theorem Gok.sl{s0 s':Shared}(g:Gok H s)(sl:Slq s s0 s'):Gok H s':=g.ld fun _ h=>sl.ld h
theorem Gok.stp{K:Frag}{B B':Hp}{μ μ':List Addr}{m m':Me}{H':Hp}(g:Gok H s)(M:MemOk K B μ m H)(st:Stp B μ m H B' μ' m' H'):Gok H' s:=fun a z=>by
 obtain ⟨o,u,e,h⟩:=g a z
 refine ⟨o,u,st.out a _ (fun l=>?_) e (fun ps z=>nomatch z),h⟩
 obtain ⟨n,mo,e1,e2,e3⟩:=l
 have q:=M.at_ n a mo e1 e2 e3
 cases mo with
 | lst xs=>obtain ⟨vs,q,_⟩:=q; rw [e] at q; cases q
 | dic xs=>obtain ⟨vs,q,_⟩:=q; rw [e] at q; cases q
 | ins C fs=>obtain ⟨dx,vs,q,_⟩:=q; rw [e] at q; cases q
 | bag=>obtain ⟨l,i,r,sd,ns,q,_⟩:=q; rw [e] at q; cases q
 | tab p q'=>obtain ⟨_,ps,q,_⟩:=q; rw [e] at q; cases q
 | gone=>cases e3
theorem Gok.lw(g:Gok H s)(I:Inv X pins σ H s):∀a,LD s a→a<s.heap.objs.size:=fun a z=>by
 obtain ⟨o,u,e,_⟩:=g a z
 exact Heap.lt_size (I.hok a _ e).1
abbrev EG(E:XK)(s:Shared):XK:=fun c d H'=>E c d H'∧Gok H' s
theorem pf{P:Program}{w:World}{outer:List Env}{E E':XK}(h:∀c d H,E c d H→E' c d H){u:Value}{s':Shared}(x:L2N.CX P w outer H s E u s'):L2N.CX P w outer H s E' u s':=by
 obtain ⟨a,B,H',cls,d,h1,h2,h3,h4,h5,h6,h7,h8⟩:=x
 exact ⟨a,B,H',cls,d,h1,h2,h3,h4,h5,h6,h7,h _ _ _ h8⟩
theorem lL{E':XK}(h:∀c d H,E c d H→E' c d H){e:Value}(x:(sxX X E).xe e s):(sxX X E').xe e s:=wpAny_mono x (fun _ _ z=>pf h z) fun _ _ z=>pf h z
def UX(X:Cx)(E:XK)(e:Value)(s':Shared):Prop:=∃sx s0,(sxX X (EG E s')).xe e s0∧Slq sx s0 s'
theorem fx{α:Type}{t:Sem α}{P:α→Shared→Prop}(hb:AllBare s.gens)(h:wpAny (model X.prog X.w) X.A t P (sxX X (EG E s)).xe (asleep s)):wpAny (M0 X.prog X.w) X.A t (fun a s'=>∃s0,P a s0∧Slq s s0 s') (UX X E) s:=
 wpAny_mono (a4 hb h) (fun _ _ z=>z) fun e s' ⟨s0,hx,sl⟩=>⟨s,s0,lL (fun c d H' h=>⟨h.1,h.2.sl sl⟩) hx,sl⟩
def UQ(X:Cx)(pins:List (Addr×Obj))(B:Hp)(μ:List Addr)(en:En)(m:Me)(σ:L2.St)(H:Hp)(Q:W→Me→Prop)(v:Value)(s':Shared):Prop:=
 ∃x w B' μ' m' H',Inv X pins σ H' s'∧Gok H' s'∧RelV x v∧RW X.K B' μ' x w∧Stp B μ m H B' μ' m' H'∧Rel X.K B' μ' en m' σ H'∧Q w m'
structure UE (X:Cx) (E:XK) (e:Expr) (T:DTE):Prop where
 run:∀pins B μ en m σ H s Q Qx,Inv X pins σ H s→Gok H s→Rel X.K B μ en m σ H→ExOf X.K E B μ m H Qx→T en m Q Qx→wpAny (M0 X.prog X.w) X.A (eval e X.env) (UQ X pins B μ en m σ H Q) (UX X E) s
structure UT (X:Cx) (E:XK) (e:Expr) (T:DTT):Prop where
 run:∀pins B μ en m σ H s Q Qx,Inv X pins σ H s→Gok H s→Rel X.K B μ en m σ H→ExOf X.K E B μ m H Qx→T en m Q Qx→
  wpAny (M0 X.prog X.w) X.A (isTrue e X.env (eval e X.env)) (fun b s'=>∃B' μ' m' H',Inv X pins σ H' s'∧Gok H' s'∧Stp B μ m H B' μ' m' H'∧Rel X.K B' μ' en m' σ H'∧Q b m') (UX X E) s
structure UA (X:Cx) (E:XK) (es:List Expr) (T:DTA):Prop where
 run:∀pos pins B μ en m σ H s Q Qx,Inv X pins σ H s→Gok H s→Rel X.K B μ en m σ H→ExOf X.K E B μ m H Qx→T en m Q Qx→
  wpAny (M0 X.prog X.w) X.A (spliced (backTo pos (starEach es X.env))) (fun us s'=>∃vs ws B' μ' m' H',Inv X pins σ H' s'∧Gok H' s'∧Vals vs us∧RWs X.K B' μ' vs ws∧Stp B μ m H B' μ' m' H'∧Rel X.K B' μ' en m' σ H'∧Q ws m') (UX X E) s
theorem vu{Qx:QX}{B:Hp}{μ:List Addr}{m:Me}{K:Frag}(g:Gok H s)(M:MemOk K B μ m H)(hx:ExOf K E B μ m H Qx):ExOf K (EG E s) B μ m H Qx:=
 fun B' μ' m' H' er dd fvs st M' hd r q=>⟨hx B' μ' m' H' er dd fvs st M' hd r q,g.stp M st⟩
variable {e:Expr} {es:List Expr} {T te:DTE} {ta:DTA}
theorem ue(h:∀E',DE (sxX X E') E' e T):UE X E e T:=by
 refine ⟨fun pins B μ en m σ H s Q Qx I g R hx ht=>?_⟩
 obtain ⟨t,p,k⟩:=(h (EG E s)).ex
 have w:=k B μ en m σ H Q Qx (fun v H'=>∃B' μ' m' w,Stp B μ m H B' μ' m' H'∧Rel X.K B' μ' en m' σ H'∧RW X.K B' μ' v w∧Q w m') R (vu g R.mem hx) ht fun B' μ' m' H' x v st r rw q=>⟨B',μ',m',x,st,r,rw,q⟩
 refine wpAny_mono (fx I.bare (p.run pins (asleep s) σ H _ (toSx I.asl) w)) (fun v s' ⟨s0,⟨x,H',I',rv,B',μ',m',w,st,r,rw,q⟩,sl⟩=>?_) fun _ _ z=>z
 exact ⟨x,w,B',μ',m',H',sl.inv (k7 I'),(g.stp R.mem st).sl sl,rv,rw,st,r,q⟩
theorem ph:UA X E [] tN:=⟨fun pos pins B μ en m σ H s Q Qx I g R hx ht=>Calls.spliced_nil ⟨[],[],B,μ,m,H,I,g,.nil,.nil,.refl,R,ht⟩⟩
theorem eV(he:UE X E e te)(hr:UA X E es ta)(hs:starEach (e::es) X.env=(false,eval e X.env)::starEach es X.env:=by rfl):UA X E (e::es) (tCn te ta):=by
 refine ⟨fun pos pins B μ en m σ H s Q Qx I g R hx ht=>?_⟩
 rw [hs]
 show wpAny _ _ (spliced ((false,eval e X.env)::backTo pos (starEach es X.env))) _ _ s
 refine Calls.spliced_cons (thn (he.run pins B μ en m σ H s _ Qx I g R hx ht) fun v s1 ⟨x,w,B1,μ1,m1,H1,I1,g1,rv,rw,st1,R1,q1⟩=>?_)
 refine thn (hr.run pos pins B1 μ1 en m1 σ H1 s1 _ Qx I1 g1 R1 (hx.step st1 R1.mem R.mem.le) q1) fun us s2 ⟨vs,ws,B2,μ2,m2,H2,I2,g2,rvs,rws,st2,R2,q2⟩=>?_
 exact ⟨x::vs,w::ws,B2,μ2,m2,H2,I2,g2,.cons rv rvs,.cons (rw.to st2.same st2.pre) rws,st1.trans R1.mem st2 R.mem.le,R2,q2⟩
end
section
variable {X:Cx} {E:XK} {pins:List (Addr×Obj)} {σ:L2.St} {H H2:Hp} {s s2:Shared} {B B2:Hp} {μ μ2:List Addr} {en:En} {m m2:Me} {Q:W→Me→Prop} {Qx:QX}
theorem AQ{t:Sem Value}(I2:Inv X pins σ H2 s2)(g2:Gok H2 s2)(M:MemOk X.K B μ m H)(st2:Stp B μ m H B2 μ2 m2 H2)(R2:Rel X.K B2 μ2 en m2 σ H2)
  (h:wpAny (model X.prog X.w) X.A t (EP (sxX X (EG E s2)) pins σ fun z H3=>∃B3 μ3 m3 w,Stp B2 μ2 m2 H2 B3 μ3 m3 H3∧MemOk X.K B3 μ3 m3 H3∧RW X.K B3 μ3 z w∧Q w m3) (sxX X (EG E s2)).xe (asleep s2)):wpAny (M0 X.prog X.w) X.A t (UQ X pins B μ en m σ H Q) (UX X E) s2:=by
 refine wpAny_mono (fx I2.bare h) (fun v s3 ⟨s4,⟨z,H3,I3,rv,B3,μ3,m3,w,st3,M3,rz,q3⟩,sl3⟩=>?_) fun _ _ z=>z
 exact ⟨z,w,B3,μ3,m3,H3,sl3.inv (k7 I3),(g2.stp R2.mem st3).sl sl3,rv,rz,st2.trans R2.mem st3 M.le,R2.stp st3 M3,q3⟩
theorem mC{e:Expr}{u:Value}{R:Value→Shared→Prop}(I:Inv X pins σ H s)(g:Gok H s)(h:wpAny (model X.prog X.w) X.A (eval e X.env) (fun v s'=>v=u∧s'=asleep s) (sxX X (EG E s)).xe (asleep s))(hk:∀s',Inv X pins σ H s'→Gok H s'→R u s'):
  wpAny (M0 X.prog X.w) X.A (eval e X.env) R (UX X E) s:=by
 refine wpAny_mono (fx I.bare h) (fun v s' ⟨s0,⟨e1,e2⟩,sl⟩=>?_) fun _ _ z=>z
 subst e1 e2
 exact hk s' (sl.inv I.asl) (g.sl sl)
variable {x:Str} {e a b c:Expr} {es rest:List Expr} {p pos:Pos} {ta tb te:DTE} {tA:DTA} {tT tU:DTT} {id:String} {r:List V→Hp→VK→Prop} {o:DCa}
theorem tY{k:Nat}{ps:List Str}{sp:SpD}(hs:X.stack=X.env::X.outer)(hf:X.env.frame=some X.env.locals)(hex:X.ex=[])(G:Gd X.prog X.w X.K X.mg X.base (L2N.CX X.prog X.w) k x ps (lift X.K sp))(hr:Room k X.A)(ha:UA X E (e::es) tA)
  (hg:Gl X x:=by rfl) (hdb:(x == ("__debug__":Str))=false:=by decide) (he:starEach (e::es) X.env=(false,eval e X.env)::starEach es X.env:=by rfl) (hpl:(backTo pos (starEach es X.env)).any (·.1)=false:=by rfl):UE X E (.Call (.Name x p) (e::es) [] pos) (l9 sp tA):=by
 refine ⟨fun pins B μ en m σ H s Q Qx I g R hx ht=>?_⟩
 obtain ⟨f,fd,hm,hk,hb,F⟩:=G.ex
 refine wpAny_Call_Name_kw (mC I g (ld_glob I.asl hg hm ⟨rfl,rfl⟩ hdb) fun s1 I1 g1=>?_)
 refine PySem.W.callWith_K (h₀:=X.base) I.ok.mod.kin hk (thn (ha.run pos pins B μ en m σ H s1 _ Qx I1 g1 R hx ht) fun us s2 ⟨vs,ws,B2,μ2,m2,H2,I2,g2,rvs,rws,st2,R2,q2⟩=>⟨I2.kIn,?_⟩) he hpl
 refine AQ I2 g2 R.mem st2 R2 (run_fn (X:=sxX X (EG E s2)) (E:=EG E s2) (dvs:=[]) F hr hb .nil (aw (L2N.takes_of hs hf hex rfl)) (toSx I2.asl) rvs ?_)
 rw [List.append_nil]
 exact ⟨B2,μ2,m2,ws,_,Qx,R2.mem,rws,q2,vu g2 R2.mem (hx.step st2 R2.mem R.mem.le),fun B3 μ3 m3 H3 w z st3 M3 rz q3=>⟨B3,μ3,m3,w,st3,M3,rz,q3⟩⟩
theorem CN{op:CmpOp}{o:DOp}(ho:∀E',OpD (sxX X E') (compareOp op) o)(ha:UE X E a ta)(hb:UE X E b tb)(hm:behindInMarks op b=false):UE X E (.Compare a [op] [b] pos) (tO2 o ta tb):=by
 refine ⟨fun pins B μ en m σ H s Q Qx I g R hx ht=>?_⟩
 refine wpAny_Compare1 (thn (ha.run pins B μ en m σ H s _ Qx I g R hx ht) fun v s1 ⟨y,w,B1,μ1,m1,H1,I1,g1,rv,rw,st1,R1,q1⟩=>?_) hm
 refine thn (hb.run pins B1 μ1 en m1 σ H1 s1 _ Qx I1 g1 R1 (hx.step st1 R1.mem R.mem.le) q1) fun u s2 ⟨z,w2,B2,μ2,m2,H2,I2,g2,rv2,rw2,st2,R2,q2⟩=>?_
 have st:=st1.trans R1.mem st2 R.mem.le
 obtain ⟨r,h1,h2⟩:=ho (EG E s2)
 exact AQ I2 g2 R.mem st R2 (h1 pins (asleep s2) σ H2 y z v u _ (toSx I2.asl) rv rv2 (h2 B2 μ2 m2 H2 w w2 y z _ _ R2.mem (rw.to st2.same st2.pre) rw2 q2 fun B3 H3 d z st3 M3 rz q3=>⟨B3,μ2,m2,.v d,st3,M3,RW.d rz,q3⟩))
theorem xg(h:UE X E e te)(he:∀whole,isTrue e X.env whole=(do let v ←whole; standAt e.pos; holding [v] (truthy v)):=by intro _; rfl):UT X E e (tBl te):=by
 refine ⟨fun pins B μ en m σ H s Q Qx I g R hx ht=>?_⟩
 refine PyProof.Rows.isTrue_plain (thn (h.run pins B μ en m σ H s _ Qx I g R hx ht) fun v s1 ⟨y,w,B1,μ1,m1,H1,I1,g1,rv,rw,st1,R1,q1⟩=>?_) (he _)
 obtain ⟨b,rfl,rfl,q⟩:=n8 rw q1
 cases rv
 exact wpAny_truthy_bool ⟨B1,μ1,m1,H1,I1,g1,st1,R1,q⟩
theorem xh(ha:UT X E a tT):UT X E (.UnaryOp .Not a pos) (wn tT):=⟨fun pins B μ en m σ H s Q Qx I g R hx ht=>wpAny_isTrue_Not (ha.run pins B μ en m σ H s _ Qx I g R hx ht)⟩
structure UW (X:Cx) (E:XK) (op:BoolOp) (vs:List Expr) (T:DTT):Prop where
 run:∀pins B μ en m σ H s Q Qx,Inv X pins σ H s→Gok H s→Rel X.K B μ en m σ H→ExOf X.K E B μ m H Qx→T en m Q Qx→
  wpAny (M0 X.prog X.w) X.A (allTrue op vs X.env) (fun b s'=>∃B' μ' m' H',Inv X pins σ H' s'∧Gok H' s'∧Stp B μ m H B' μ' m' H'∧Rel X.K B' μ' en m' σ H'∧Q b m') (UX X E) s
theorem AR(h:UA X E es tA):UE X E (.List es pos) (tLs tA):=by
 refine ⟨fun pins B μ en m σ H s Q Qx I g R hx ht=>?_⟩
 refine wpAny_List (thn (h.run pos pins B μ en m σ H s _ Qx I g R hx ht) fun us s1 ⟨vs,ws,B1,μ1,m1,H1,I1,g1,rv,rw,st1,R1,q1⟩=>?_)
 obtain ⟨ds,rl,hz,q⟩:=l7 rw q1
 refine ⟨by rw [←rv.length,rl.len]; exact hz,?_⟩
 have np:H1 s1.heap.objs.size=none:=I1.hok.fresh (Nat.le_refl _)
 have sl:=Stp.laid R1.mem np (o:=.lst vs)
 have M1:=R1.mem.laid np (o:=.lst vs)
 refine ⟨.ref s1.heap.objs.size,.v (.lst ds),_,μ1,m1,_,I1.laid (o:=.lst vs) (t':=s1.toks) (fun b u e=>Heap.get?_push_of_some _ e) (Nat.le_refl _) ⟨by rw [rl.len]; exact hz,us,0,rv,Heap.get?_push_size _ rfl⟩,(g1.stp R1.mem sl).ld fun a ⟨i,h⟩=>⟨i,h.of rfl⟩,rfl,RW.d (.lst upd_same (rl.to sl.same)),st1.trans R1.mem sl R.mem.le,R1.stp sl M1,q⟩
end
def SPt(X:Cx)(pins:List (Addr×Obj))(B:Hp)(μ:List Addr)(m:Me)(H:Hp)(N:Dn)(f:Flow)(s':Shared):Prop:=match f with
 | .next=>∃σ' B' μ' en' m' H',Inv X pins σ' H' s'∧Gok H' s'∧Stp B μ m H B' μ' m' H'∧Rel X.K B' μ' en' m' σ' H'∧N.nx en' m'
 | .brk=>∃σ' B' μ' en' m' H',Inv X pins σ' H' s'∧Gok H' s'∧Stp B μ m H B' μ' m' H'∧Rel X.K B' μ' en' m' σ' H'∧N.bk en' m'
 | .cont=>∃σ' B' μ' en' m' H',Inv X pins σ' H' s'∧Gok H' s'∧Stp B μ m H B' μ' m' H'∧Rel X.K B' μ' en' m' σ' H'∧N.ct en' m'
 | .ret v=>∃x w σ' B' μ' m' H',Inv X pins σ' H' s'∧Gok H' s'∧RelV x v∧RW X.K B' μ' x w∧Stp B μ m H B' μ' m' H'∧MemOk X.K B' μ' m' H'∧N.rt w m'
structure US (X:Cx) (E:XK) (st:Stmt) (T:DTS):Prop where
 run:∀pins B μ en m σ H s N,Inv X pins σ H s→Gok H s→Rel X.K B μ en m σ H→ExOf X.K E B μ m H N.xc→T en m N→wpAny (M0 X.prog X.w) X.A (exec st X.env) (SPt X pins B μ m H N) (UX X E) s
structure USs (X:Cx) (E:XK) (st:List Stmt) (T:DTS):Prop where
 run:∀pins B μ en m σ H s N,Inv X pins σ H s→Gok H s→Rel X.K B μ en m σ H→ExOf X.K E B μ m H N.xc→T en m N→wpAny (M0 X.prog X.w) X.A (execs st X.env) (SPt X pins B μ m H N) (UX X E) s
section
variable {X:Cx} {E:XK} {pins:List (Addr×Obj)} {B B1:Hp} {μ μ1:List Addr} {en:En} {m m1:Me} {σ:L2.St} {H H1:Hp} {s s':Shared} {N:Dn} {K0:Hp}
theorem SPt.back(M:MemOk X.K B μ m H)(st:Stp B μ m H B1 μ1 m1 H1)(M1:MemOk X.K B1 μ1 m1 H1){f:Flow}(h:SPt X pins B1 μ1 m1 H1 N f s'):SPt X pins B μ m H N f s':=by
 cases f with
 | next=>obtain ⟨σ',B',μ',en',m',H',a,b,c,d,e⟩:=h; exact ⟨σ',B',μ',en',m',H',a,b,st.trans M1 c M.le,d,e⟩
 | brk=>obtain ⟨σ',B',μ',en',m',H',a,b,c,d,e⟩:=h; exact ⟨σ',B',μ',en',m',H',a,b,st.trans M1 c M.le,d,e⟩
 | cont=>obtain ⟨σ',B',μ',en',m',H',a,b,c,d,e⟩:=h; exact ⟨σ',B',μ',en',m',H',a,b,st.trans M1 c M.le,d,e⟩
 | ret v=>obtain ⟨x,w,σ',B',μ',m',H',a,b,r1,r2,c,d,e⟩:=h; exact ⟨x,w,σ',B',μ',m',H',a,b,r1,r2,st.trans M1 c M.le,d,e⟩
variable {st:Stmt} {sts:List Stmt} {T U:DTS} {e c:Expr} {te:DTE} {tc:DTT} {pos:Pos}
theorem zw:EndsOf X.K B μ m H N (⟨fun σ' H'=>∃B' μ' en' m',Stp B μ m H B' μ' m' H'∧Rel X.K B' μ' en' m' σ' H'∧N.nx en' m',fun v H'=>∃w B' μ' m',RW X.K B' μ' v w∧Stp B μ m H B' μ' m' H'∧MemOk X.K B' μ' m' H'∧N.rt w m',
  fun σ' H'=>∃B' μ' en' m',Stp B μ m H B' μ' m' H'∧Rel X.K B' μ' en' m' σ' H'∧N.bk en' m',fun σ' H'=>∃B' μ' en' m',Stp B μ m H B' μ' m' H'∧Rel X.K B' μ' en' m' σ' H'∧N.ct en' m'⟩:Ends):=
 ⟨fun B' μ' en' m' σ' H' a b c=>⟨B',μ',en',m',a,b,c⟩,fun B' μ' m' H' x v a b c d=>⟨x,B',μ',m',c,a,b,d⟩,fun B' μ' en' m' σ' H' a b c=>⟨B',μ',en',m',a,b,c⟩,fun B' μ' en' m' σ' H' a b c=>⟨B',μ',en',m',a,b,c⟩⟩
theorem us(h:∀E',DS (sxX X E') E' st T):US X E st T:=by
 refine ⟨fun pins B μ en m σ H s N I g R hx ht=>?_⟩
 obtain ⟨t,p,k⟩:=(h (EG E s)).ex
 have w:=k B μ en m σ H N _ R (vu g R.mem hx) ht (zw (X:=X))
 refine wpAny_mono (fx I.bare (p.run pins (asleep s) σ H _ (toSx I.asl) w)) (fun f s' ⟨s0,q,sl⟩=>?_) fun _ _ z=>z
 cases f with
 | next=>obtain ⟨σ',H',I',B',μ',en',m',st,r,q⟩:=q; exact ⟨σ',B',μ',en',m',H',sl.inv (k7 I'),(g.stp R.mem st).sl sl,st,r,q⟩
 | brk=>obtain ⟨σ',H',I',B',μ',en',m',st,r,q⟩:=q; exact ⟨σ',B',μ',en',m',H',sl.inv (k7 I'),(g.stp R.mem st).sl sl,st,r,q⟩
 | cont=>obtain ⟨σ',H',I',B',μ',en',m',st,r,q⟩:=q; exact ⟨σ',B',μ',en',m',H',sl.inv (k7 I'),(g.stp R.mem st).sl sl,st,r,q⟩
 | ret u=>obtain ⟨v,σ',H',I',rv,w,B',μ',m',rw,st,M',q⟩:=q; exact ⟨v,w,σ',B',μ',m',H',sl.inv (k7 I'),(g.stp R.mem st).sl sl,rv,rw,st,M',q⟩
theorem tZ:USs X E [] sNx:=⟨fun pins B μ en m σ H s N I g R hx ht=>wpAny_execs_nil ⟨σ,B,μ,en,m,H,I,g,.refl,R,ht⟩⟩
theorem bR(h1:US X E st T)(h2:USs X E sts U):USs X E (st::sts) (fv T U):=by
 refine ⟨fun pins B μ en m σ H s N I g R hx ht=>wpAny_execs_cons (thn (h1.run pins B μ en m σ H s { N with nx:=fun en1 m1=>U en1 m1 N } I g R hx ht) fun f s' q=>?_)⟩
 cases f with
 | next=>
  obtain ⟨σ',B',μ',en',m',H',I',g',st',R',q⟩:=q
  exact thn (h2.run pins B' μ' en' m' σ' H' s' N I' g' R' (hx.step st' R'.mem R.mem.le) q) fun f s2 q2=>q2.back R.mem st' R'.mem
 | brk=>exact q
 | cont=>exact q
 | ret v=>exact q
theorem f7(h1:US X E st T):USs X E [st] T:=by
 refine ⟨fun pins B μ en m σ H s N I g R hx ht=>wpAny_execs_cons (thn (h1.run pins B μ en m σ H s _ I g R hx ht) fun f s' q=>?_)⟩
 cases f with
 | next=>exact wpAny_execs_nil q
 | brk=>exact q
 | cont=>exact q
 | ret v=>exact q
theorem By(h:UE X E e te):US X E (.Return (some e) pos) (lY te):=by
 refine ⟨fun pins B μ en m σ H s N I g R hx ht=>wpAny_Return_some (thn (h.run pins B μ en m σ H s _ _ I g R hx ht) fun v s' ⟨x,w,B',μ',m',H',I',g',rv,rw,st',R',q⟩=>?_)⟩
 exact ⟨x,w,σ,B',μ',m',H',I',g',rv,rw,st',R'.mem,q⟩
theorem AS{a b:List Stmt}(hc:UT X E c tc)(ha:USs X E a T)(hb:USs X E b U):US X E (.If c a b pos) (sIf tc T U):=by
 refine ⟨fun pins B μ en m σ H s N I g R hx ht=>wpAny_If (thn (hc.run pins B μ en m σ H s _ _ I g R hx ht) fun d s1 ⟨B1,μ1,m1,H1,I1,g1,st1,R1,q1⟩=>?_)⟩
 cases d with
 | true=>exact thn (ha.run pins B1 μ1 en m1 σ H1 s1 N I1 g1 R1 (hx.step st1 R1.mem R.mem.le) q1) fun f s2 q2=>q2.back R.mem st1 R1.mem
 | false=>exact thn (hb.run pins B1 μ1 en m1 σ H1 s1 N I1 g1 R1 (hx.step st1 R1.mem R.mem.le) q1) fun f s2 q2=>q2.back R.mem st1 R1.mem
theorem AT{P:Program}{w:World}{A:Around}{E:Value→Shared→Prop}{s:Shared}{e:Expr}{v:Value}{Q:Flow→Shared→Prop}(h:Q .next s):wpAny (M0 P w) A (dropValue e pos v) Q E s:=by
 unfold dropValue
 split
 ·exact wpAny_pure h
 ·exact wpAny_bind (wpAny_standAt (wpAny_bind (wpAny_runValue (nD (by decide) entry_let_go (show wpAny _ _ (ret .none) _ _ s from wpAny_pure (wpAny_pure h))))))
 ·exact wpAny_pure h
theorem xi:PassesOwn (M0 X.prog X.w) X.A X.env (UX X E):=by
 intro e s' ⟨sx,s0,hx,sl⟩
 have own:PassesOwn (model X.prog X.w) X.A X.env (sxX X (EG E s')).xe:=passes_of (X:=sxX X (EG E s')) (K:=fun e s''=>L2N.CX X.prog X.w X.outer X.H_0 X.s_0 (EG E s') e s'') (E₁:=fun e' s''=>L2N.CX X.prog X.w X.outer X.H_0 X.s_0 (EG E s') e' s'') rfl
 have up:∀{x:Value} {s1 s2:Shared},(sxX X (EG E s')).xe x s1→Slq sx s1 s2→UX X E x s2:=fun {x s1 s2} h k=>⟨sx,s1,lL (fun c d H' z=>⟨z.1,z.2.ld fun a q=>sl.ld2 k q⟩) h,k⟩
 have came:∀{x:Value} {s1 s2:Shared},cameBackBy (model X.prog X.w) X.A X.env (sxX X (EG E s')).xe x s1→Slq sx s1 s2→cameBackBy (M0 X.prog X.w) X.A X.env (UX X E) x s2:=fun {x s1 s2} h k=>
  wpAny_mono (aU k h) (fun _ s3 ⟨s4,q,k2⟩=>up q k2) fun y s3 ⟨s4,q,k2⟩=>up q k2
 have h1:=own e s0 hx
 exact wpAny_mono (aU sl h1) (fun _ s3 ⟨s4,q,k2⟩=>came q k2) fun y s3 ⟨s4,q,k2⟩=>came q k2
end
section
variable {P:Program} {w:World} {A:Around} {s:Shared} {R:Result→Shared→Prop}
theorem qI{env:Env}(h:R (.ok .next) s):codeAny (M0 P w) A (.block [] env) R s:=by
 refine codeAny_of_tree ?_
 rw [f6 rfl]
 exact wpAny_pure h
theorem iA{target:Expr}{it:Value}{body:List Stmt}{env:Env} (h:wpAny (M0 P w) A (pyNext it) (fun r s1=>match r with
      | none=>R (.ok .next) s1
      | some v=>wpAny (M0 P w) A (letOwnedTupleGo target it v) (fun _ s2=>wpAny (M0 P w) A (assign target env v) (fun _ s3=>wpAny (M0 P w) A (execs body env) (fun f s4=>match f with
          | .next | .cont=>codeAny (M0 P w) A (.forLoop target it body [] env) R s4
          | .brk=>R (.ok .next) s4
          | .ret v=>R (.ok (.ret v)) s4) (notedBy (M0 P w) A env fun e s'=>R (.error e) s') s3) (notedBy (M0 P w) A env fun e s'=>R (.error e) s') s2) (notedBy (M0 P w) A env fun e s'=>R (.error e) s') s1) (notedBy (M0 P w) A env fun e s'=>R (.error e) s') s):
    codeAny (M0 P w) A (.forLoop target it body [] env) R s:=by
  refine codeAny_of_tree ?_
  rw [f6 rfl]
  show wpAny _ A ((forTurn target it body [] env).onRaise (fun x=>do noteFrame x env; theTreesLotGoes x)) _ _ s
  refine wpAny_noted ?_
  simp only [forTurn]
  refine wpAny_bind (wpAny_standAt (wpAny_bind (wpAny_onRaise (wpAny_mono h (fun r s1 h1=>?_) fun _ _ h'=>wpAny_standAt h'))))
  cases r with
  | none=>exact wpAny_pure ⟨rfl,qI h1⟩
  | some v=>
    refine wpAny_bind (wpAny_mono h1 (fun _ s2 h2=>?_) fun _ _ h'=>h')
    refine wpAny_bind (wpAny_mono h2 (fun _ s3 h3=>wpAny_bind (wpAny_mono h3 (fun f s4 h4=>?_) fun _ _ h'=>h')) fun _ _ h'=>h')
    cases f with
    | next=>exact wpAny_pure ⟨rfl,h4⟩
    | cont=>exact wpAny_pure ⟨rfl,h4⟩
    | brk=>exact wpAny_pure h4
    | ret v=>exact wpAny_pure h4
end
section
variable {X:Cx} {E:XK} {tg iter:Expr} {body:List Stmt} {ti:DTI} {g:DTG} {is:List Nat} {tb:DTS} {pos:Pos}
structure UI (X:Cx) (E:XK) (tg e:Expr) (T:DTI):Prop where
 run:∀pins B μ en m σ H s Q Qx,Inv X pins σ H s→Gok H s→Rel X.K B μ en m σ H→ExOf X.K E B μ m H Qx→T en m Q Qx→
  wpAny (M0 X.prog X.w) X.A (eval e X.env) (fun v s1=>wpAny (M0 X.prog X.w) X.A (pyIter v) (fun itv s2=>∃(it:Addr) (fp:List Addr) (tn:Nat→Heap→Prop) (J:It) (B1:Hp) (μ1:List Addr) (m1:Me) (H1:Hp) (its:List D),itv=.ref it∧Inv X pins σ H1 s2∧Gok H1 s2∧Turn X.prog X.w X.K tg J fp it tn∧tn 0 s2.heap∧(∀b∈fp,FpOk X pins H1 b)∧
   Stp B μ m H B1 μ1 m1 H1∧Rel X.K B1 μ1 en m1 σ H1∧iP X.K B1 J its∧Q its m1) (UX X E) s1) (UX X E) s
theorem xj(hi:∀E',DI (sxX X E') E' tg iter ti):UI X E tg iter ti:=by
 refine ⟨fun pins B μ en m σ H s Q Qx I g0 R hx ht=>?_⟩
 obtain ⟨t0,p0,k0⟩:=(hi (EG E s)).ex
 have w:=k0 B μ en m σ H _ _ (fun J H'=>∃B' μ' m' its,Stp B μ m H B' μ' m' H'∧Rel X.K B' μ' en m' σ H'∧iP X.K B' J its∧Q its m') R (vu g0 R.mem hx) ht fun B' μ' m' H' its J a b c d=>⟨B',μ',m',its,a,b,c,d⟩
 refine wpAny_mono (fx I.bare (p0.run pins (asleep s) σ H _ (toSx I.asl) w)) (fun v s1 ⟨s0,hv,sl⟩=>?_) fun _ _ z=>z
 refine wpAny_mono (aU sl hv) (fun itv s2 ⟨s3,hp,sl2⟩=>?_) fun e s2 ⟨s3,hx3,sl2⟩=>⟨s,s3,lL (fun c d H' z=>⟨z.1,z.2.sl sl2⟩) hx3,sl2⟩
 obtain ⟨it,fp,tn,J,H1,rfl,I1,tu,st0,hfp,B1,μ1,m1,its,st1,R1,wk,q⟩:=hp
 have hh:s2.heap=s3.heap:=by rw [sl2.eq]
 exact ⟨it,fp,tn,J,B1,μ1,m1,H1,its,rfl,sl2.inv (k7 I1),(g0.stp R.mem st1).sl sl2,tu,by rw [hh]; exact st0,hfp,st1,R1,wk,q⟩
theorem t4(hc:X.calm=true)(hi:UI X E tg iter ti)(hg:∀E',DG (sxX X E') tg is g)(hb:USs X E body tb)(hs:∀x,foldedSetIterable iter X.env x=pure x:=by intro _; rfl):US X E (.For tg iter body [] pos) (y0 ti g tb):=by
 refine ⟨fun pins B μ en m σ H s N I g0 R hx ht=>?_⟩
 refine wpAny_For (thn (hi.run pins B μ en m σ H s _ _ I g0 R hx ht) fun v s1 hv=>thn hv fun itv s2 hp=>?_) hs
 obtain ⟨it,fp,tn,J,B1,μ1,m1,H1,its,rfl,I1,g1,tu,st0,hfp,st1,R1,⟨Gp,Y,wk,hG,hY⟩,q⟩:=hp
 have loop:∀(n i:Nat) (B2:Hp) (μ2:List Addr) (en2:En) (m2:Me) (σ2:L2.St) (H2:Hp) (s2:Shared),its.length - i=n→i≤its.length→Inv X pins σ2 H2 s2→Gok H2 s2→Stp B1 μ1 m1 H1 B2 μ2 m2 H2→Rel X.K B2 μ2 en2 m2 σ2 H2→tn i s2.heap→(∀b∈fp,H2 b=none)→bY g tb (its.drop i) en2 m2 N→
   codeAny (M0 X.prog X.w) X.A (.forLoop tg (.ref it) body [] X.env) (fun r s'=>match r with | .ok f=>SPt X pins B μ m H N f s' | .error e=>cameBackBy (M0 X.prog X.w) X.A X.env (UX X E) e s') s2:=by
  intro n
  induction n with
  | zero=>
   intro i B2 μ2 en2 m2 σ2 H2 s2 hn hi I2 g2 st2 R2 tni hn2 q2
   have ei:i=its.length:=by omega
   subst ei
   rw [List.drop_length] at q2
   have wd:=tu.done X rfl rfl rfl hc its.length pins (asleep s2) σ2 H2 (fun _ _=>False) I2.asl (fun b hb=>⟨hn2 b hb,(hfp b hb).2⟩) tni (wk.stops H2 (hG B2 μ2 m2 H2 st2.same R2.mem))
   refine iA (wpAny_mono (a4 I2.bare wd) (fun r s4 ⟨s5,⟨er,I5⟩,sl5⟩=>?_) fun _ _ ⟨_,hx,_⟩=>hx.elim)
   subst er
   exact ⟨σ2,B2,μ2,en2,m2,H2,sl5.inv I5,g2.sl sl5,st1.trans R1.mem st2 R.mem.le,R2,q2⟩
  | succ n ih=>
   intro i B2 μ2 en2 m2 σ2 H2 s2 hn hi I2 g2 st2 R2 tni hn2 q2
   have hl:i<its.length:=by omega
   have Gp2:=hG B2 μ2 m2 H2 st2.same R2.mem
   have wd:=tu.item X rfl rfl rfl hc i pins (asleep s2) σ2 H2 (fun _ _=>False) I2.asl (fun b hb=>⟨hn2 b hb,(hfp b hb).2⟩) tni (wk.goes i H2 hl Gp2)
   refine iA (wpAny_mono (a4 I2.bare wd) (fun r s4 ⟨s5,⟨u,er,w5⟩,sl5⟩=>?_) fun _ _ ⟨_,hx,_⟩=>hx.elim)
   subst er
   refine wpAny_mono (aU sl5 w5) (fun _ s6 ⟨s7,⟨x,H3,I7,rx,yl,tn7,hn7⟩,sl7⟩=>?_) fun _ _ ⟨_,hx,_⟩=>hx.elim
   obtain ⟨B3,d,ed,st3,M3,rd⟩:=hY i B2 μ2 m2 H2 x H3 hl st2.same R2.mem (wk.yields i H2 x H3 hl Gp2 yl)
   have R3:=R2.stp st3 M3
   have h67:s6.heap=s7.heap:=by rw [sl7.eq]
   have I6:Inv X pins σ2 H3 s6:=sl7.inv I7
   have g6:Gok H3 s6:=(g2.stp R2.mem st3).sl sl7
   have tn6:tn (i+1) s6.heap:=by rw [h67]; exact tn7
   have I6p:=I6.pinned (fun b hb=>⟨hn7 b hb,(hfp b hb).2⟩) (tu.obj _ _ tn6)
   rw [List.drop_eq_getElem_cons hl] at q2
   have ed2:its[i]=d:=by
    rw [List.getElem?_eq_getElem hl] at ed
    exact Option.some.inj ed
   rw [ed2] at q2
   obtain ⟨t,p,k⟩:=(hg (EG E s6)).ex
   have wt:=k B3 μ2 en2 m2 σ2 H3 (.v d) x _ (fun σ' H'=>∃B' μ' en' m',Stp B3 μ2 m2 H3 B' μ' m' H'∧Rel X.K B' μ' en' m' σ' H'∧tb en' m' { N with nx:=fun en2 m2=>bY g tb (its.drop (i+1)) en2 m2 N,ct:=fun en2 m2=>bY g tb (its.drop (i+1)) en2 m2 N,bk:=N.nx }) R3 (RW.d rd) q2 fun B' μ' en' m' σ' H' st' r' _ q=>⟨B',μ',en',m',st',r',q⟩
   refine wpAny_mono (fx I6.bare (p.run _ (asleep s6) σ2 H3 x u _ (toSx I6p.asl) rx wt)) (fun _ s8 ⟨s9,⟨σ4,H4,I9,B4,μ4,en4,m4,st4,R4,q4⟩,sl9⟩=>?_) xi
   have I8:Inv X (pins++pinsAt fp s6.heap) σ4 H4 s8:=sl9.inv (k7 I9)
   have g8:Gok H4 s8:=(g6.stp R3.mem st4).sl sl9
   have stA:Stp B1 μ1 m1 H1 B4 μ4 m4 H4:=(st2.trans R2.mem st3 R1.mem.le).trans R3.mem st4 R1.mem.le
   have stB:Stp B μ m H B4 μ4 m4 H4:=st1.trans R1.mem stA R.mem.le
   have pin':∀{σ':L2.St} {H':Hp} {s':Shared},Inv X (pins++pinsAt fp s6.heap) σ' H' s'→∀b∈fp,∀o,s6.heap.get? b=some o→s'.heap.get? b=some o∧H' b=none:=fun {σ' H' s'} I' b hb o e=>
    let z:=I'.pin (b,o) (List.mem_append_right _ (List.mem_append_right _ (mem_pinsAt hb e)))
    ⟨z.1,z.2.1⟩
   have again:∀{σ':L2.St} {B':Hp} {μ':List Addr} {en':En} {m':Me} {H':Hp} {s':Shared},Inv X (pins++pinsAt fp s6.heap) σ' H' s'→Gok H' s'→Stp B4 μ4 m4 H4 B' μ' m' H'→Rel X.K B' μ' en' m' σ' H'→bY g tb (its.drop (i+1)) en' m' N→_:=fun {σ' B' μ' en' m' H' s'} I' g' st' R' q'=>
    ih (i+1) B' μ' en' m' σ' H' s' (by omega) (by omega) I'.unpinned g' (stA.trans R4.mem st' R1.mem.le) R' (tu.keep _ _ _ tn6 fun b hb o e=>(pin' I' b hb o e).1) (fun b hb=>by
     obtain ⟨o,e,_⟩:=tu.obj _ _ tn6 b hb
     exact (pin' I' b hb o e).2) q'
   refine wpAny_mono (hb.run (pins++pinsAt fp s6.heap) B4 μ4 en4 m4 σ4 H4 s8 { N with nx:=fun en2 m2=>bY g tb (its.drop (i+1)) en2 m2 N,ct:=fun en2 m2=>bY g tb (its.drop (i+1)) en2 m2 N,bk:=N.nx } I8 g8 R4 (hx.step stB R4.mem R.mem.le) q4) (fun f s' hq=>?_) xi
   cases f with
   | next=>
    obtain ⟨σ',B',μ',en',m',H',I',g',st',R',q'⟩:=hq
    exact again I' g' st' R' q'
   | cont=>
    obtain ⟨σ',B',μ',en',m',H',I',g',st',R',q'⟩:=hq
    exact again I' g' st' R' q'
   | brk=>
    obtain ⟨σ',B',μ',en',m',H',I',g',st',R',q'⟩:=hq
    exact ⟨σ',B',μ',en',m',H',I'.unpinned,g',stB.trans R4.mem st' R.mem.le,R',q'⟩
   | ret v=>
    obtain ⟨x',w',σ',B',μ',m',H',I',g',rv,rw,st',M',q'⟩:=hq
    exact ⟨x',w',σ',B',μ',m',H',I'.unpinned,g',rv,rw,stB.trans R4.mem st' R.mem.le,M',q'⟩
 exact loop its.length 0 B1 μ1 en m1 σ H1 s2 rfl (Nat.zero_le _) I1 g1 .refl R1 st0 (fun b hb=>(hfp b hb).1) q
end
section
variable {P:Program} {w:World} {A:Around} {s:Shared} {R:Result→Shared→Prop}
theorem dS{f:Addr}{args:Args}{of_:Obj}{fd:FuncData}{body:List Stmt}(room:A.depth<recursionLimit)(hf:s.heap.get? f=some of_)(hfd:of_.data=.func fd)(h1:fd.scope.isCoroutine=false)(h2:fd.scope.isGenerator=false)(h3:fd.body=.stmts body)
  (hcode:s.heap.CodeRec fd.code fd.qualname)
  (h:wpAny (M0 P w) A.in1 (bindArgs fd args) (fun bs t=>wpAny (M0 P w) A.in1 (newFunctionEnv fd.scope fd.globals fd.closure bs (fd.qualname++".<locals>.") (some f) fd.code none fd.builtins)
   (fun env t2=>t2.heap.NoLimit∧codeAny (M0 P w) A (.func body env) R t2) (fun e t2=>R (.error e) t2) t) (fun e t=>R (.error e) t) s):codeAny (M0 P w) A (.call (.ref f) args) R s:=by
 obtain ⟨ca,co,cv,ct,ec,e1,e2,e3⟩:=hcode
 rw [ec] at h
 refine codeAny_of_tree ?_
 rw [f6 rfl]
 show wpAny _ A.in1 (callAny (.ref f) args) _ _ s
 simp only [callAny]
 refine wpAny_bind (wpAny_load hf ?_)
 simp only [hfd,callFunction,h1,h2,h3,ec]
 refine wpAny_bind (m:=field (.ref ca) 1) (wpAny_field e1 e2 e3 (wpAny_bind (wpAny_pure (wpAny_bind (wpAny_mono h (fun bs t ht=>?_) fun _ _ x=>x)))))
 exact wpAny_bind (wpAny_mono ht (fun env t2 q=>wpAny_bind (wpAny_enterFrame q.1 room (wpAny_pure (And.intro rfl q.2)))) fun _ _ x=>x)
theorem f8{body:List Stmt}{env:Env} (h:wpAny (M0 P w) (A.deeper env) (execs body env) (fun f s'=>R (.ok (.ret (match f with | .ret v=>v | _=>.none))) s')
      (fun e s'=>wpAny (M0 P w) (A.deeper env) (leaving env e) (fun _ s''=>R (.error e) s'') (fun e' s''=>R (.error e') s'') s') s):codeAny (M0 P w) A (.func body env) R s:=by
  refine codeAny_of_tree ?_
  rw [f6 rfl]
  show wpAny _ (A.deeper env) (do point; match ←(execs body env).onRaise (leaving env) with | .ret v=>ret v | _=>ret .none) _ _ s
  refine wpAny_bind (wpAny_point (wpAny_bind (wpAny_onRaise (wpAny_mono h (fun f s' h'=>?_) fun _ _ h'=>h'))))
  cases f <;> exact wpAny_pure h'
end
structure UnOk (P:Program) (w:World) (K:Frag) (mg:Str→Option Value) (base:Heap) (k:Nat) (f:Addr) (fd:FuncData) (ps:List Str) (sp:SpD):Prop where
 len:∀ws m Q Qx,sp ws m Q Qx→ws.length=ps.length
 run:∀(A:Around) (outer:List Env) (s:Shared) (H:Hp) (args:Args) (us:List Value) (vs:List V) (ws:List W) (B:Hp) (μ:List Addr) (m:Me) (Q:W→Me→Prop) (Qx:QX) (E:XK),Room k A→Env0 P w K mg base A outer s H→Gok H s→MemOk K B μ m H→BindsTo s fd args (ps.zip us)→Vals vs us→RWs K B μ vs ws→ExOf K E B μ m H Qx→sp ws m Q Qx→
  codeAny (M0 P w) A (.call (.ref f) args) (fun r s'=>CR (L2N.CX P w) outer P w H s (fun v H'=>∃B' μ' m' x,Stp B μ m H B' μ' m' H'∧MemOk K B' μ' m' H'∧RW K B' μ' v x∧Q x m'∧Gok H' s') (EG E s') r s') s
theorem UnOk.mono{P:Program}{w:World}{K:Frag}{mg:Str→Option Value}{base:Heap}{j k:Nat}{f:Addr}{fd:FuncData}{ps:List Str}{sp:SpD}(F:UnOk P w K mg base j f fd ps sp)(h:j≤k):UnOk P w K mg base k f fd ps sp:=
 ⟨F.len,fun A outer s H args us vs ws B μ m Q Qx E hr=>F.run A outer s H args us vs ws B μ m Q Qx E (hr.mono h)⟩
def pi(o:Bool)(m:Me)(Q:W→Me→Prop)(Qx:QX):Dn:=if o=true then uZ Q Qx else oN m Q Qx
section
variable {P:Program} {w:World} {K:Frag} {mg:Str→Option Value} {base:Heap} {k:Nat} {x qual:Str} {params:Arguments} {body:List Stmt} {scope:Scope} {dvs:List V} {kws:List (Str×V)} {f:Addr} {fd:FuncData} {N ps:List Str} {sp:SpD}
theorem AU(o:Bool)(F:FunD K x qual params body scope dvs kws f fd)(S:FnScope N ps scope)(len:∀ws m Q Qx,sp ws m Q Qx→ws.length=ps.length)
  (hbody:∀(cdv:Value) (A:Around) (outer:List Env) (s:Shared) (H:Hp),Room k (A.deeper (envOfC qual scope s.heap.objs.size f cdv))→∀E,
   ∃T,USs (cxOf (L2N.CX P w) P w K mg base N qual scope f cdv A outer s H E0) E body T∧∀ws m Q Qx,sp ws m Q Qx→T (bZ N ws) m (pi o m Q Qx)):UnOk P w K mg base (k+1) f fd ps sp:=by
 obtain ⟨oc,od,dV,kV,doc,pm,an,cdv,ct,osl,rfl,lk,hcd,_,_⟩:=F.ex
 refine ⟨len,fun A outer s H args us vs ws B μ m Q Qx E hr e0 g M hb r rw hx hsp=>?_⟩
 have hl:vs.length=ps.length:=by rw [rw.len]; exact len _ _ _ _ hsp
 have KX:K.In s.heap:=e0.mod.kin.keeps fun b o e=>(e0.bs b o e).1
 have lim:s.heap.NoLimit:=e0.mod.nolimit.keeps fun b o e=>(e0.bs b o e).1
 have hkind:∀y∈ps.zip us,scope.names.lookup y.1=some .local∨(scope.names.lookup y.1=some .cell∧((cellsFrom (s.heap.objs.size+1) scope.names []).lookup y.1).isSome=true):=fun ⟨n,v⟩ hy=>by
  rcases S.par n (List.of_mem_zip hy).1 with q | q
  ·exact .inl q
  ·exact .inr ⟨q,PySem.W.cellsFrom_some _ _ _ (.inl q)⟩
 refine dS hr.depth (KX _ _ lk) rfl S.co S.gen rfl (PySem.W.codeRec_of KX hcd) (hb _ _ _ _ ?_)
 refine wpAny_newFunctionEnv_cells S.kind hkind fun env he s1 x=>?_
 subst he
 have gens1:s1.gens=s.gens:=by
  obtain ⟨h1,tk,es1,hk1⟩:=x.done
  rw [es1]
 refine ⟨lim.keeps x.toInCall.keep,f8 ?_⟩
 obtain ⟨T,hT,hq⟩:=hbody cdv A outer s H (hr.deeper _) E
 have I:Inv (cxOf (L2N.CX P w) P w K mg base N qual scope f cdv A outer s H E0) [] (start N vs) H s1:=inv_start S hr.hd e0 hl r x
 have g1:Gok H s1:=g.ld fun a ⟨i,h⟩=>⟨i,h.of (by rw [gens1])⟩
 have hx1:ExOf K E B μ m H (pi o m Q Qx).xc:=by
  cases o with
  | true=>exact hx
  | false=>
   intro B' μ' m' H' er dd fvs s' M' hd rf q
   obtain ⟨⟨more,rfl⟩,q⟩:=q
   exact hx B' μ m H' er dd fvs s'.drop (M.drop s'.pre M') hd rf q
 have fin:∀{σ':L2.St} {H':Hp} {v:V} {u:Value} {y:W} {B':Hp} {μ':List Addr} {m':Me} {s':Shared},Inv (cxOf (L2N.CX P w) P w K mg base N qual scope f cdv A outer s H E0) [] σ' H' s'→Gok H' s'→RelV v u→RW K B' μ' v y→Stp B μ m H B' μ' m' H'→MemOk K B' μ' m' H'→(pi o m Q Qx).rt y m'→
   CE outer P w H s (fun v H'=>∃B' μ' m' x,Stp B μ m H B' μ' m' H'∧MemOk K B' μ' m' H'∧RW K B' μ' v x∧Q x m'∧Gok H' s') u s':=fun {σ' H' v u y B' μ' m' s'} J g' rv rw st M' q=>by
  cases o with
  | true=>exact ⟨v,H',J.os,J.bare,J.base,J.hok,rv,B',μ',m',y,st,M',rw,q,g'⟩
  | false=>
   cases y with
   | loc n=>exact q.elim
   | v d=>
    obtain ⟨⟨more,rfl⟩,q⟩:=q
    exact ⟨v,H',J.os,J.bare,J.base,J.hok,rv,B',μ,m,.v d,st.drop,M.drop st.pre M',rw,q,g'⟩
 refine wpAny_mono (hT.run [] B μ (bZ N ws) m (start N vs) H s1 (pi o m Q Qx) I g1 (ef M rw) hx1 (hq ws m Q Qx hsp)) (fun fl s' hs=>?_) fun e s' ⟨sx,s0,hx0,sl⟩=>?_
 ·cases fl with
  | ret u=>
   obtain ⟨v,y,σ',B',μ',m',H',J,g',rv,rw',st,M',q⟩:=hs
   exact fin J g' rv rw' st M' q
  | next=>
   obtain ⟨σ',B',μ',en',m',H',J,g',st,R',q⟩:=hs
   refine fin (v:=V.non) (u:=Value.none) (y:=.v .non) J g' rfl (RW.d .non) st R'.mem ?_
   cases o with
   | true=>exact q
   | false=>exact q
  | brk=>
   obtain ⟨_,_,_,_,_,_,_,_,_,_,q⟩:=hs
   cases o <;> exact False.elim q
  | cont=>
   obtain ⟨_,_,_,_,_,_,_,_,_,_,q⟩:=hs
   cases o <;> exact False.elim q
 ·have up:∀{y:Value} {s1 s2:Shared},L2N.CX P w outer H s (EG E s') y s1→Slq sx s1 s2→L2N.CX P w outer H s (EG E s2) y s2:=fun {y s1 s2} c k=>by
   have c2:=tX c (g:=s2.gens) k.bare
   rw [←k.eq] at c2
   exact pf (fun _ _ _ z=>⟨z.1,z.2.ld fun a q=>sl.ld2 k q⟩) c2
  have hx0:wpAny (model P w) (A.deeper (envOfC qual scope s.heap.objs.size f cdv)) (leaving (envOfC qual scope s.heap.objs.size f cdv) e) (fun _ s''=>L2N.CX P w outer H s (EG E s') e s'') (fun e' s''=>L2N.CX P w outer H s (EG E s') e' s'') s0:=hx0
  exact wpAny_mono (aU sl hx0) (fun _ s2 ⟨s1,q,k⟩=>up q k) fun y s2 ⟨s1,q,k⟩=>up q k
end
structure GU (P:Program) (w:World) (K:Frag) (mg:Str→Option Value) (base:Heap) (k:Nat) (x:Str) (ps:List Str) (sp:SpD):Prop where
 ex:∃f fd,mg x=some (.ref f)∧PySem.W.keepIn K (.ref f)=true∧Binds K fd ps []∧UnOk P w K mg base k f fd ps sp
theorem GU.mono{P:Program}{w:World}{K:Frag}{mg:Str→Option Value}{base:Heap}{j k:Nat}{x:Str}{ps:List Str}{sp:SpD}(G:GU P w K mg base j x ps sp)(h:j≤k):GU P w K mg base k x ps sp:=by
 obtain ⟨f,fd,a,b,c,F⟩:=G.ex
 exact ⟨f,fd,a,b,c,F.mono h⟩
structure GUk (P:Program) (w:World) (K:Frag) (mg:Str→Option Value) (base:Heap) (k:Nat) (x:Str) (n:Nat) (ks:List Str) (gV:List V→List V→List V) (ps:List Str) (sp:SpD):Prop where
 ex:∃f fd g,mg x=some (.ref f)∧PySem.W.keepIn K (.ref f)=true∧KBn K fd ps n ks g gV∧UnOk P w K mg base k f fd ps sp
structure GUd (P:Program) (w:World) (K:Frag) (mg:Str→Option Value) (base:Heap) (k:Nat) (x:Str) (ps:List Str) (dw:List D) (sp:SpD):Prop where
 ex:∃f fd dv ds,mg x=some (.ref f)∧PySem.W.keepIn K (.ref f)=true∧Vals dv ds∧(∀B,RvL K B dv dw)∧Binds K fd ps ds∧UnOk P w K mg base k f fd ps sp
structure UK (X:Cx) (E:XK) (kws:List Keyword) (T:DTA):Prop where
 run:∀pos pins B μ en m σ H s Q Qx,Inv X pins σ H s→Gok H s→Rel X.K B μ en m σ H→ExOf X.K E B μ m H Qx→T en m Q Qx→
  wpAny (M0 X.prog X.w) X.A (evalAll ((backToKw pos (keywordEach kws X.env)).map (·.2))) (fun us s'=>∃vs ws B' μ' m' H',Inv X pins σ H' s'∧Gok H' s'∧Vals vs us∧RWs X.K B' μ' vs ws∧Stp B μ m H B' μ' m' H'∧Rel X.K B' μ' en m' σ H'∧Q ws m') (UX X E) s
section
variable {X:Cx} {E:XK} {pins:List (Addr×Obj)} {σ:L2.St} {H H2:Hp} {s s2:Shared} {B B2:Hp} {μ μ2:List Addr} {en:En} {m m2:Me} {Q:W→Me→Prop} {Qx:QX}
variable {x:Str} {e:Expr} {es:List Expr} {kws:List Keyword} {p pos:Pos} {tA tK:DTA} {k:Nat} {f:Addr} {fd:FuncData} {ps ks:List Str} {sp:SpD} {gV:List V→List V→List V} {g:List Value→List Value→List Value}
theorem uk(h:∀E',DK (sxX X E') E' kws tK):UK X E kws tK:=by
 refine ⟨fun pos pins B μ en m σ H s Q Qx I g R hx ht=>?_⟩
 obtain ⟨t,p,k⟩:=(h (EG E s)).ex
 have w:=k B μ en m σ H Q Qx (fun vs H'=>∃B' μ' m' ws,Stp B μ m H B' μ' m' H'∧Rel X.K B' μ' en m' σ H'∧RWs X.K B' μ' vs ws∧Q ws m') R (vu g R.mem hx) ht fun B' μ' m' H' ws vs st r rw q=>⟨B',μ',m',ws,st,r,rw,q⟩
 refine wpAny_mono (fx I.bare (p.run pos pins (asleep s) σ H _ (toSx I.asl) w)) (fun us s' ⟨s0,⟨vs,H',I',rv,B',μ',m',ws,st,r,rw,q⟩,sl⟩=>?_) fun _ _ z=>z
 exact ⟨vs,ws,B',μ',m',H',sl.inv (k7 I'),(g.stp R.mem st).sl sl,rv,rw,st,r,q⟩
theorem ua(h:∀E',DA (sxX X E') E' es tA):UA X E es tA:=by
 refine ⟨fun pos pins B μ en m σ H s Q Qx I g R hx ht=>?_⟩
 obtain ⟨t,p,k⟩:=(h (EG E s)).ex
 have w:=k B μ en m σ H Q Qx (fun vs H'=>∃B' μ' m' ws,Stp B μ m H B' μ' m' H'∧Rel X.K B' μ' en m' σ H'∧RWs X.K B' μ' vs ws∧Q ws m') R (vu g R.mem hx) ht fun B' μ' m' H' ws vs st r rw q=>⟨B',μ',m',ws,st,r,rw,q⟩
 refine wpAny_mono (fx I.bare (p.run pos pins (asleep s) σ H _ (toSx I.asl) w)) (fun us s' ⟨s0,⟨vs,H',I',rv,B',μ',m',ws,st,r,rw,q⟩,sl⟩=>?_) fun _ _ z=>z
 exact ⟨vs,ws,B',μ',m',H',sl.inv (k7 I'),(g.stp R.mem st).sl sl,rv,rw,st,r,q⟩
end
structure GG (P:Program) (w:World) (K:Frag) (mg:Str→Option Value) (base:Heap) (k:Nat) (x:Str) (ps:List Str) (dw:List D) (sp:SpG):Prop where
 ex:∃f fd dv ds,mg x=some (.ref f)∧PySem.W.keepIn K (.ref f)=true∧Vals dv ds∧(∀B,RvL K B dv dw)∧Binds K fd ps ds∧GnOk P w K mg base k f fd ps sp
structure GGk (P:Program) (w:World) (K:Frag) (mg:Str→Option Value) (base:Heap) (k:Nat) (x:Str) (ks:List Str) (gV:List V→List V→List V) (ps:List Str) (sp:SpG):Prop where
 ex:∃f fd g,mg x=some (.ref f)∧PySem.W.keepIn K (.ref f)=true∧KBn K fd ps 0 ks g gV∧GnOk P w K mg base k f fd ps sp
theorem GG.mono{P:Program}{w:World}{K:Frag}{mg:Str→Option Value}{base:Heap}{j k:Nat}{x:Str}{ps:List Str}{dw:List D}{sp:SpG}(G:GG P w K mg base j x ps dw sp)(h:j≤k):GG P w K mg base k x ps dw sp:=by
 obtain ⟨f,fd,dv,ds,a,b,c,d,e,F⟩:=G.ex
 exact ⟨f,fd,dv,ds,a,b,c,d,e,F.mono h⟩
theorem GGk.mono{P:Program}{w:World}{K:Frag}{mg:Str→Option Value}{base:Heap}{j k:Nat}{x:Str}{ks:List Str}{gV:List V→List V→List V}{ps:List Str}{sp:SpG}(G:GGk P w K mg base j x ks gV ps sp)(h:j≤k):GGk P w K mg base k x ks gV ps sp:=by
 obtain ⟨f,fd,g,a,b,c,F⟩:=G.ex
 exact ⟨f,fd,g,a,b,c,F.mono h⟩
theorem GMk.weak{n n':Nat}{X:Cx}{k:Nat}{pins:List (Addr×Obj)}{its:List D}{oe:Option Er}{B H:Hp}{σ:L2.St}{a:Addr}{s':Shared}(h:GMk n X k pins its oe B H σ a s')(l:n'≤n):GMk n' X k pins its oe B H σ a s':=fun A' hr hf=>
 let ⟨G,O,T,h1,h2,h3,h4,h5⟩:=h A' hr hf
 ⟨G,O,T,h1,h2,h3,h4,Nat.le_trans l h5⟩
section
variable {X:Cx} {E:XK} {x:Str} {e:Expr} {es:List Expr} {kws:List Keyword} {p pos:Pos} {tA tK:DTA} {k:Nat} {ps ks:List Str} {sp:SpG} {dw:List D} {gV:List V→List V→List V}
end
section
variable {P:Program} {w:World} {A:Around} {s:Shared} {R:Result→Shared→Prop}
end
section
variable {X:Cx} {G:Gst} {pins:List (Addr×Obj)} {its:List D} {O:Ow} {T B H:Hp} {σ:L2.St} {s s1:Shared} {E:XK}
theorem Cons.sx(C:Cons (sxX X E) G pins its O T B H σ s):Cons X G pins its O T B H σ s:=⟨k7 C.inv,C.gn,C.eP,C.ew,C.eK,C.eb,C.eo,C.eE,C.lo,C.bh,C.tb,C.fp⟩
theorem Cons.toSx(C:Cons X G pins its O T B H σ s):Cons (sxX X E) G pins its O T B H σ s:=⟨Fs.toSx C.inv,C.gn,C.eP,C.ew,C.eK,C.eb,C.eo,C.eE,C.lo,C.bh,C.tb,C.fp⟩
theorem Cons.weak(C:Cons X G pins its O T B H σ s){σ':L2.St}(hl:σ'.length=σ.length)(w:∀(i:Nat) v,σ'[i]? =some (some v)→σ[i]? =some (some v)):Cons X G pins its O T B H σ' s:=⟨C.inv.weak hl w,C.gn,C.eP,C.ew,C.eK,C.eb,C.eo,C.eE,C.lo,C.bh,C.tb,C.fp⟩
def LDc(O:Ow)(T H:Hp)(s:Shared):Prop:=∀a,LD s a→(∃o u,H a=some (.frz o u)∧o.genNumber?.isSome=true)∨(O a∧T a=none∧cR (s.heap.get? a)=true)
theorem LDc.lw(h:LDc O T H s)(C:Cons X G pins its O T B H σ s):∀a,LD s a→a<s.heap.objs.size:=fun a z=>by
 rcases h a z with ⟨o,u,e,_⟩ | ⟨e,_⟩
 ·exact Heap.lt_size (C.inv.hok a _ e).1
 ·obtain ⟨gs,k⟩:=C.at_
  exact (k.ob a e).2.lt
theorem LDc.item(h:LDc O T H s){O':Ow}{T' B' H':Hp}(ex:ExtB B H B' H')(ld:∀a,LD s1 a→(LD s a∧¬(O a∧T a=none))∨(O' a∧T' a=none∧cR (s1.heap.get? a)=true)):LDc O' T' H' s1:=fun a z=>by
 rcases ld a z with ⟨z1,z2⟩ | z
 ·rcases h a z1 with ⟨o,u,e,g⟩ | ⟨y1,y2,_⟩
  ·exact .inl ⟨o,u,ex.hh a _ e,g⟩
  ·exact absurd ⟨y1,y2⟩ z2
 ·exact .inr z
theorem LDc.done(h:LDc O T H s){B' H':Hp}(ex:ExtB B H B' H')(ld:∀a,LD s1 a→LD s a∧¬(O a∧T a=none)):Gok H' s1:=fun a z=>by
 obtain ⟨z1,z2⟩:=ld a z
 rcases h a z1 with ⟨o,u,e,g⟩ | ⟨y1,y2,_⟩
 ·exact ⟨o,u,ex.hh a _ e,g⟩
 ·exact absurd ⟨y1,y2⟩ z2
theorem Cons.own{α:Type}{t:Sem α}{E0:Value→Shared→Prop}(C:Cons X G pins its O T B H σ s)(hs:∃gs,s.gens[G.g]? =some gs∧gv gs)(ld:LDc O T H s){Q:α→L2.St→Hp→Hp→Prop}
  (h:wpAny (model X.prog X.w) X.A t (fun a s'=>∃σ' H' B',Inv X (pins++xb G.a O T s) σ' H' s'∧Le B' H'∧Same B B'∧(∀a o u,H a=some (.frz o u)→H' a=some (.frz o u))∧Q a σ' H' B') E0 (Fs.asleep s)):
  wpAny (M0 X.prog X.w) X.A t (fun a s'=>∃σ' H' B',Cons X G pins its O T B' H' σ' s'∧(∃gs,s'.gens[G.g]? =some gs∧gv gs)∧LDc O T H' s'∧Q a σ' H' B') (fun e s'=>∃s0,E0 e s0∧Slq s s0 s') s:=by
 refine mw (Fz.refl s) (wpAny_mono (a4 C.inv.bare h) (fun a s' ⟨s0,⟨σ',H',B',I',bh,sm,fr,q⟩,sl⟩ fz=>?_) fun _ _ z _=>z)
 obtain ⟨C',hs'⟩:=C.after0 hs I' sl fz bh sm (ld.lw C)
 refine ⟨σ',H',B',C',hs',fun b hb=>?_,q⟩
 rcases ld b (sl.ld hb) with ⟨o,u,e,g⟩ | ⟨y1,y2,y3⟩
 ·exact .inl ⟨o,u,fr b o u e,g⟩
 ·refine .inr ⟨y1,y2,?_⟩
  cases z:s.heap.get? b with
  | none=>rw [z] at y3; cases y3
  | some o=>
   rw [z] at y3
   have z2:=(sl.inv I').pin (b,o) (List.mem_append_right _ (List.mem_append_right _ (mem_pinsAt (iz.mpr ⟨Heap.lt_size z,.inr ⟨y1,y2⟩⟩) z)))
   rw [z2.1]
   exact y3
end
theorem Stp.frz{K:Frag}{B B':Hp}{μ μ':List Addr}{m m':Me}{H H':Hp}(M:MemOk K B μ m H)(st:Stp B μ m H B' μ' m' H'){a:Addr}{o:Obj}{u:HO}(e:H a=some (.frz o u)):H' a=some (.frz o u):=by
 refine st.out a _ (fun l=>?_) e (fun ps z=>nomatch z)
 obtain ⟨n,mo,e1,e2,e3⟩:=l
 have q:=M.at_ n a mo e1 e2 e3
 cases mo with
 | lst xs=>obtain ⟨vs,q,_⟩:=q; rw [e] at q; cases q
 | dic xs=>obtain ⟨vs,q,_⟩:=q; rw [e] at q; cases q
 | ins C fs=>obtain ⟨dx,vs,q,_⟩:=q; rw [e] at q; cases q
 | bag=>obtain ⟨l,i,r,sd,ns,q,_⟩:=q; rw [e] at q; cases q
 | tab p q'=>obtain ⟨_,ps,q,_⟩:=q; rw [e] at q; cases q
 | gone=>cases e3
section
variable {X:Cx} {E:XK}
end
section
variable {P:Program} {w:World} {A:Around} {E:Value→Shared→Prop} {s:Shared} {R:Result→Shared→Prop}
end
section
variable {X:Cx} {E:XK}
end
section
variable {X:Cx} {E:XK} {k:Nat} {e:Expr} {p pos:Pos} {t:DGE}
end
section
variable {P:Program} {w:World} {t:Sem PySem.Fin} {s:Shared} {R:Result→Shared→Prop}
theorem CO(hz:s.asleep)(h0:s.gens= #[])(h:wpAny (M0 P w) callerA t (fun fin s'=>∃f,fin=.done f∧R (.ok f) s'∧AllBare s'.gens∧a6 s') (fun e s'=>R (.error e) s'∧AllBare s'.gens∧a6 s') s):
  ∃n r s1 s2,schedN (denote table) P w n (.single s ⟨t,.builtin "claim.caller" {},default,[]⟩)=.halted (outcomeOf r) s1∧R r s2∧s1.heap=s2.heap∧s1.os=s2.os∧s2.heap.life=s.heap.life:=by
 have h2:wpAny (M0 P w) callerA t (fun fin s'=>∃f,fin=.done f∧(((R (.ok f) s'∧s'.heap.life=s.heap.life)∧a6 s')∧leftWithCleanup s'.gens=false)) (fun e s'=>(((R (.error e) s'∧s'.heap.life=s.heap.life)∧a6 s')∧leftWithCleanup s'.gens=false)) s:=
  mw (Fz.refl s) (wpAny_mono h (fun fin s' ⟨f,e,r,b,g⟩ fz=>⟨f,e,⟨⟨r,fz.life⟩,g⟩,leftWithCleanup_false_of_bare b⟩) fun e s' ⟨r,b,g⟩ fz=>⟨⟨⟨r,fz.life⟩,g⟩,leftWithCleanup_false_of_bare b⟩)
 obtain ⟨n,r,s1,s2,e1,⟨e2,e3⟩,e4,_,_,e5⟩:=sy (R:=fun r s'=>R r s'∧s'.heap.life=s.heap.life) hz h0 (wp_of_wpAny_done (M:=M0 P w) (R:=fun r s'=>((R r s'∧s'.heap.life=s.heap.life)∧a6 s')∧leftWithCleanup s'.gens=false) caller_in h2 default)
 exact ⟨n,r,s1,s2,e1,e2,e4,e5,e3⟩
end
open PySem.W PySem.Calls
theorem vv{c:ClaimW}{tree:List Value→Sem PySem.Fin}{w:World}{s:Shared}{free:Addr→Prop}{gens:Prop}{kept:Heap→Prop}(hz:s.asleep)(h0:s.gens= #[])
  (sp:∀args,c.pre args=true→WData.layableAll args=true→∀ord:List DictEntry→List DictEntry,(∀l,(ord l).Perm l)→∃vs s1,layAllW c.records (classAt s.heap) w.params ord args s=some (vs,s1)∧
    wpAny (M0 c.prog w) callerA (tree vs) (fun fin s'=>∃f,fin=.done f∧(c.Ends s args vs s1 (.ok f) s'∧s'.os=s.os∧kept s'.heap)∧AllBare s'.gens∧a6 s') (fun e s'=>(c.Ends s args vs s1 (.error e) s'∧s'.os=s.os∧kept s'.heap)∧AllBare s'.gens∧a6 s') s1):
  c.CallFrom (fun vs=>⟨tree vs,.builtin "claim.caller" {},default,[]⟩) w free gens kept s:=by
 intro args hp hl ord ho
 obtain ⟨vs,s1,laid,code⟩:=sp args hp hl ord ho
 have al:=layAllW_rest _ _ _ laid
 obtain ⟨k,r,s2,s3,run,⟨ends,os,kp⟩,eh,eo,life⟩:=CO (R:=fun r s'=>c.Ends s args vs s1 r s'∧s'.os=s.os∧kept s'.heap) (Shared.asleep_of_life al.2.2.2 hz) (al.1.trans h0) code
 have ends:=ends.congr eh
 have kp2:kept s2.heap:=by rw [eh]; exact kp
 have lf:s2.heap.life=s.heap.life:=by rw [eh,life]; exact al.2.2.2
 have os2:s2.os=s.os:=eo.trans os
 refine ⟨vs,s1,laid,k,_,s2,run,?_,fun _ i x hx=>?_,kp2,by rw [lf],Shared.rest_eq os2⟩
 ·rcases ends with ⟨v,rfl,d1,d2,d3,d4,d5⟩ | ⟨e,ob,cls,rfl,d1,d2,d3,d4,d5⟩
  ·exact .inl ⟨v,rfl,d1,d2,d3,fun b o y _=>d4 b o y,d5⟩
  ·exact .inr ⟨e,ob,cls,rfl,d1,d2,d3,d4,fun b o y _=>d5 b o y⟩
 ·rw [h0] at hx
  simp at hx
def AV(q:Program)(loose:List Str)(XP:(Str→Option Value)→Heap→Prop)(YP:World→Heap→Prop)(r:RowW)(d:DefRec)(kwd:List (Str×Expr)):Prop:=
 ∀(w:World) (s0 s1:Shared) (mg mb:Str→Option Value),Ground q loose r.records XP w s0 mg mb s1.heap→YP w s1.heap→∀(a:Addr) (o:Obj) (pm cd doc dV kV:Value),s1.heap.get? a=some o→
  o.data=.func { docDef d.name d.params d.body d.scope pm cd doc with defaults:=dV,kwdefaults:=kV }→s1.heap.CodeRec cd d.name→Dflts mg s1.heap d.params kwd dV kV→mg d.name=some (.ref a)→s1.gens= #[]→
  ∀(args:List WData) (vals:List Value) (as:List Addr),r.claim.pre args=true→WData.layableAll args=true→ReadsAllW r.records (classAt s0.heap) s1.heap vals args as→WellAll w.params s1.heap vals args→(∀a∈as,(a == sysModules)=false)→
   wpAny (M0 r.prog w) callerA (PySem.call (.ref a) vals) (fun v s'=>GoodWG r.claim (classAt s0.heap) (ExcName.means s0.heap) args s1 (.ok (.ret v)) s'∧a6 s')
    (fun e s'=>GoodWG r.claim (classAt s0.heap) (ExcName.means s0.heap) args s1 (.error e) s'∧a6 s') s1
theorem CP{r:RowW}{tree:List Value→Sem PySem.Fin}{q:Program}{loose defs kps:List Str}{writes:Bool}{Xt:Shared→Bool}{XP:(Str→Option Value)→Heap→Prop}{α:Type}{Yf:Shared→α}{Ya:World→α}{YP:World→Heap→Prop}{N:Nat}
  (left:LeftO r.prog q loose Xt Yf Ya N) (hY:∀w s,Yf s=Ya w→YP w s.heap) (hYk:∀w h h',YP w h→(∀b o,h.get? b=some o→h'.get? b=some o)→YP w h') (hX:∀s,Xt s=true→XP (s.heap.nsMap mainGlobals) s.heap) (hXk:∀mg h h',XP mg h→(∀b o,h.get? b=some o→h'.get? b=some o)→XP mg h')
  (hRf:∀s,Xt s=true→RecFacts r.records s.heap) (hwr:(!writes||r.records.isEmpty)=true) (ok:(chainsOk q&&opensWell r.prog&&(frees r&&r.within.isEmpty))=true) (hb:r.prog.bare) (hw:r.promised)
  (ht:∀vs (w:World) (s:Shared) mg f (Q:PySem.Fin→Shared→Prop) (E:Value→Shared→Prop),s.heap.Ns mainGlobals mg→mg r.name=some f→wpAny (M0 r.prog w) callerA (PySem.call f vs) (fun v s'=>Q (.done (.ret v)) s') E s→wpAny (M0 r.prog w) callerA (tree vs) Q E s)
  (pin:∀w s,s.heap.isNs mainGlobals=true→Ground q loose [] XP w s (s.heap.nsMap mainGlobals) (s.heap.nsMap builtinsNs) s.heap→∀n∈defs,isTheDefsW r.prog s.heap n)
  (call:∀(w:World) (s0 s1:Shared) (mg mb:Str→Option Value),Ground q loose r.records XP w s0 mg mb s1.heap→YP w s1.heap→∀(args:List WData) (vs:List Value) (as:List Addr),
   r.claim.pre args=true→WData.layableAll args=true→Laid r.records w s0 s1 args vs as→sysModules<s0.heap.objs.size→∃f,mg r.name=some f∧
    wpAny (M0 r.prog w) callerA (PySem.call f vs) (fun v s'=>GoodWG r.claim (classAt s0.heap) (ExcName.means s0.heap) args s1 (.ok (.ret v)) s'∧a6 s')
     (fun e s'=>GoodWG r.claim (classAt s0.heap) (ExcName.means s0.heap) args s1 (.error e) s'∧a6 s') s1):r.claim.HoldsOpenBy (fun vs=>⟨tree vs,.builtin "claim.caller" {},default,[]⟩) defs kps writes:=by
 obtain ⟨ok1,ok2⟩:=Bool.and_eq_true_iff.mp ok
 obtain ⟨hch,o1⟩:=Bool.and_eq_true_iff.mp ok1
 obtain ⟨k5,k6⟩:=Bool.and_eq_true_iff.mp ok2
 obtain ⟨hsame,hu,ha,hap,hm⟩:=frees_parts k5
 refine ⟨⟨hb,o1,by show r.makers.map _=[]; rw [hm]; rfl⟩,hw.witness,fun w=>⟨(left.behind hX hch w).1,fun t ht'=>?_⟩⟩
 obtain ⟨s0,hf,hg0,s,hT,hz,hgens,hg,G00,y⟩:=(left.behind (XP:=fun mg h=>XP mg h∧RecFacts r.records h) (fun s hs=>⟨hX s hs,hRf s hs⟩) hch w).2 t ht'
 have G0:Ground q loose [] XP w s (s.heap.nsMap mainGlobals) (s.heap.nsMap builtinsNs) s.heap:=⟨G00.T,G00.B,G00.D,G00.TE,G00.TD,G00.W,G00.X.1,G00.cls,G00.has,G00.apart,G00.once,G00.K⟩
 have RF:=G00.X.2
 refine ⟨s0,hf,hg0,s,hT,pin w s hg G0,RF.1,RF.2.1,?_⟩
 have gens0:s.gens= #[]:=Array.eq_empty_of_size_eq_zero (beq_iff_eq.mp hgens)
 have G:Ground q loose r.records XP w s _ _ s.heap:=RF.ground G0
 refine vv (c:=r.claim) hz gens0 fun args hp hl ord ho=>?_
 obtain ⟨⟨vs,s1⟩,laid⟩:=Option.isSome_iff_exists.mp (layAllW_isSome (P:=w.params) (ord:=ord) G.has args r.args s (pre_splitW hp).1)
 have kl:=layAllW_keeps _ _ _ laid
 have al:=layAllW_rest _ _ _ laid
 obtain ⟨as,rd,inn,old⟩:=reads_layAllW ho _ _ _ laid hl s1.heap (fun _ _ e=>e)
 have L:Laid r.records w s s1 args vs as:=⟨⟨ord,ho,laid⟩,rd,inn,old,kl,al.1.trans gens0,al.2.2.1⟩
 have G1:=G.keeps hXk kl
 obtain ⟨f,hf,h⟩:=call w s s1 _ _ G1 (hYk _ _ _ (hY w s y) kl) args vs as hp hl L G.low
 have hi:=ident_freeW hu ha hap
 have hwi:r.claim.within=[]:=List.isEmpty_iff.mp k6
 have fin:∀{res:Result} {s':Shared},GoodWG r.claim (classAt s.heap) (ExcName.means s.heap) args s1 res s'∧a6 s'→(r.claim.Ends s args vs s1 res s'∧s'.os=s.os∧(writes=true→namesKept r.claim.prog kps s.heap s'.heap∧∀x∈r.claim.records,∀a,classAt s.heap x.1=some a→recordClass s'.heap a x.1 (x.2.map (·.1))=true))∧AllBare s'.gens∧a6 s':=fun {res s'} ⟨g,gk⟩=>by
  have z:=g.laid (c:=r.claim) hsame hwi hi L
  exact ⟨⟨z.1,z.2.1,fun q=>⟨namesKept_of hT hg kps kl g.2.1.old,noTable hwr q⟩⟩,z.2.2,gk⟩
 exact ⟨vs,s1,laid,ht vs w s1 _ f _ _ G1.T.g hf (wpAny_mono h (fun v s' g=>⟨_,rfl,fin g⟩) fun e s' g=>fin g)⟩
open PySem.W PySem.Calls HandSHeadRun
theorem CQ{r:OpenRow}{q:Program}{H:Hook}{ob:SharedT→H.α}{M:Nat}{loose:List PySem.Str}{d:DefRec}{kwd:List (PySem.Str×PySem.Expr)}(ho:∀s:SharedT,ob s=H.obs s.abs)
  (e:opening r.prog=plainProg r.prog.main.scope.names) (f:∀s,fenceModules? r.prog s=some s) (run:∀w,RunEq r q H ob M loose w)
  (hdef:defOf q r.name=some (d,kwd)) (hp:r.prog.theDef r.name=some (d.params,d.body,d.scope)) (hk:kwWritten? d.params.kwonlyargs d.params.kw_defaults=some kwd)
  (hwr:(!r.writes||r.records.isEmpty)=true) (k1:r.wellSaid=true) (ok:(chainsOk q&&opensWell r.prog&&(frees r.toRowW&&r.within.isEmpty))=true) (hb:r.prog.bare) (hw:r.toRowW.promised)
  (call:AV q loose (XL q []) H.says r.toRowW d kwd):r.Holds:=by
 have left:LeftO r.prog q loose (fun s=>xlAt q [] s&&recOk r.toRowW.records s) H.obs H.val (M+600) true:=
  left_one (M:=M) e (Nat.ble_eq_true_of_le (by omega)) f (Nat.ble_eq_true_of_le (by omega)) fun w os=>by
   have z:=run w os
   have eo:ob=fun s=>H.obs s.abs:=funext ho
   rw [eo] at z
   simp only [endQ_eq,seenQ_eq]
   exact z
 refine ⟨k1,hw,CP (r:=r.toRowW) (XP:=XL q []) (YP:=H.says) (tree:=fun vs=>do match ←nsGet mainNs r.name with
   | some f=>do ret (←PySem.call f vs)
   | none=>unsupported "claim.caller:no-such-global") left H.of H.keeps (fun s z=>xl_of s (Bool.and_eq_true_iff.mp z).1) XL.keeps (fun s z=>recFacts_of (Bool.and_eq_true_iff.mp z).2) hwr ok hb hw
  (fun vs w s mg f Q E hg hf h=>wpAny_bind (wpAny_nsGet hg (by rw [hf]; exact wpAny_bind (wpAny_mono h (fun _ _ x=>wpAny_pure x) fun _ _ x=>x))))
  (fun w s hg G n hn=>?_) fun w s0 s1 mg mb G Y args vs as hpre hlay L low=>?_⟩
 ·obtain rfl:n=r.name:=by split at hn <;> simp_all
  exact pinned_of_view hg G hdef hp hk
 ·obtain ⟨a,o,pm,cd,doc,dV,kV,h1,h2,h3,h4,h5⟩:=G.fn hdef
  exact ⟨.ref a,h1,call w s0 s1 mg mb G Y a o pm cd doc dV kV h2 h3 h4 h5 (defOf_name hdef ▸h1) L.gens args vs as hpre hlay L.reads L.well (L.low low)⟩
structure LawOk (P:Program) (w:World) (K:Fs.Frag) (mg:PySem.Str→Option Value) (base:Heap) (n:Nat) (fa:Addr):Prop where
 run:∀(s:Shared) (H:Hp) (a:Addr) (ns:List Int),Env0 P w K mg base callerA [] s H→s.gens= #[]→SqL K H a (ns.map V.int)→ns.length≤n→
  codeAny (M0 P w) callerA (.call (.ref fa) ⟨[.ref a],[]⟩) (fun r s'=>CR (L2N.CX P w) [] P w H s (fun v H'=>v=.bl true∧Gok H' s') E0 r s') s
section
variable {X:Cx} {E:XK} {x:Str} {e a b c:Expr} {es rest:List Expr} {p pos:Pos} {ta tb te:DTE} {tA:DTA}
end
section
variable {X:Cx} {E:XK} {x:Str} {e a b c:Expr} {es rest:List Expr} {p pos:Pos} {ta tb te:DTE} {tA:DTA}
end
section
variable {X:Cx} {E:XK} {x:Str} {e:Expr} {es:List Expr} {kws:List Keyword} {p pos:Pos} {tA tK:DTA} {k n:Nat} {ps ks:List Str} {sp:SpD} {spg:SpG} {gV:List V→List V→List V} {gW:List W→List W→List W}
end
def gR2{α:Type}(_vs ws:List α):List α:=match ws with | [a,b]=>[b,a] | _=>[]
theorem Reo.r2{K:Frag}:Reo K gR2 gR2:=fun _ _ _ _ _ _ _ r=>by
 unfold gR2
 cases r with
 | nil=>exact .nil
 | cons a r=>
  cases r with
  | nil=>exact .nil
  | cons b r=>
   cases r with
   | nil=>exact .cons b (.cons a .nil)
   | cons _ _=>exact .nil
def gK{α:Type}(_vs ws:List α):List α:=ws
theorem Reo.gK{K:Frag}:Reo K gK gK:=fun _ _ _ _ _ _ _ r=>r
section
variable {X:Cx} {E:XK}
section
variable {elt tg iter tg1 iter1:Expr} {ifs ifs1:List Expr} {scope:Scope} {own:List (Str×Nat)} {is is1:List Nat} {pos:Pos} {ti ti1:DTI} {g g1:DTG} {tt tt1:DTT} {te:DTE}
end
end
section
variable {P:Program} {w:World} {A:Around} {s:Shared} {R:Result→Shared→Prop}
end
section
variable {X:Cx} {s3:Shared} {H3:Hp} {scope:Scope} {ce:Env} {fp:List Addr}
end
section
variable {X:Cx} {E:XK}
end
open PyProof.Rows PySem.Froz in
open PySem.Froz in
section
open PySem PyProof.Rows
variable {prog:Program} {w:World} {A:Around} {R:Result→Shared→Prop} {s:Shared} {elt t0 i0 t1 i1:Expr} {ifs0 ifs1:List Expr} {scope:Scope} {pos:Pos} {it acc:Value} {env:Env}
end
section
variable {P:Program} {w:World} {A:Around} {s:Shared} {R:Result→Shared→Prop}
end
section
variable {P:Program} {w:World} {A:Around} {s:Shared} {R:Result→Shared→Prop}
end
section
variable {X:Cx} {s3:Shared} {H3:Hp} {scope:Scope} {ce:Env} {fp:List Addr}
end
section
variable {P:Program} {w:World} {A:Around} {E:Value→Shared→Prop} {s:Shared}
end
section
variable {X:Cx} {E:XK}
end
def mD(l:List Key)(j:Key):Bool:=l.any fun x=>decide (x=j)
def onK(l:List Key)(k:Key):List Key:=if mD l k=true then l else l++[k]
def zx(l:List Key):List Key:=l.foldl onK []
theorem zy(l:List Key)(k:Key):(onK l k).length=if mD l k=true then l.length else l.length+1:=by
 unfold onK
 by_cases h:mD l k=true
 ·rw [if_pos h,if_pos h]
 ·rw [if_neg h,if_neg h,List.length_append]; rfl
theorem zA(l:List Key)(k j:Key):mD (onK l k) j=(mD l j||decide (j=k)):=by
 unfold onK
 by_cases h:mD l k=true
 ·rw [if_pos h]
  by_cases e:j=k
  ·subst e; rw [h]; rfl
  ·simp [e]
 ·rw [if_neg h]
  show (l++[k]).any _=_
  rw [List.any_append]
  show (mD l j||(decide (k=j)||false))=_
  rw [Bool.or_false]
  by_cases e:j=k
  ·subst e; rfl
  ·have e':¬k=j:=fun z=>e z.symm
   simp [e,e']
theorem Bz(l:List Key)(k:Key):(onK l k).length≤l.length+1:=by
 unfold onK
 split
 ·omega
 ·rw [List.length_append]; exact Nat.le_refl _
def KS(P:Program)(w:World)(a:Addr)(l:List Key):HO:=SetK P w a (mD l) l.length
section
variable {X:Cx} {pins:List (Addr×Obj)} {σ:L2.St} {H:Hp} {s:Shared} {D:Addr} {l:List Key} {E:Value→Shared→Prop}
theorem qJ{P:Program}{w:World}{h:Heap}{a:Addr}{S S':Key→Bool}{n n':Nat}(R:h.SetOf (mixKind P w) a S n)(e:∀k,S k=S' k)(en:n=n'):h.SetOf (mixKind P w) a S' n':=by
 cases (funext e:S=S')
 cases en
 exact R
theorem zB{k:Key}{u:Value}{Q:Value→Shared→Prop}(I:Inv X pins σ H s)(hD:H D=some (KS X.prog X.w D l))(r:RelV (kV k) u)(room:l.length+1<scanBound)
  (h:∀s',Inv X pins σ (upd H D (KS X.prog X.w D (onK l k))) s'→Q .none s'):wpAny (model X.prog X.w) X.A (call (.builtin "set.add") [.ref D,u]) Q E s:=by
 refine call_set_add (knd:=mixKind X.prog X.w) (kV_is r) (key_scan r) (setK_get I hD) room fun h' sb new=>?_
 have new:h'.SetOf (mixKind X.prog X.w) D (mD (onK l k)) (onK l k).length:=qJ new (fun j=>(zA l k j).symm) (zy l k).symm
 obtain ⟨o,ho⟩:∃o,h'.get? D=some o:=let ⟨o,_,_,_,ho,_⟩:=new; ⟨o,ho⟩
 exact h _ (I.write (e:=D) (t':=s.toks+1) (by rw [hD]; exact True.intro) (.inl rfl) (fun b o hb hu=>(sb.2 b hb).trans hu) ⟨o,ho⟩ (setK_new new))
theorem xm{P:Program}{w:World}{h:Heap}{led:Bool}:(h.push { cls:=.type "set",dict:=none,data:=.set #[] 0 (.fresh 0 0 led) }).SetOf (mixKind P w) h.objs.size (mD []) 0:=
 qJ (S:=fun _=>false) ⟨_, #[],0,_,Heap.get?_push_size _ rfl,⟨rfl,rfl,rfl⟩,rfl,(fun e he=>by simp at he),(fun k=>by simp),(by decide),(by rfl),rfl⟩ (fun _=>rfl) rfl
theorem zC{Q:Value→Shared→Prop}(I:Inv X pins σ H s)(hD:H D=some (KS X.prog X.w D l))(h:∀u s',RelV (.int l.length) u→Inv X pins σ H s'→Q u s'):wpAny (model X.prog X.w) X.A (call (.builtin "len") [.ref D]) Q E s:=by
 have R:=setK_get I hD
 obtain ⟨o,es,ep,t,ho,hex,hd,_,_,hb,hf,hn⟩:=R
 refine PySem.call_len_set ho hex hd hf (by unfold scanBound at hb; omega) (h _ _ ⟨_,by rw [hn]⟩ (I.tok _))
end
def tSk(P:Program)(w:World)(wi:TI)(g:TG)(tt:TT)(te:TE)(vs:List Nat):TE:=fun σ H Q=>wi σ H fun J H1=>∀D,H1 D=none→∃W:Nat→Nat→Hp→Prop,(∃m,W 0 m (upd H1 D (KS P w D [])))∧∀i m H,W i m H→
 (J.stop i H∧Q (.ref D) H)∨(J.go i H∧∃Nx:Hp→Prop,(∀H',Nx H'→∃m',m'<m∧W (i+1) m' H')∧∀x H',J.yld i H x H'→g x (wipe σ vs) H' fun σ2 H2=>wipe σ2 vs=wipe σ vs∧tt σ2 H2 fun b H3=>
  if b=true then te σ2 H3 fun y H4=>∃(k:Key) (l:List Key),y=kV k∧H4 D=some (KS P w D l)∧l.length+1<scanBound∧Nx (upd H4 D (KS P w D (onK l k))) else Nx H3)
section
variable {X:Cx} {pins:List (Addr×Obj)} {s:Shared} {σ:L2.St} {H:Hp} {Q:VK} {elt tg iter:Expr} {ifs:List Expr} {scope:Scope} {own:List (Str×Nat)} {pos pos':Pos} {wi:TI} {g:TG} {tt:TT} {te:TE}
theorem zD{use:Option (Value→Sem Unit)}{Qf:Value→Shared→Prop}(hc:X.calm=true)(hN:X.N.Nodup)(I:Inv X pins σ H s)(hi:PI X tg iter wi)(ok:BlkOk X.N X.env.scope scope own)
  (hg:∀s H C cl fp,PG (X.blk s H scope (compEnvC scope cl C X.env) fp) tg g) (ht:∀s H C cl fp,PTs (X.blk s H scope (compEnvC scope cl C X.env) fp) ifs tt)
  (he:∀s H C cl fp,PE (X.blk s H scope (compEnvC scope cl C X.env) fp) elt te) (hs:∀x,foldedSetIterable iter X.env x=pure x)
  (h:tSk X.prog X.w wi g tt te (own.map (·.2)) σ H Q)
  (fin:∀D C s' m H',Inv X pins σ H' s'→Q (.ref D) H'→s'.heap.Ns C m→FpOk X pins H' C→compPost (model X.prog X.w) X.A X.xe use Qf (.ref D) C (.ok .next) s'):
  wpAny (model X.prog X.w) X.A (comprehension (.SetComp elt [⟨tg,iter,ifs,0⟩] scope pos) scope X.env pos' (newSet (.type "set")) false (eval iter X.env) use) Qf X.xe s:=by
 have closed:∀y∈scope.names,y.2=.free→∃c,X.env.cells.lookup y.1=some c:=fun y hy e=>(ok.free y hy e).elim (fun z=>I.ok.has _ (.inl z)) fun z=>I.ok.has _ (.inr z)
 refine wpAny_comprehension_free (use:=use) rfl hs (closure_ok closed) ok.kind (fun y hy e=>by rw [ok.uniq y hy,e]) ?_
 refine thn (hi.run pins s σ H _ I h) fun xv s1 hx=>thn hx fun itv s2 h2=>?_
 obtain ⟨it,fp,tn,J,H2,rfl,I2,T,st2,f2,q⟩:=h2
 refine PpSet.newSet_ok (newEnv_comp ?_)
 generalize hD:s2.heap.objs.size=D
 have hDn:H2 D=none:=I2.hok.fresh (Nat.le_of_eq hD)
 obtain ⟨W,⟨m0,w0⟩,turn⟩:=q D hDn
 generalize hs3:({ s2 with heap:=s2.heap.push { cls:=.type "set",dict:=none,data:=.set #[] 0 (.fresh 0 0 (!X.w.params.followText "set-order")) } }:Shared)=s3
 have hs3:=hs3.symm
 have I3:Inv X pins σ (upd H2 D (KS X.prog X.w D [])) s3:=by
  subst hs3 hD
  exact I2.laid (t':=s2.toks) (fun b o e=>Heap.get?_push_of_some _ e) (Nat.le_refl _) (setK_new xm)
 have h3:∀b o,s2.heap.get? b=some o→s3.heap.get? b=some o:=fun b o e=>by
  rw [hs3]
  exact Heap.get?_push_of_some _ e
 have z3:s3.heap.objs.size=s2.heap.objs.size+1:=by
  rw [hs3]
  exact Heap.size_push _ _
 obtain ⟨H3,hH3⟩:∃H3,H3=upd H2 D (KS X.prog X.w D []):=⟨_,rfl⟩
 rw [←hH3] at I3 w0
 have f3:∀b∈fp,FpOk X pins H3 b∧b<s3.heap.objs.size:=fun b hb=>by
  obtain ⟨o,e,_⟩:=T.obj _ _ st2 b hb
  have lt:b<s2.heap.objs.size:=Heap.lt_size e
  have lt3:b<s3.heap.objs.size:=by rw [z3]; exact Nat.lt_succ_of_lt lt
  refine ⟨⟨?_,(f2 b hb).2⟩,lt3⟩
  rw [hH3,upd_ne (by rw [←hD]; exact Nat.ne_of_lt lt)]
  exact (f2 b hb).1
 have st3:tn 0 s3.heap:=T.keep _ _ _ st2 fun b _=>h3 b
 have I4:=block_start I3 ok hN f3
 have pg:=hg s3 H3 s3.heap.objs.size (cellsFrom (s3.heap.objs.size+1) scope.names (cloFrom X.env.cells scope.names [])) fp
 have pt:=ht s3 H3 s3.heap.objs.size (cellsFrom (s3.heap.objs.size+1) scope.names (cloFrom X.env.cells scope.names [])) fp
 have pe:=he s3 H3 s3.heap.objs.size (cellsFrom (s3.heap.objs.size+1) scope.names (cloFrom X.env.cells scope.names [])) fp
 have nfp:∀b∈fp,H3 b=none:=fun b hb=>(f3 b hb).1.1
 have goal:codeAny (model X.prog X.w) X.A (.compStart (.SetComp elt [⟨tg,iter,ifs,0⟩] scope pos) 0 (.ref it) (.ref D) (compEnvC scope (cellsFrom (s3.heap.objs.size+1) scope.names (cloFrom X.env.cells scope.names [])) s3.heap.objs.size X.env)) (compPost (model X.prog X.w) X.A X.xe use Qf (.ref D) s3.heap.objs.size) { s3 with heap:=pushCells (s3.heap.push { cls:=.type "dict",data:=.dict #[] }) scope.names }:=by
  obtain ⟨ce,hce⟩:∃ce,ce=compEnvC scope (cellsFrom (s3.heap.objs.size+1) scope.names (cloFrom X.env.cells scope.names [])) s3.heap.objs.size X.env:=⟨_,rfl⟩
  rw [←hce] at I4 pg pt pe ⊢
  have cL:ce.locals=s3.heap.objs.size:=by rw [hce] <;> rfl
  obtain ⟨s4,hs4⟩:∃s4:Shared,s4={ s3 with heap:=pushCells (s3.heap.push { cls:=.type "dict",data:=.dict #[] }) scope.names }:=⟨_,rfl⟩
  rw [←hs4] at I4 ⊢
  have st4:tn 0 s4.heap:=T.keep _ _ _ st3 fun b _ o e=>by
   rw [hs4]
   exact pushCells_keeps _ _ _ _ (Heap.get?_push_of_some _ e)
  have stat:∀{σ':L2.St} {H':Hp} {s':Shared},Inv (X.blk s3 H3 scope ce fp) [] σ' H' s'→(∀b∈fp,H' b=none)→∀b∈fp,FpOk (X.blk s3 H3 scope ce fp) [] H' b:=fun J' hn b hb=>
   ⟨hn b hb,(J'.ok.exf b hb).1,J'.ok.exfs b hb,.inl hb,fun x c e=>(J'.ok.exf b hb).2 x c e,fun p hp=>absurd (show p∈([]:List (Addr×Obj))++[] from hp) (by simp)⟩
  refine PpSet.codeAny_compStart_set ?lp (T.self X.A 0 _ _ _ st4 ?lp)
  refine PpSet.compLoopS_any (fun n s'=>∃i H',Inv (X.blk s3 H3 scope ce fp) [] (wipe σ (own.map (·.2))) H' s'∧tn i s'.heap∧(∀b∈fp,H' b=none)∧W i n H') ?_ m0 ⟨0,H3,I4,st4,nfp,w0⟩
  rintro n s5 ⟨i,H5,I5,st5,n5,w5⟩
  rcases turn i n H5 w5 with ⟨stop,qq⟩ | ⟨go,Nx,hNx,step⟩
  ·refine thnF (T.done (X.blk s3 H3 scope ce fp) rfl rfl rfl hc i [] s5 _ H5 (fun _ _=>False) I5 (stat I5 n5) st5 stop) fun r s6 ⟨hr,I6⟩=>?_
   cases hr
   have I7:Inv X pins σ H5 s6:=I3.call' (ch:=fp) I6.os I6.base I6.hok I6.bare fun b hb=>
    let z:=(f3 b hb).1.2
    ⟨z.2.2.1,z.1,z.2.2.2.1,z.2.2.2.2⟩
   have nC:H5 s3.heap.objs.size=none:=cL ▸I6.free
   obtain ⟨m,hn,_⟩:=I6.loc
   exact fin D s3.heap.objs.size s6 m H5 I7 qq (cL ▸hn) (I3.fpOk (Nat.le_refl _) nC)
  ·refine thnF (T.item (X.blk s3 H3 scope ce fp) rfl rfl rfl hc i [] s5 _ H5 (fun _ _=>False) I5 (stat I5 n5) st5 go) fun r s6 ⟨u,hr,h6⟩=>?_
   cases hr
   refine thnF h6 fun _ s7 ⟨x,H7,I7,r7,y7,st7,n7⟩=>?_
   have I7p:=I7.pinned (stat I7 n7) (T.obj _ _ st7)
   refine thnF (pg.run _ s7 _ H7 x u _ I7p r7 (step x H7 y7)) fun _ s8 ⟨σ8,H8,I8,hw8,q8⟩=>?_
   refine thnF (pt.run _ s8 σ8 H8 _ I8 q8) fun b s9 ⟨H9,I9,q9⟩=>?_
   have next:∀{s':Shared} {H':Hp},Inv (X.blk s3 H3 scope ce fp) ([]++pinsAt fp s7.heap) σ8 H' s'→Nx H'→∃m,m<n∧∃i H',Inv (X.blk s3 H3 scope ce fp) [] (wipe σ (own.map (·.2))) H' s'∧tn i s'.heap∧(∀b∈fp,H' b=none)∧W i m H':=fun {s' H'} J' nx=>by
    obtain ⟨m',lt,w'⟩:=hNx H' nx
    have held:∀b∈fp,∀o,s7.heap.get? b=some o→s'.heap.get? b=some o∧H' b=none:=fun b hb o e=>
     let z:=J'.pin (b,o) (List.mem_append_right _ (List.mem_append_right _ (mem_pinsAt hb e)))
     ⟨z.1,z.2.1⟩
    have hl:(wipe σ (own.map (·.2))).length=σ8.length:=by rw [←hw8,wipe_length]
    refine ⟨m',lt,i+1,H',?_,T.keep _ _ _ st7 fun b hb o e=>(held b hb o e).1,fun b hb=>let ⟨o,e,_⟩:=T.obj _ _ st7 b hb; (held b hb o e).2,w'⟩
    exact (J'.unpinned (pins:=[])).weak hl fun j v e=>(wipe_some (hw8 ▸e)).1
   cases b with
   | false=>exact next I9 q9
   | true=>
    refine thnF (pe.run _ s9 σ8 H9 _ I9 q9) fun z s10 ⟨yv,H10,I10,r10,k0,l0,ey,hD10,room,nx⟩=>?_
    subst ey
    exact zB (X:=X.blk s3 H3 scope ce fp) I10 hD10 r10 room fun s11 I11=>next I11 nx
 exact goal
theorem CS(hc:X.calm=true)(hN:X.N.Nodup)(hi:PI X tg iter wi)(ok:BlkOk X.N X.env.scope scope own)
  (hg:∀s H C cl fp,PG (X.blk s H scope (compEnvC scope cl C X.env) fp) tg g) (ht:∀s H C cl fp,PTs (X.blk s H scope (compEnvC scope cl C X.env) fp) ifs tt)
  (he:∀s H C cl fp,PE (X.blk s H scope (compEnvC scope cl C X.env) fp) elt te) (hs:∀x,foldedSetIterable iter X.env x=pure x:=by intro _; rfl):
  PE X (.SetComp elt [⟨tg,iter,ifs,0⟩] scope pos) (tSk X.prog X.w wi g tt te (own.map (·.2))):=by
 refine ⟨fun pins s σ H Q I h=>?_⟩
 rw [PpSet.eval_SetComp]
 refine zD hc hN I hi ok hg ht he hs h fun D C s' m H' I' q hn f=>⟨m,hn,fun h2 sb=>?_⟩
 obtain ⟨f0,f1,f2,f3,f4,f5⟩:=f
 exact ⟨.ref D,H',I'.turned (t':=s'.toks) (fun b o hb e=>(sb.2 b hb).trans e) f0 f1 f3 f4 f5,rfl,q⟩
def CT(P:Program)(w:World)(te:TE):TE:=fun σ H Q=>te σ H fun x H1=>∃D l,x=.ref D∧H1 D=some (KS P w D l)∧Q (.int l.length) H1
theorem zE{e:Expr}{te:TE}{p pos:Pos}(hm:X.mg "len"=none)(he:PE X e te)(hg:Gl X "len":=by rfl)(hs:starEach [e] X.env=(false,eval e X.env)::starEach [] X.env:=by rfl)(hpl:(backTo pos (starEach [] X.env)).any (·.1)=false:=by rfl):PE X (.Call (.Name "len" p) [e] [] pos) (CT X.prog X.w te):=by
 refine ⟨fun pins s σ H Q I h=>?_⟩
 refine Call_ (ld_blt I hg hm PySem.boot_len ?_)
 rw [hs]
 refine Calls.callWith_builtin (by show (false||(backTo pos (starEach [] X.env)).any (·.1))=false; rw [hpl] <;> rfl) (Calls.evalArgs_plain ?_)
 refine Calls.spliced_cons (thn (he.run pins s σ H _ I h) fun v s1 ⟨x,H1,I1,r1,D,l,ex,hD,q⟩=>Calls.spliced_nil ?_)
 subst ex
 cases r1
 exact zC I1 hD fun u s' ru I'=>⟨.int l.length,H1,I',ru,q⟩
end
section
variable {prog:Program} {w:World} {A:Around} {R:Result→Shared→Prop} {I:Addr} {fp wr:List Addr} {G:Array GenState→Array GenState→Prop} {n:Nat} {P:Nat→Value→Prop} {St:Nat→Shared→Prop}
end
section
variable {prog:Program} {w:World} {A:Around} {E:Value→Shared→Prop} {s:Shared}
set_option maxHeartbeats 3200000 in
end
section
variable {X:Cx}
end
def kOf:W→(Key→Prop)→Prop
 | .v (.int i),Q=>Q (.inl i)
 | .v (.str x),Q=>Q (.inr x)
 | _,_=>False
theorem BA{K:Frag}{B:Hp}{μ:List Addr}{v:V}{y:W}{Q:Key→Prop}(r:RW K B μ v y)(q:kOf y Q):∃k,v=kV k∧Q k:=by
 cases y with
 | loc n=>exact q.elim
 | v d=>
  cases (show Rv K B v d from r) with
  | int i=>exact ⟨.inl i,rfl,q⟩
  | str _=>exact ⟨.inr _,rfl,q⟩
  | _=>exact q.elim
theorem zF{P:Program}{w:World}{a:Addr}{l:List Key}{q:Str}:KS P w a l≠LamX.CodeO a q:=fun z=>by
 have e:=HO.ext.inj (show HO.ext _=HO.ext _ from z)
 obtain ⟨oc,eo⟩:∃oc:Obj,oc={ cls:=.none,dict:=none,data:=.fields #[.none,.str q 0],slots:= #[] }:=⟨_,rfl⟩
 obtain ⟨h,eh⟩:∃h:Heap,h={ objs:=Array.replicate (a+1) oc }:=⟨_,rfl⟩
 have hg:h.get? a=some oc:=Heap.get?_some_iff.mpr ⟨by rw [eh]; simp,by rw [eo]; rfl⟩
 have t:(∃(oc:Obj) (vs:Array Value) (t:Tok),h.get? a=some oc∧oc.data=.fields vs∧vs[1]? =some (.str q t)):=⟨oc,_,0,hg,by rw [eo],rfl⟩
 rw [←congrFun e h] at t
 obtain ⟨o,es,ep,tb,ho,hx,hd,_⟩:=t
 rw [hg] at ho
 cases ho
 rw [eo] at hd
 cases hd
def scL(g:DTG)(tt:DTT)(te:DTE)(en:En):List D→List Key→Me→(W→Me→Prop)→Prop
 | [],l,m,Q=>Q (.v (.int l.length)) m
 | d::ds,l,m,Q=>g (.v d) en m fun en1 m1=>tt en1 m1 (fun b m2=>if b=true then te en1 m2 (fun y m3=>kOf y fun k=>l.length+1<scanBound∧scL g tt te en ds (onK l k) m3 Q) noX else scL g tt te en ds l m2 Q) noX
def DM(ti:DTI)(g:DTG)(tt:DTT)(te:DTE)(vs:List Nat):DTE:=fun en m Q Qx=>ti en m (fun its m1=>scL g tt te (gt en vs) its [] m1 Q) Qx
section
variable {K:Frag} {J:It} {n:Nat} {G:Hp→Prop} {Y:Nat→Hp→V→Hp→Prop}
theorem CU{P:Program}{w:World}(wk:Walk J n G Y){g:TG}{tt:TT}{te:TE}{vs:List Nat}{σ:L2.St}{H1:Hp}{D:Addr}{Qd:Hp→Prop}(Pv:Nat→Hp→Prop)(h0:Pv 0 (upd H1 D (KS P w D [])))(hG:∀i H,i≤n→Pv i H→G H)
  (hs:∀i x H H',i<n→Pv i H→Y i H x H'→g x (wipe σ vs) H' fun σ2 H2=>wipe σ2 vs=wipe σ vs∧tt σ2 H2 fun b H3=>
   if b=true then te σ2 H3 fun y H4=>∃(k:Key) (l:List Key),y=kV k∧H4 D=some (KS P w D l)∧l.length+1<scanBound∧Pv (i+1) (upd H4 D (KS P w D (onK l k))) else Pv (i+1) H3) (hd:∀H,Pv n H→Qd H):
  ∃W:Nat→Nat→Hp→Prop,(∃m,W 0 m (upd H1 D (KS P w D [])))∧∀i m H,W i m H→
   (J.stop i H∧Qd H)∨(J.go i H∧∃Nx:Hp→Prop,(∀H',Nx H'→∃m',m'<m∧W (i+1) m' H')∧∀x H',J.yld i H x H'→g x (wipe σ vs) H' fun σ2 H2=>wipe σ2 vs=wipe σ vs∧tt σ2 H2 fun b H3=>
    if b=true then te σ2 H3 fun y H4=>∃(k:Key) (l:List Key),y=kV k∧H4 D=some (KS P w D l)∧l.length+1<scanBound∧Nx (upd H4 D (KS P w D (onK l k))) else Nx H3):=by
 refine ⟨fun i m H=>m=n - i∧i≤n∧Pv i H,⟨n,rfl,Nat.zero_le _,h0⟩,fun i m H ⟨e,hi,p⟩=>?_⟩
 subst e
 rcases Nat.lt_or_ge i n with lt | ge
 ·exact .inr ⟨wk.goes i H lt (hG i H hi p),Pv (i+1),fun H' p'=>⟨n - (i+1),by omega,rfl,lt,p'⟩,fun x H' y=>hs i x H H' lt p (wk.yields i H x H' lt (hG i H hi p) y)⟩
 ·obtain rfl:i=n:=by omega
  exact .inl ⟨wk.stops H (hG i H hi p),hd H p⟩
end
section
variable {X:Cx} {E:XK}
theorem zG{elt tg iter:Expr}{ifs:List Expr}{scope:Scope}{own:List (Str×Nat)}{is:List Nat}{p pos pos2:Pos}{ti:DTI}{g:DTG}{tt:DTT}{te:DTE}(hm:X.mg "len"=none)(hc:X.calm=true)(hN:X.N.Nodup)(hi:DI X E tg iter ti)(ok:BlkOk X.N X.env.scope scope own)
  (hg:∀(s:Shared) (H:Hp) (C:Addr) (cl:List (Str×Addr)) (fp:List Addr),DG (X.blk s H scope (compEnvC scope cl C X.env) fp) tg is g) (ht:∀(s:Shared) (H:Hp) (C:Addr) (cl:List (Str×Addr)) (fp:List Addr),DTs (X.blk s H scope (compEnvC scope cl C X.env) fp) E0 ifs tt)
  (he:∀(s:Shared) (H:Hp) (C:Addr) (cl:List (Str×Addr)) (fp:List Addr),DE (X.blk s H scope (compEnvC scope cl C X.env) fp) E0 elt te) (hs:∀x,foldedSetIterable iter X.env x=pure x:=by intro _; rfl) (hv:is.all (fun i=>(own.map (·.2)).contains i)=true:=by rfl) (hgl:Gl X "len":=by rfl)
  (hst:starEach [.SetComp elt [⟨tg,iter,ifs,0⟩] scope pos] X.env=(false,eval (.SetComp elt [⟨tg,iter,ifs,0⟩] scope pos) X.env)::starEach [] X.env:=by rfl) (hpl:(backTo pos2 (starEach [] X.env)).any (·.1)=false:=by rfl):
  DE X E (.Call (.Name "len" p) [.SetComp elt [⟨tg,iter,ifs,0⟩] scope pos] [] pos2) (DM ti g tt te (own.map (·.2))):=by
 obtain ⟨t0,p0,k0⟩:=hi.ex
 have hv':∀i∈is,i∈own.map (·.2):=fun i h=>List.contains_iff_mem.mp (List.all_eq_true.mp hv i h)
 refine ⟨_,zE hm (CS hc hN p0 ok (g:=lG X.K is g) (tt:=lT X.K E0 tt) (te:=lE X.K E0 te) (fun s H C cl fp=>(hg s H C cl fp).pg) (fun s H C cl fp=>(ht s H C cl fp).pts) (fun s H C cl fp=>(he s H C cl fp).pe) hs) hgl hst hpl,fun B μ en m σ H Q Qx QV R hx T k=>?_⟩
 refine k0 B μ en m σ H _ Qx _ R hx T fun B1 μ1 m1 H1 its J s1 R1 ⟨G,Y,w,hG,hY⟩ q=>?_
 intro L nL
 obtain ⟨nb1,nl1⟩:=R1.mem.none nL
 have Rw:=R1.wipe (own.map (·.2))
 generalize hen:gt en (own.map (·.2))=enw at q Rw
 have nt:∀(l:List Key) ps,KS X.prog X.w L l≠ .tbl ps:=fun l ps z=>nomatch z
 have nx:∀(l:List Key),(∀q,KS X.prog X.w L l≠LamX.CodeO L q)∧∀ps,KS X.prog X.w L l≠ .tbl ps:=fun l=>⟨fun q=>zF,nt l⟩
 refine CU w (fun i H'=>∃B' μ' m' l,Stp B1 μ1 m1 H1 B' μ' m' H'∧MemOk X.K B' μ' m' H'∧B' L=none∧¬Live μ' m' L∧H' L=some (KS X.prog X.w L l)∧scL g tt te enw (its.drop i) l m' Q) ?_ (fun i H' _ ⟨B',μ',m',l,s',M',_⟩=>hG B' μ' m' H' s'.same M') (fun i x H2 H3 hi ⟨B',μ',m',l,s',M',nb,nl,hL,q'⟩ y=>?_) (fun H' ⟨B',μ',m',l,s',M',nb,nl,hL,q'⟩=>?_)
 ·have kp:∀b o,b≠L→H1 b=some o→upd H1 L (KS X.prog X.w L []) b=some o:=fun b o c e=>by rw [upd_ne c]; exact e
  exact ⟨B1,μ1,m1,[],Stp.refl.touch nL kp,R1.mem.touch nb1 nl1 kp,nb1,nl1,upd_same,q⟩
 ·obtain ⟨B3,d,hd,s3,m3,rd⟩:=hY i B' μ' m' H2 x H3 hi s'.same M' y
  have s13:=s'.trans M' s3 R1.mem.le
  obtain ⟨nb3,nl3⟩:=s3.hid L _ nl hL (nx _) nb
  have hL3:=s3.out L _ nl hL (nt _)
  have R3:Rel X.K B3 μ' enw m' (L2.wipe σ (own.map (·.2))) H3:=Rw.stp s13 m3
  rw [List.drop_eq_getElem_cons hi] at q'
  have ed:its[i]=d:=by
   rw [List.getElem?_eq_getElem hi] at hd
   exact Option.some.inj hd
  rw [ed] at q'
  refine ⟨B3,μ',enw,m',.v d,_,R3,rd,q',fun B4 μ4 en4 m4 σ4 H4 s4 R4 st4 q4=>⟨by rw [st4.wipe hv',iv],?_⟩⟩
  have s14:=s13.trans m3 s4 R1.mem.le
  obtain ⟨nb4,nl4⟩:=s4.hid L _ nl3 hL3 (nx _) nb3
  have hL4:=s4.out L _ nl3 hL3 (nt _)
  refine ⟨B4,μ4,en4,m4,_,noX,R4,ExOf.no,q4,fun B5 μ5 m5 H5 b s5 R5 q5=>?_⟩
  have s15:=s14.trans R4.mem s5 R1.mem.le
  obtain ⟨nb5,nl5⟩:=s5.hid L _ nl4 hL4 (nx _) nb4
  have hL5:=s5.out L _ nl4 hL4 (nt _)
  cases b with
  | false=>exact iteF ⟨B5,μ5,m5,l,s15,R5.mem,nb5,nl5,hL5,q5⟩
  | true=>
   refine iteT ⟨B5,μ5,en4,m5,_,noX,R5,ExOf.no,q5,fun B6 μ6 m6 H6 y v s6 R6 r6 q6=>?_⟩
   obtain ⟨kk,ev,lz,q6⟩:=BA r6 q6
   have s16:=s15.trans R5.mem s6 R1.mem.le
   obtain ⟨nb6,nl6⟩:=s6.hid L _ nl5 hL5 (nx _) nb5
   have hL6:=s6.out L _ nl5 hL5 (nt _)
   have kp:∀b o,b≠L→H6 b=some o→upd H6 L (KS X.prog X.w L (onK l kk)) b=some o:=fun b o c e=>by rw [upd_ne c]; exact e
   exact ⟨kk,l,ev,hL6,lz,B6,μ6,m6,onK l kk,s16.touch nL kp,R6.mem.touch nb6 nl6 kp,nb6,nl6,upd_same,q6⟩
 ·rw [List.drop_length] at q'
  have stt:=s1.trans R1.mem s' R.mem.le
  exact ⟨L,l,rfl,hL,k B' μ' m' H' _ _ stt (R.stp stt M') (RW.d (.int _)) q'⟩
end
section
variable {X:Cx} {E:XK}
end
section
variable {X:Cx} {G:Gst} {pins:List (Addr×Obj)} {its:List D} {O:Ow} {T B H:Hp} {σ:L2.St} {s:Shared}
open Classical in
theorem Cons.drop(C:Cons X G pins its O T B H σ s)(ld:LDc O T H s):∃H',Inv X pins σ H' s∧Gok H' s∧(∀b o,H b=some o→H' b=some o)∧∀b o,H' b=some o→H b=some o∨(H b=none∧∃od u,o=.frz od u):=by
 have I:=C.inv
 let P:Addr→Prop:=fun a=>O a∧T a=none∧cR (s.heap.get? a)=true
 have FR:∀a,P a→FpOk X pins H a:=fun a h=>C.fp a (.inr ⟨h.1,h.2.1⟩)
 let H':Hp:=fun a=>if P a then (s.heap.get? a).map (fun o=>.frz o (.ext fun h'=>h'.get? a=some o)) else H a
 have old:∀b o,H b=some o→H' b=some o:=fun b o e=>by
  show (if P b then _ else H b)=_
  rw [if_neg fun z=>by rw [(FR b z).1] at e; cases e]
  exact e
 have new:∀b o,H' b=some o→H b=some o∨(P b∧∃od,s.heap.get? b=some od∧o=.frz od (.ext fun h'=>h'.get? b=some od)):=fun b o e=>by
  have e:(if P b then (s.heap.get? b).map (fun o=>HO.frz o (.ext fun h'=>h'.get? b=some o)) else H b)=some o:=e
  split at e
  ·rename_i p
   obtain ⟨od,h1,h2⟩:=Option.map_eq_some_iff.mp e
   exact .inr ⟨p,od,h1,h2.symm⟩
  ·exact .inl e
 let ch:=(List.range s.heap.objs.size).filter fun a=>decide (P a)
 have inch:∀a o,s.heap.get? a=some o→P a→a∈ch:=fun a o e p=>List.mem_filter.mpr ⟨List.mem_range.mpr (Heap.lt_size e),decide_eq_true p⟩
 have chP:∀a∈ch,P a:=fun a h=>of_decide_eq_true (List.mem_filter.mp h).2
 refine ⟨H',?_,?_,old,?_⟩
 ·refine I.step (g':=s.gens) (d':=s.drawn) (t':=s.toks) (h':=s.heap) (ch:=ch) (fun b hb=>?_) (fun b o _ _ _ e _=>e) (fun b o _ _ _ e _=>⟨o.slots,e⟩) (fun b o hc e n=>?_) (fun b o _ e=>⟨o,e⟩) (fun b xs e=>old b _ e) (fun b o u e=>old b _ e) (fun b ps e=>⟨#[],by rw [old b _ e]; simp⟩) (fun m hm=>hm) (fun b u e=>?_) I.bare
  ·obtain ⟨_,ne,nf,ex,cl,pn⟩:=FR b (chP b hb)
   exact ⟨ex,ne,cl,pn⟩
  ·show (if P b then _ else H b)=none
   rw [if_neg fun z=>hc (inch b o e z)]
   exact n
  ·rcases new b u e with e | ⟨p,od,e1,rfl⟩
   ·exact (I.hok b u e).stay (fun _ _ _ q=>q) (fun _ q=>old _ _ q) fun _ _ q=>old _ _ q
   ·exact ⟨e1,e1,⟨od,e1⟩,fun h1 h2 p1 k=>k od p1⟩
 ·intro a z
  rcases ld a z with ⟨o,u,e,h⟩ | ⟨h1,h2,h3⟩
  ·exact ⟨o,u,old a _ e,h⟩
  ·have p:P a:=⟨h1,h2,h3⟩
   cases e:s.heap.get? a with
   | none=>
    rw [e] at h3
    cases h3
   | some o=>
    refine ⟨o,.ext fun h'=>h'.get? a=some o,?_,?_⟩
    ·show (if P a then (s.heap.get? a).map (fun o=>HO.frz o (.ext fun h'=>h'.get? a=some o)) else H a)=_
     rw [if_pos p,e]
     rfl
    ·rw [e] at h3
     exact h3
 ·intro b o e
  rcases new b o e with e | ⟨p,od,_,rfl⟩
  ·exact .inl e
  ·exact .inr ⟨(FR b p).1,od,_,rfl⟩
end
section
variable {X:Cx} {E:XK}
end
theorem oq(z:Str)(lo hi:Option Int):(Txt.slice z lo hi).length≤z.length:=by
 rw [←C8.cutS_slice]
 unfold cutS
 show (List.take _ (List.drop _ z.cps.toList)).toArray.size≤z.cps.size
 rw [List.size_toArray,List.length_take,List.length_drop,Array.length_toList]
 omega
abbrev kf:Stmt:=top 44
abbrev vw:List Str:=["_law_bag_here","_law_things"]
abbrev kh:List Str:=["_law_bag_here","_law_things"]
theorem sC:FnScope vw kh (defScope kf):=⟨rfl,rfl,rfl,by decide+kernel,rfl,by decide+kernel,by decide+kernel⟩
section
variable {P:Program} {w:World} {K:Frag} {mg:Str→Option Value} {base:Heap}
def AW:SpD:=fun ws m Q _=>∃n x ds,ws=[.loc n,.v x]∧m[n]? =some .bag∧(x=.lst ds∨x=.tup ds)∧ds≠[]∧ds.length<2 ^ 64∧∀d∈ds,Q (.v d) m
theorem sE(G:Gs K mg "_law_of" kf)(g__law_pull:Gd P w K mg base (L2N.CX P w) 1 "_law_pull" br (lift K eT))(m_len:mg "len"=none):Gd P w K mg base (L2N.CX P w) 2 "_law_of" kh (lift K AW):=by
 refine Fo.gd (cO sC (fun ws m Q Qx h=>?_) (fun f cdv A outer s H E hr=>⟨_,(af (aq (bc (dv 1) (av g__law_pull (hr.mono (by omega)) (aw (L2N.takes_of rfl rfl rfl rfl)) (aa (dv 0) (aa (dm m_len (aa (dv 1) ac)) ac)))))),fun ws m Qd Qx h=>?_⟩) [] []) G (fun _ _ _ _ _ _ us hl=>match us,hl with | [_,_],_=>rfl)
 ·obtain ⟨n,x,ds,rfl,_⟩:=h
  rfl
 ·obtain ⟨n,x,ds,rfl,hm,hx,h0,h1,q⟩:=h
  have hl:0<ds.length:=List.length_pos_iff.mpr h0
  rcases hx with rfl | rfl
  ·refine ⟨n,ds.length,rfl,hm,by omega,by omega,fun r r0 r1=>?_⟩
   have z:=nZ (xs:=ds) r0 (by omega)
   exact ⟨_,z,List.prefix_refl _,q _ (ix z)⟩
  ·refine ⟨n,ds.length,rfl,hm,by omega,by omega,fun r r0 r1=>?_⟩
   have z:=nZ (xs:=ds) r0 (by omega)
   exact ⟨_,z,List.prefix_refl _,q _ (ix z)⟩
end
def abc:Str:="abcdefghijklmnopqrstuvwxyz"
theorem pk:abc.cps.toList.length=26:=by decide+kernel
def ot(i:Nat):Str:=⟨#[abc.cps.toList.getD i 0]⟩
def cu:List Str:=["gap","pad","row","pile","grid","clip","hole","room","one","and","or"]
def f9(stem:Str)(first at_ k:Nat):Str:=(Txt.slice stem none (some (at_:Int))++ot ((first+5 * k) % 26))++Txt.slice stem (some (at_:Int)) none
def jI(stem:Str)(first at_ k:Nat):Str:=if cu.any (fun y=>y == f9 stem first at_ k)=true then ("z"++ot k)++"q" else f9 stem first at_ k
def gb(z:Str):Prop:=∀c∈z.cps.toList,c∈abc.cps.toList
theorem xn{i:Nat}(h:i<26):atI abc.cps.toList (i:Int)=some (abc.cps.toList.getD i 0):=by
 have hk:i<abc.cps.toList.length:=by rw [pk]; exact h
 have z:=atI_nat (xs:=abc.cps.toList) (j:=i) (List.getElem?_eq_getElem hk)
 rw [z,List.getD_eq_getElem?_getD,List.getElem?_eq_getElem hk]
 rfl
theorem mE:∀zs:List Str,(Txt.join "" zs).cps.toList=zs.flatMap (·.cps.toList)
 | []=>rfl
 | x::rest=>by
  have e:Txt.join "" (x::rest)=(⟨rest.foldl (fun acc p=>acc++("":Str).cps++p.cps) x.cps⟩:Str):=rfl
  rw [e]
  show (rest.foldl (fun acc p=>acc++("":Str).cps++p.cps) x.cps).toList=_
  rw [kd]
  simp
  rfl
theorem jJ:∀(ys:List Str),(∀y∈ys,y.length=1)→(ys.map (·.length)).sum=ys.length
 | [],_=>rfl
 | y::ys,h=>by
  rw [List.map_cons,List.sum_cons,jJ ys fun z hz=>h z (List.mem_cons_of_mem _ hz),h y List.mem_cons_self,List.length_cons]
  omega
def eG(stem:Str)(first at_ m:Nat):List Str:=(List.range m).map (jI stem first at_)
def qK:SpD:=fun ws m Q _=>∃n k,ws=[.loc n,.v (.int (k:Nat))]∧m[n]? =some .bag∧k≤26∧∀stem first at_,stem.length≤3→gb stem→first<26→at_≤stem.length→Q (.v (.lst ((eG stem first at_ k).map .str))) m
abbrev dU:Stmt:=top 50
abbrev jK:List Str:=["_law_bag_here","_law_many","_law_letters","_law_first","_law_long","_law_stem","_law_at","_law_found","_law_k","_law_name"]
abbrev gc:List Str:=["_law_bag_here","_law_many"]
abbrev hJ:List (Str×Nat):=[("_law_k",8)]
theorem aI:FnScope jK gc (defScope dU):=⟨rfl,rfl,rfl,by decide+kernel,rfl,by decide+kernel,by decide+kernel⟩
section
variable {P:Program} {w:World} {K:Frag} {mg:Str→Option Value} {base:Heap}
theorem nE(G:Gs K mg "_law_names" dU)(g__law_pull:Gd P w K mg base (L2N.CX P w) 1 "_law_pull" br (lift K eT))(m_range:mg "range"=none)(m_int:mg "int"=none):Gd P w K mg base (L2N.CX P w) 2 "_law_names" gc (lift K qK):=by
 refine Fo.gd (cO aI (fun ws m Q Qx h=>?_) (fun f cdv A outer s H E hr=>⟨_,(ad (aC (i:=2) aI.nd rfl (.inr rfl) aj)
  (ad (ka (i:=3) (j:=4) rfl aI.nd rfl rfl (by decide) rfl rfl (aa (av g__law_pull (hr.mono (by omega)) (aw (L2N.takes_of rfl rfl rfl rfl)) (aa (dv 0) (aa ah ac))) (aa (av g__law_pull (hr.mono (by omega)) (aw (L2N.takes_of rfl rfl rfl rfl)) (aa (dv 0) (aa ah ac))) ac)) (by rfl))
  (ad (aC (i:=5) aI.nd rfl (.inl rfl) (mq aj (aa (qj (own:=hJ) rfl aI.nd (fJ m_range (aa (dv 4) ac)) (blkOk_by (own:=hJ) (N:=jK) (sc:=defScope dU) (by decide+kernel)) (fun _ _ _ _ _=>(az (i:=8) aI.nd rfl (.inl rfl))) (fun _ _ _ _ _=>cN) (fun _ _ _ _ _=>(bc (dv 2) (av g__law_pull (hr.mono (by omega)) md (aa (dv 0) (aa ah ac)))))) ac)))
  (ad (aC (i:=6) aI.nd rfl (.inl rfl) (av g__law_pull (hr.mono (by omega)) (aw (L2N.takes_of rfl rfl rfl rfl)) (aa (dv 0) (aa (aM aG (dv 4) ah) ac))))
  (ad (aC (i:=7) aI.nd rfl (.inl rfl) (l8 ac))
  (ad (i9 (passes_of rfl) rfl (fJ m_range (aa (dv 1) ac)) (az (i:=8) aI.nd rfl (.inl rfl))
   (ad (aC (i:=9) aI.nd rfl (.inl rfl) (aM aG (aM aG (cP (dv 5) jz (aZ (dv 6))) (bc (dv 2) (aM wu (tz m_int (aa (aM aG (dv 3) (aM wG ah (dv 8))) ac)) ah))) (cP (dv 5) (aZ (dv 6)) jz)))
   (af (cM (tv (dv 7) (aa (j7 (ay (ze (u65 hr)) (dv 9) (cf (aa aj (aa aj (aa aj (aa aj (aa aj (aa aj (aa aj (aa aj (aa aj (aa aj (aa aj ac)))))))))))) (by rfl)) (dv 9) (aM aG (aM aG aj (bc (dv 2) (dv 8))) aj)) ac))))))
  (oO 7 (af (aq (dv 7)))))))))),fun ws m Qd Qx h=>?_⟩) [] []) G (fun _ _ _ _ _ _ us hl=>match us,hl with | [_,_],_=>rfl)
 ·obtain ⟨_,_,rfl,_⟩:=h
  rfl
 ·obtain ⟨n,k,rfl,hm,hk,q⟩:=h
  refine ⟨n,26,rfl,hm,by decide,by decide,fun first f0 f1=>?_⟩
  refine ⟨n,4,rfl,hm,by decide,by decide,fun lg l0 l1=>?_⟩
  refine ⟨trivial,⟨by omega,by omega,?_⟩⟩
  have el:∀r:Int,0≤r→r<26→∃c,atI abc.cps.toList r=some c∧c∈abc.cps.toList:=fun r r0 r1=>by
   have z:=nZ (xs:=abc.cps.toList) r0 (by rw [pk]; omega)
   exact ⟨_,z,ix z⟩
  refine lC (fun _ _ y=>∃z,y=.str z∧z.length=1∧gb z) 0 (by rw [ej,sizeLine_eq]; show 0+_≤_; omega) (fun j d Qt hd hq=>?_) fun ys hys=>?_
  ·refine ⟨n,26,rfl,hm,by decide,by decide,fun r r0 r1=>?_⟩
   obtain ⟨c,hc,hm2⟩:=el r r0 r1
   refine ⟨by decide+kernel,c,hc,hq _ ⟨_,rfl,rfl,fun c' h'=>?_⟩⟩
   have e:c'=c:=by simpa using h'
   rw [e]
   exact hm2
  obtain ⟨zs,rfl,hz⟩:∃zs:List Str,ys=zs.map .str∧∀z∈zs,z.length=1∧gb z:=by
   clear q
   generalize nz 0 lg.toNat=its at hys
   generalize 0=i0 at hys
   induction hys with
   | nil=>exact ⟨[],rfl,by simp⟩
   | cons r _ ih=>
    obtain ⟨z,rfl,h1⟩:=r
    obtain ⟨zs,rfl,h2⟩:=ih
    exact ⟨z::zs,rfl,fun u hu=>by
     rcases List.mem_cons.mp hu with rfl | hu
     ·exact h1
     ·exact h2 _ hu⟩
  have hzl:zs.length=lg.toNat:=by
   have z:=hys.len
   rw [ej,List.length_map] at z
   exact z.symm
  have tx:∀(zs:List Str) (Q:List Str→Prop),Q zs→iR (zs.map D.str) Q:=by
   intro zs
   induction zs with
   | nil=>exact fun Q h=>h
   | cons z zs ih=>exact fun Q h=>ih (fun bs=>Q (z::bs)) h
  refine tx zs _ ⟨?_,?_⟩
  ·rw [jJ zs fun z h=>(hz z h).1]
   show zs.length+zs.length * 0≤_
   omega
  obtain ⟨W,eW,hj⟩:∃W:Str,W=Txt.join "" zs∧W.length≤lg.toNat:=⟨_,rfl,by
   have z:=StrLaws.join_length_le "" zs
   rw [←PySem.StrLaws.glued_eq_join,jJ zs fun z h=>(hz z h).1] at z
   have z2:(Txt.join "" zs).length≤zs.length+zs.length * 0:=z
   omega⟩
  have hWL:gb W:=fun c hc=>by
   rw [eW,mE] at hc
   obtain ⟨z,hz1,hc⟩:=List.mem_flatMap.mp hc
   exact (hz z hz1).2 c hc
  have hjl:W.length=lg.toNat:=by
   have z:(Txt.join "" zs).cps.toList.length=zs.length:=by
    rw [mE,List.length_flatMap]
    exact jJ zs fun z h=>(hz z h).1
   rw [Array.length_toList] at z
   rw [eW,←hzl]
   exact z
  rw [←eW]
  refine ⟨n,lg+1,rfl,hm,by omega,by omega,fun at0 a0 a1=>?_⟩
  obtain ⟨fn,rfl⟩:∃n:Nat,first=n:=⟨first.toNat,by omega⟩
  obtain ⟨an,rfl⟩:∃n:Nat,at0=n:=⟨at0.toNat,by omega⟩
  have W3:W.length≤3:=by omega
  refine ⟨by decide,by omega,by omega,?_⟩
  refine iS (fun i en m'=>∃v8 v9,en=[some (.loc n),some (.v (.int k)),some (.v (.str abc)),some (.v (.int fn)),some (.v (.int lg)),some (.v (.str W)),some (.v (.int an)),some (.loc m.length),v8,v9]∧m'=m++[.lst ((eG W fn an i).map .str)]) ⟨none,none,rfl,rfl⟩ ?_ ?_
  ·rintro j d en m' N' hd ⟨v8,v9,rfl,rfl⟩ r1 r2 r3 hn
   obtain ⟨rfl,hj2⟩:=tH hd
   have hi26:j<26:=by omega
   have l1':=oq W none (some (an:Int))
   have l2:=oq W (some (an:Int)) none
   have la1:∀j,(ot j).length=1:=fun _=>rfl
   have e1:((fn:Int)+5 * (0+(j:Int))) % 26=(((fn+5 * j) % 26:Nat):Int):=by omega
   have ln:=sizeLine_eq
   refine ⟨by omega,?_⟩
   refine ⟨wide_mul (a:=10) (b:=10) (by decide) (by omega) (by omega) (by omega) (by omega),by decide,by decide+kernel,_,(by rw [e1]; exact xn (Nat.mod_lt _ (by decide))),?_⟩
   refine ⟨by show _+1≤sizeLine; omega,by omega,?_⟩
   refine ⟨by rw [Str.length_append]; show _+1+_≤sizeLine; omega,?_⟩
   refine ⟨aQ trivial,?_⟩
   have raw:(Txt.slice W none (some (an:Int))++(⟨#[abc.cps.toList.getD ((fn+5 * j) % 26) 0]⟩:Str))++Txt.slice W (some (an:Int)) none=f9 W fn an j:=rfl
   have done:∀z,z=jI W fn an j→gU (m++[.lst ((eG W fn an j).map .str)]) m.length fun ds=>ds.length<sizeLine∧N'.nx [some (.loc n),some (.v (.int k)),some (.v (.str abc)),some (.v (.int fn)),some (.v (.int lg)),some (.v (.str W)),some (.v (.int an)),some (.loc m.length),some (.v (.int (0+(j:Nat)))),some (.v (.str (f9 W fn an j)))] ((m++[MO.lst ((eG W fn an j).map D.str)]).set m.length (MO.lst (ds++[D.str z]))):=by
    intro z hz
    subst hz
    refine aQ ⟨?_,?_⟩
    ·rw [List.length_map]
     unfold eG
     rw [List.length_map,List.length_range]
     omega
    ·rw [ci]
     refine (hn _ _ ⟨_,_,rfl,?_⟩).1
     unfold eG
     rw [List.range_succ,List.map_append,List.map_append]
     rfl
   have ew:([D.str "gap",.str "pad",.str "row",.str "pile",.str "grid",.str "clip",.str "hole",.str "room",.str "one",.str "and",.str "or"].any fun y=>deq y (.str (f9 W fn an j)))=cu.any (fun y=>y == f9 W fn an j):=rfl
   refine ⟨by show 11≤sizeLine; omega,rfl,rfl,Nat.zero_le _,by decide,?_⟩
   refine aN (fun c=>?_) (fun c=>?_)
   ·refine done _ ?_
    have c:(!cu.any (fun y=>y == f9 W fn an j))=true:=c
    unfold jI
    rw [if_neg (by rw [Bool.not_eq_true'] at c; rw [c]; decide)]
    rfl
   ·have c:(!cu.any (fun y=>y == f9 W fn an j))=false:=c
    refine ⟨by decide+kernel,_,(by rw [Int.zero_add]; exact xn hi26),by show _+1≤sizeLine; have:("z":Str).length=1:=rfl; omega,by rw [Str.length_append]; show 1+1+1≤sizeLine; omega,done _ ?_⟩
    unfold jI
    rw [if_pos (by simpa using c)]
    rfl
  ·rintro en m' ⟨v8,v9,rfl,rfl⟩
   rw [ej]
   have ek:((k:Nat):Int).toNat=k:=by omega
   rw [ek]
   dsimp only
   refine qw rfl ?_
   exact ⟨List.prefix_append _ _,q W fn an W3 hWL (by omega) (by omega)⟩
end
abbrev mG:Stmt:=top 60
abbrev xo:List Str:=["_law_script","_law_bag_here","_law_turn","_law_things","_law_some","_law_text_z","_law_head","_law_tail","_law_spot","_law_k","_law_one"]
abbrev CV:List Str:=["_law_script"]
abbrev t7:List (Str×Nat):=[("_law_k",9)]
abbrev uc:List (Str×Nat):=[("_law_one",10)]
theorem dz:FnScope xo CV (defScope mG):=⟨rfl,rfl,rfl,by decide+kernel,rfl,by decide+kernel,by decide+kernel⟩
def BB:Dn:=⟨fun _ _=>False,fun x _=>x=.v (.bl true),fun _ _=>False,fun _ _=>False,noX⟩
abbrev zH(n:Nat):En:=none::some (.loc 0)::List.replicate n none
theorem zI{n i:Nat}{x:W}{p:Addr}{σ:L2.St}(e:(zH n)[i]? =some (some x))(h:σ[1]? =some (some (.ref p))):x=.loc 0∧σ[i]? =some (some (.ref p)):=by
 match i,e with
 | 0,e=>cases e
 | 1,e=>
  have e:some (some (W.loc 0))=some (some x):=e
  cases e
  exact ⟨rfl,h⟩
 | i+2,e=>
  have e:(List.replicate n none)[i]? =some (some x):=e
  rw [List.getElem?_replicate] at e
  split at e <;> cases e
section
variable {P:Program} {w:World} {K:Frag} {mg:Str→Option Value} {base:Heap}
theorem xp{B H:Hp}{a:Addr}{q:Str}(h:H a=some (.tbl #[])):TabB B H a q:=⟨#[],h,trivial,fun pos cv hc=>by cases hc⟩
end
theorem DN{s:Shared}(h:s.gens= #[]){a:Addr}:¬LD s a:=fun ⟨i,k,l,c,p,fs,cl,e,_⟩=>by
 rw [h] at e
 simp at e
section
variable {P:Program} {w:World} {K:Frag} {mg:Str→Option Value} {base:Heap} {x:Str} {st:Stmt} {dfl dv:List V} {ps:List Str} {k:Nat}
abbrev UFo(P:Program)(w:World)(K:Frag)(mg:Str→Option Value)(base:Heap)(k:Nat)(x:Str)(st:Stmt)(dfl:List V)(ps:List Str)(sp:SpD):Prop:=∀f fd,FunD K x x (defArgs st) (defBody st) (defScope st) dfl [] f fd→UnOk P w K mg base k f fd ps sp
theorem Gsd.b0(G:Gs K mg x st)(hb:∀(kV doc pm:Value) (an:Option Addr) (cdv ct:Value) (us:List Value),us.length=ps.length→bindArgs (PySem.W.fnOf x x (defArgs st) (defBody st) (defScope st) .none kV doc pm an cdv ct) ⟨us,[]⟩=pure (ps.zip us)):
  ∃f fd,mg x=some (.ref f)∧PySem.W.keepIn K (.ref f)=true∧Binds K fd ps []∧FunD K x x (defArgs st) (defBody st) (defScope st) [] [] f fd:=by
 obtain ⟨f,fd,a,D⟩:=G
 exact ⟨f,fd,a,D.kp,D.bindsN hb,D⟩
theorem Gsd.b1(G:Gsd K mg x st dfl [])(n j:Nat)(hd:dfl≠[])(hn:n+(dfl.length - j)=ps.length)(hv:dfl.drop j=dv)
  (h:∀(T:Addr) (kV doc pm:Value) (an:Option Addr) (cdv ct:Value) (us its:List Value),us.length=n→its.length=dfl.length→
   ∃k,bindArgs (PySem.W.fnOf x x (defArgs st) (defBody st) (defScope st) (.ref T) kV doc pm an cdv ct) ⟨us,[]⟩=seqItems? (.ref T)>>= k∧k (some its.toArray)=pure (ps.zip (us++its.drop j))):
  ∃f fd ds,mg x=some (.ref f)∧PySem.W.keepIn K (.ref f)=true∧Vals dv ds∧Binds K fd ps ds∧FunD K x x (defArgs st) (defBody st) (defScope st) dfl [] f fd:=by
 obtain ⟨f,fd,a,D⟩:=G
 obtain ⟨ds,v,b⟩:=D.binds1 n j hd hn h
 subst hv
 exact ⟨f,fd,ds,a,D.kp,v,b,D⟩
theorem Gsd.k1(G:Gsd K mg x st dfl [])(n:Nat)(ks:List Str)(g:{α:Type}→List α→List α→List α→List α)(hd:dfl≠[])
  (hrel:∀{vs ds zs:List V} {us its ws:List Value},Vals vs us→Vals ds its→Vals zs ws→Vals (g vs ds zs) (g us its ws))
  (h:∀(T:Addr) (kV doc pm:Value) (an:Option Addr) (cdv ct:Value) (us its ws:List Value),us.length=n→its.length=dfl.length→ws.length=ks.length→
   ∃k,bindArgs (PySem.W.fnOf x x (defArgs st) (defBody st) (defScope st) (.ref T) kV doc pm an cdv ct) ⟨us,ks.zip ws⟩=seqItems? (.ref T)>>= k∧k (some its.toArray)=pure (ps.zip (g us its ws))):
  ∃f fd gg,mg x=some (.ref f)∧PySem.W.keepIn K (.ref f)=true∧KBn K fd ps n ks gg (fun vs zs=>g vs dfl zs)∧FunD K x x (defArgs st) (defBody st) (defScope st) dfl [] f fd:=by
 obtain ⟨f,fd,a,D⟩:=G
 have kp:=D.kp
 have DD:=D
 obtain ⟨oc,od,dV,kV,doc,pm,an,cdv,ct,osl,rfl,lk,hcd,hD,hK⟩:=D.ex
 rcases hD with ⟨e,_⟩ | ⟨_,T,o,its,m,rfl,lT,oT,rT⟩
 ·exact absurd e hd
 refine ⟨f,_,fun us ws=>g us its ws,a,kp,⟨fun s us ws X l1 l2=>?_,fun r1 r2=>hrel r1 rT r2⟩,DD⟩
 obtain ⟨k,e1,e2⟩:=h T kV doc pm an cdv ct us its ws l1 rT.length.symm l2
 exact BindsTo.of_looks fun M=>by
  rw [e1]
  exact looks_items X lT oT (.of_pure e2)
theorem Gsd.k0(G:Gs K mg x st)(n:Nat)(ks:List Str)(g:{α:Type}→List α→List α→List α)
  (hrel:∀{vs zs:List V} {us ws:List Value},Vals vs us→Vals zs ws→Vals (g vs zs) (g us ws))
  (hb:∀(kV doc pm:Value) (an:Option Addr) (cdv ct:Value) (us ws:List Value),us.length=n→ws.length=ks.length→bindArgs (PySem.W.fnOf x x (defArgs st) (defBody st) (defScope st) .none kV doc pm an cdv ct) ⟨us,ks.zip ws⟩=pure (ps.zip (g us ws))):
  ∃f fd gg,mg x=some (.ref f)∧PySem.W.keepIn K (.ref f)=true∧KBn K fd ps n ks gg (fun vs zs=>g vs zs)∧FunD K x x (defArgs st) (defBody st) (defScope st) [] [] f fd:=by
 obtain ⟨f,fd,a,D⟩:=G
 have kp:=D.kp
 have DD:=D
 obtain ⟨oc,od,dV,kV,doc,pm,an,cdv,ct,osl,rfl,lk,hcd,hD,hK⟩:=D.ex
 rcases hD with ⟨_,rfl⟩ | ⟨e,_⟩
 ·exact ⟨f,_,fun us ws=>g us ws,a,kp,⟨fun s us ws _ l1 l2=>BindsTo.of_eq (hb kV doc pm an cdv ct us ws l1 l2),fun r1 r2=>hrel r1 r2⟩,DD⟩
 ·exact absurd rfl e
end
theorem UnOk.weak{P:Program}{w:World}{K:Frag}{mg:Str→Option Value}{base:Heap}{k:Nat}{f:Addr}{fd:FuncData}{ps:List Str}{sp sp':SpD}(h1:UnOk P w K mg base k f fd ps sp)(h:∀ws m Q Qx,sp' ws m Q Qx→sp ws m Q Qx):UnOk P w K mg base k f fd ps sp':=
 ⟨fun ws m Q Qx q=>h1.len ws m Q Qx (h _ _ _ _ q),fun A outer s H args us vs ws B μ m Q Qx E hr e0 g M hb r rw hx q=>h1.run A outer s H args us vs ws B μ m Q Qx E hr e0 g M hb r rw hx (h _ _ _ _ q)⟩
section
variable {P:Program} {w:World} {outer:List Env} {H:Hp} {s:Shared} {E:XK} {u:Value} {s':Shared}
theorem ud(x:L2N.CX P w outer H s E u s'):L2.CX P w outer H s E u s':=by
 obtain ⟨a,B,H',cls,d,e,fl,rest⟩:=x
 exact ⟨a,B,H',cls,d,e,L2H.flyingZ_imp (fun o z=>z.zc) fl,rest⟩
theorem jL{E':XK}(h:∀c d H,E c d H→E' c d H)(x:L2.CX P w outer H s E u s'):L2.CX P w outer H s E' u s':=by
 obtain ⟨a,B,H',cls,d,h1,h2,h3,h4,h5,h6,h7,h8⟩:=x
 exact ⟨a,B,H',cls,d,h1,h2,h3,h4,h5,h6,h7,h _ _ _ h8⟩
theorem jM(h:L2.CX P w outer H s E u s'){g:Array GenState}(hg:AllBare s'.gens→AllBare g):L2.CX P w outer H s E u { s' with gens:=g }:=by
 obtain ⟨a,B,H',cls,d,h1,h2,h3,h4,h5,h6,h7,h8⟩:=h
 exact ⟨a,B,H',cls,d,h1,h2,h3,h4,h5,h6,hg h7,h8⟩
end
abbrev sx2(X:Cx)(E:XK):Cx:={ X with xe:=fun e s'=>wpAny (model X.prog X.w) X.A (leaving X.env e) (fun _ s''=>L2.CX X.prog X.w X.outer X.H_0 X.s_0 E e s'') (fun e' s''=>L2.CX X.prog X.w X.outer X.H_0 X.s_0 E e' s'') s' }
theorem CW{X:Cx}{E:XK}{pins:List (Addr×Obj)}{σ:L2.St}{H:Hp}{s:Shared}(I:Inv X pins σ H s):Inv (sx2 X E) pins σ H s:=
 ⟨⟨I.ok.mod,I.ok.kind,I.ok.glob,I.ok.blt,I.ok.above,I.ok.inj,I.ok.has,I.ok.cab,I.ok.hd,I.ok.frames,I.ok.stk,I.ok.exf,I.ok.bs,I.ok.bsz,I.ok.noex,I.ok.exfs,I.ok.funs,I.ok.frf⟩,I.os,I.bare,I.base,I.loc,I.cell,I.free,I.freeC,I.pin,I.hok,I.len⟩
theorem qL{X:Cx}{E E':XK}{s:Shared}(h:∀c d H,E c d H→E' c d H){e:Value}(x:(sx2 X E).xe e s):(sx2 X E').xe e s:=wpAny_mono x (fun _ _ z=>jL h z) fun _ _ z=>jL h z
def UX2(X:Cx)(E:XK)(e:Value)(s':Shared):Prop:=∃sx s0,(sx2 X (EG E s')).xe e s0∧Slq sx s0 s'
theorem iB{X:Cx}{E:XK}{e:Value}{s':Shared}(h:UX X E e s'):UX2 X E e s':=by
 obtain ⟨sx,s0,hx,sl⟩:=h
 exact ⟨sx,s0,wpAny_mono hx (fun _ _ z=>ud z) fun _ _ z=>ud z,sl⟩
structure UE2 (X:Cx) (E:XK) (e:Expr) (T:DTE):Prop where
 run:∀pins B μ en m σ H s Q Qx,Inv X pins σ H s→Gok H s→Rel X.K B μ en m σ H→ExOf X.K E B μ m H Qx→T en m Q Qx→wpAny (M0 X.prog X.w) X.A (eval e X.env) (UQ X pins B μ en m σ H Q) (UX2 X E) s
structure US2 (X:Cx) (E:XK) (st:Stmt) (T:DTS):Prop where
 run:∀pins B μ en m σ H s N,Inv X pins σ H s→Gok H s→Rel X.K B μ en m σ H→ExOf X.K E B μ m H N.xc→T en m N→wpAny (M0 X.prog X.w) X.A (exec st X.env) (SPt X pins B μ m H N) (UX2 X E) s
structure USs2 (X:Cx) (E:XK) (st:List Stmt) (T:DTS):Prop where
 run:∀pins B μ en m σ H s N,Inv X pins σ H s→Gok H s→Rel X.K B μ en m σ H→ExOf X.K E B μ m H N.xc→T en m N→wpAny (M0 X.prog X.w) X.A (execs st X.env) (SPt X pins B μ m H N) (UX2 X E) s
section
variable {X:Cx} {E:XK} {st:Stmt} {sts:List Stmt} {T U:DTS} {e:Expr} {te:DTE} {pos:Pos}
theorem us2(h:US X E st T):US2 X E st T:=⟨fun pins B μ en m σ H s N I g R hx ht=>wpAny_mono (h.run pins B μ en m σ H s N I g R hx ht) (fun _ _ z=>z) fun _ _ z=>iB z⟩
theorem fN(h1:US2 X E st T)(h2:USs2 X E sts U):USs2 X E (st::sts) (fv T U):=by
 refine ⟨fun pins B μ en m σ H s N I g R hx ht=>wpAny_execs_cons (thn (h1.run pins B μ en m σ H s { N with nx:=fun en1 m1=>U en1 m1 N } I g R hx ht) fun f s' q=>?_)⟩
 cases f with
 | next=>
  obtain ⟨σ',B',μ',en',m',H',I',g',st',R',q⟩:=q
  exact thn (h2.run pins B' μ' en' m' σ' H' s' N I' g' R' (hx.step st' R'.mem R.mem.le) q) fun f s2 q2=>q2.back R.mem st' R'.mem
 | brk=>exact q
 | cont=>exact q
 | ret v=>exact q
theorem qM(h1:US2 X E st T):USs2 X E [st] T:=by
 refine ⟨fun pins B μ en m σ H s N I g R hx ht=>wpAny_execs_cons (thn (h1.run pins B μ en m σ H s _ I g R hx ht) fun f s' q=>?_)⟩
 cases f with
 | next=>exact wpAny_execs_nil q
 | brk=>exact q
 | cont=>exact q
 | ret v=>exact q
end
structure UnOk2 (P:Program) (w:World) (K:Frag) (mg:Str→Option Value) (base:Heap) (k:Nat) (f:Addr) (fd:FuncData) (ps:List Str) (sp:SpD):Prop where
 len:∀ws m Q Qx,sp ws m Q Qx→ws.length=ps.length
 run:∀(A:Around) (outer:List Env) (s:Shared) (H:Hp) (args:Args) (us:List Value) (vs:List V) (ws:List W) (B:Hp) (μ:List Addr) (m:Me) (Q:W→Me→Prop) (Qx:QX) (E:XK),Room k A→Env0 P w K mg base A outer s H→Gok H s→MemOk K B μ m H→BindsTo s fd args (ps.zip us)→Vals vs us→RWs K B μ vs ws→ExOf K E B μ m H Qx→sp ws m Q Qx→
  codeAny (M0 P w) A (.call (.ref f) args) (fun r s'=>CR (L2.CX P w) outer P w H s (fun v H'=>∃B' μ' m' x,Stp B μ m H B' μ' m' H'∧MemOk K B' μ' m' H'∧RW K B' μ' v x∧Q x m'∧Gok H' s') (EG E s') r s') s
theorem UnOk2.mono{P:Program}{w:World}{K:Frag}{mg:Str→Option Value}{base:Heap}{j k:Nat}{f:Addr}{fd:FuncData}{ps:List Str}{sp:SpD}(F:UnOk2 P w K mg base j f fd ps sp)(h:j≤k):UnOk2 P w K mg base k f fd ps sp:=
 ⟨F.len,fun A outer s H args us vs ws B μ m Q Qx E hr=>F.run A outer s H args us vs ws B μ m Q Qx E (hr.mono h)⟩
section
variable {P:Program} {w:World} {K:Frag} {mg:Str→Option Value} {base:Heap} {x qual:Str} {params:Arguments} {body:List Stmt} {scope:Scope} {dvs:List V} {kws:List (Str×V)} {f:Addr} {fd:FuncData} {N ps:List Str} {k:Nat} {sp:SpD}
theorem BC(o:Bool)(F:FunD K x qual params body scope dvs kws f fd)(S:FnScope N ps scope)(len:∀ws m Q Qx,sp ws m Q Qx→ws.length=ps.length)
  (hbody:∀(cdv:Value) (A:Around) (outer:List Env) (s:Shared) (H:Hp),Room k (A.deeper (envOfC qual scope s.heap.objs.size f cdv))→∀E,
   ∃T,USs2 (cxOf (L2N.CX P w) P w K mg base N qual scope f cdv A outer s H E0) E body T∧∀ws m Q Qx,sp ws m Q Qx→T (bZ N ws) m (pi o m Q Qx)):UnOk2 P w K mg base (k+1) f fd ps sp:=by
 obtain ⟨oc,od,dV,kV,doc,pm,an,cdv,ct,osl,rfl,lk,hcd,_,_⟩:=F.ex
 refine ⟨len,fun A outer s H args us vs ws B μ m Q Qx E hr e0 g M hb r rw hx hsp=>?_⟩
 have hl:vs.length=ps.length:=by rw [rw.len]; exact len _ _ _ _ hsp
 have KX:K.In s.heap:=e0.mod.kin.keeps fun b o e=>(e0.bs b o e).1
 have lim:s.heap.NoLimit:=e0.mod.nolimit.keeps fun b o e=>(e0.bs b o e).1
 have hkind:∀y∈ps.zip us,scope.names.lookup y.1=some .local∨(scope.names.lookup y.1=some .cell∧((cellsFrom (s.heap.objs.size+1) scope.names []).lookup y.1).isSome=true):=fun ⟨n,v⟩ hy=>by
  rcases S.par n (List.of_mem_zip hy).1 with q | q
  ·exact .inl q
  ·exact .inr ⟨q,PySem.W.cellsFrom_some _ _ _ (.inl q)⟩
 refine dS hr.depth (KX _ _ lk) rfl S.co S.gen rfl (PySem.W.codeRec_of KX hcd) (hb _ _ _ _ ?_)
 refine wpAny_newFunctionEnv_cells S.kind hkind fun env he s1 x=>?_
 subst he
 have gens1:s1.gens=s.gens:=by
  obtain ⟨h1,tk,es1,hk1⟩:=x.done
  rw [es1]
 refine ⟨lim.keeps x.toInCall.keep,f8 ?_⟩
 obtain ⟨T,hT,hq⟩:=hbody cdv A outer s H (hr.deeper _) E
 have I:Inv (cxOf (L2N.CX P w) P w K mg base N qual scope f cdv A outer s H E0) [] (start N vs) H s1:=inv_start S hr.hd e0 hl r x
 have g1:Gok H s1:=g.ld fun a ⟨i,h⟩=>⟨i,h.of (by rw [gens1])⟩
 have hx1:ExOf K E B μ m H (pi o m Q Qx).xc:=by
  cases o with
  | true=>exact hx
  | false=>
   intro B' μ' m' H' er dd fvs s' M' hd rf q
   obtain ⟨⟨more,rfl⟩,q⟩:=q
   exact hx B' μ m H' er dd fvs s'.drop (M.drop s'.pre M') hd rf q
 have fin:∀{σ':L2.St} {H':Hp} {v:V} {u:Value} {y:W} {B':Hp} {μ':List Addr} {m':Me} {s':Shared},Inv (cxOf (L2N.CX P w) P w K mg base N qual scope f cdv A outer s H E0) [] σ' H' s'→Gok H' s'→RelV v u→RW K B' μ' v y→Stp B μ m H B' μ' m' H'→MemOk K B' μ' m' H'→(pi o m Q Qx).rt y m'→
   CE outer P w H s (fun v H'=>∃B' μ' m' x,Stp B μ m H B' μ' m' H'∧MemOk K B' μ' m' H'∧RW K B' μ' v x∧Q x m'∧Gok H' s') u s':=fun {σ' H' v u y B' μ' m' s'} J g' rv rw st M' q=>by
  cases o with
  | true=>exact ⟨v,H',J.os,J.bare,J.base,J.hok,rv,B',μ',m',y,st,M',rw,q,g'⟩
  | false=>
   cases y with
   | loc n=>exact q.elim
   | v d=>
    obtain ⟨⟨more,rfl⟩,q⟩:=q
    exact ⟨v,H',J.os,J.bare,J.base,J.hok,rv,B',μ,m,.v d,st.drop,M.drop st.pre M',rw,q,g'⟩
 refine wpAny_mono (hT.run [] B μ (bZ N ws) m (start N vs) H s1 (pi o m Q Qx) I g1 (ef M rw) hx1 (hq ws m Q Qx hsp)) (fun fl s' hs=>?_) fun e s' ⟨sx,s0,hx0,sl⟩=>?_
 ·cases fl with
  | ret u=>
   obtain ⟨v,y,σ',B',μ',m',H',J,g',rv,rw',st,M',q⟩:=hs
   exact fin J g' rv rw' st M' q
  | next=>
   obtain ⟨σ',B',μ',en',m',H',J,g',st,R',q⟩:=hs
   refine fin (v:=V.non) (u:=Value.none) (y:=.v .non) J g' rfl (RW.d .non) st R'.mem ?_
   cases o with
   | true=>exact q
   | false=>exact q
  | brk=>
   obtain ⟨_,_,_,_,_,_,_,_,_,_,q⟩:=hs
   cases o <;> exact False.elim q
  | cont=>
   obtain ⟨_,_,_,_,_,_,_,_,_,_,q⟩:=hs
   cases o <;> exact False.elim q
 ·have up:∀{y:Value} {s1 s2:Shared},L2.CX P w outer H s (EG E s') y s1→Slq sx s1 s2→L2.CX P w outer H s (EG E s2) y s2:=fun {y s1 s2} c k=>by
   have c2:=jM c (g:=s2.gens) k.bare
   rw [←k.eq] at c2
   exact jL (fun _ _ _ z=>⟨z.1,z.2.ld fun a q=>sl.ld2 k q⟩) c2
  have hx0:wpAny (model P w) (A.deeper (envOfC qual scope s.heap.objs.size f cdv)) (leaving (envOfC qual scope s.heap.objs.size f cdv) e) (fun _ s''=>L2.CX P w outer H s (EG E s') e s'') (fun e' s''=>L2.CX P w outer H s (EG E s') e' s'') s0:=hx0
  exact wpAny_mono (aU sl hx0) (fun _ s2 ⟨s1,q,k⟩=>up q k) fun y s2 ⟨s1,q,k⟩=>up q k
end
structure GU2 (P:Program) (w:World) (K:Frag) (mg:Str→Option Value) (base:Heap) (k:Nat) (x:Str) (ps:List Str) (sp:SpD):Prop where
 ex:∃f fd,mg x=some (.ref f)∧PySem.W.keepIn K (.ref f)=true∧Binds K fd ps []∧UnOk2 P w K mg base k f fd ps sp
theorem GU2.mono{P:Program}{w:World}{K:Frag}{mg:Str→Option Value}{base:Heap}{j k:Nat}{x:Str}{ps:List Str}{sp:SpD}(G:GU2 P w K mg base j x ps sp)(h:j≤k):GU2 P w K mg base k x ps sp:=by
 obtain ⟨f,fd,a,b,c,F⟩:=G.ex
 exact ⟨f,fd,a,b,c,F.mono h⟩
structure GUk2 (P:Program) (w:World) (K:Frag) (mg:Str→Option Value) (base:Heap) (k:Nat) (x:Str) (n:Nat) (ks:List Str) (gV:List V→List V→List V) (ps:List Str) (sp:SpD):Prop where
 ex:∃f fd g,mg x=some (.ref f)∧PySem.W.keepIn K (.ref f)=true∧KBn K fd ps n ks g gV∧UnOk2 P w K mg base k f fd ps sp
section
variable {X:Cx} {E:XK} {pins:List (Addr×Obj)} {σ:L2.St} {H H2:Hp} {s s2:Shared} {B B2:Hp} {μ μ2:List Addr} {en:En} {m m2:Me} {Q:W→Me→Prop} {Qx:QX}
variable {x:Str} {e:Expr} {es:List Expr} {kws:List Keyword} {p pos:Pos} {tA tK:DTA} {k:Nat} {f:Addr} {fd:FuncData} {ps ks:List Str} {sp:SpD} {gV:List V→List V→List V} {g:List Value→List Value→List Value}
theorem zJ(hs:X.stack=X.env::X.outer)(hf:X.env.frame=some X.env.locals)(hex:X.ex=[])(F:UnOk2 X.prog X.w X.K X.mg X.base k f fd ps sp)(hr:Room k X.A)(I2:Inv X pins σ H2 s2)(g2:Gok H2 s2)(M:MemOk X.K B μ m H)(st2:Stp B μ m H B2 μ2 m2 H2)(R2:Rel X.K B2 μ2 en m2 σ H2)
  (hx:ExOf X.K E B μ m H Qx) {us us':List Value} {kw:List (Str×Value)} {vs:List V} {ws:List W} (hb:BindsTo s2 fd ⟨us,kw⟩ (ps.zip us')) (rv:Vals vs us') (rw:RWs X.K B2 μ2 vs ws) (h:sp ws m2 Q Qx):
  wpAny (M0 X.prog X.w) X.A (call (.ref f) us kw) (UQ X pins B μ en m σ H Q) (UX2 X E) s2:=by
 refine wpAny_call (codeAny_mono (F.run X.A X.stack s2 H2 ⟨us,kw⟩ us' vs ws B2 μ2 m2 Q Qx E hr I2.env0 g2 R2.mem hb rv rw (hx.step st2 R2.mem M.le) h) fun r s' hq=>?_)
 cases r with
 | error e=>
  have hq:L2.CX X.prog X.w X.stack H2 s2 (EG E s') e s':=hq
  have hbr:AllBare s'.gens:=by
   obtain ⟨_,_,_,_,_,_,_,_,_,_,_,hb,_⟩:=hq
   exact hb
  have pc:=L2.passes_call (X:=sx2 X (EG E s')) (E:=EG E s') (L2.takes_of hs hf hex rfl) (fun _ _ _ _ h=>h) pins σ H2 s2 e (asleep s') (CW I2) (jM hq fun _=>bu hbr)
  exact ⟨s',asleep s',pc,Sj.of hbr,fun _ _=>rfl,bu hbr⟩
 | ok fl=>
  cases fl with
  | ret u=>
   obtain ⟨v,H',I',rv,B',μ',m',x,st,M',rw,q,g'⟩:=I2.after hq
   exact ⟨v,x,B',μ',m',H',I',g',rv,rw,st2.trans R2.mem st M.le,R2.stp st M',q⟩
  | next=>exact False.elim hq
  | brk=>exact False.elim hq
  | cont=>exact False.elim hq
theorem qN(F:UnOk2 X.prog X.w X.K X.mg X.base k f fd ps sp)(hr:Room k X.A)(I2:Inv X pins σ H2 s2)(g2:Gok H2 s2)(M:MemOk X.K B μ m H)(st2:Stp B μ m H B2 μ2 m2 H2)(R2:Rel X.K B2 μ2 en m2 σ H2)
  (hx:ExOf X.K E0 B μ m H Qx) {us us':List Value} {kw:List (Str×Value)} {vs:List V} {ws:List W} (hb:BindsTo s2 fd ⟨us,kw⟩ (ps.zip us')) (rv:Vals vs us') (rw:RWs X.K B2 μ2 vs ws) (h:sp ws m2 Q Qx) {R:Value→Shared→Prop}:
  wpAny (M0 X.prog X.w) X.A (call (.ref f) us kw) (UQ X pins B μ en m σ H Q) R s2:=by
 refine wpAny_call (codeAny_mono (F.run X.A X.stack s2 H2 ⟨us,kw⟩ us' vs ws B2 μ2 m2 Q Qx E0 hr I2.env0 g2 R2.mem hb rv rw (hx.step st2 R2.mem M.le) h) fun r s' hq=>?_)
 cases r with
 | error e=>
  have hq:L2.CX X.prog X.w X.stack H2 s2 (EG E0 s') e s':=hq
  obtain ⟨_,_,_,_,_,_,_,_,_,_,_,_,z,_⟩:=hq
  exact False.elim z
 | ok fl=>
  cases fl with
  | ret u=>
   obtain ⟨v,H',I',rv,B',μ',m',x,st,M',rw,q,g'⟩:=I2.after hq
   exact ⟨v,x,B',μ',m',H',I',g',rv,rw,st2.trans R2.mem st M.le,R2.stp st M',q⟩
  | next=>exact False.elim hq
  | brk=>exact False.elim hq
  | cont=>exact False.elim hq
theorem zK(hs:X.stack=X.env::X.outer)(hf:X.env.frame=some X.env.locals)(hex:X.ex=[])(G:GU2 X.prog X.w X.K X.mg X.base k x ps sp)(hr:Room k X.A)(ha:UA X E (e::es) tA)
  (hg:Gl X x:=by rfl) (hdb:(x == ("__debug__":Str))=false:=by decide) (he:starEach (e::es) X.env=(false,eval e X.env)::starEach es X.env:=by rfl) (hpl:(backTo pos (starEach es X.env)).any (·.1)=false:=by rfl):UE2 X E (.Call (.Name x p) (e::es) [] pos) (l9 sp tA):=by
 refine ⟨fun pins B μ en m σ H s Q Qx I g R hx ht=>?_⟩
 obtain ⟨f,fd,hm,hk,hb,F⟩:=G.ex
 refine wpAny_Call_Name_kw (wpAny_mono (mC (E:=E) (R:=fun v s1=>v=.ref f∧Inv X pins σ H s1∧Gok H s1) I g (ld_glob I.asl hg hm ⟨rfl,rfl⟩ hdb) fun s1 I1 g1=>⟨rfl,I1,g1⟩) (fun v s1 ⟨ev,I1,g1⟩=>?_) fun _ _ z=>iB z)
 subst ev
 refine PySem.W.callWith_K (h₀:=X.base) I.ok.mod.kin hk (wpAny_mono (ha.run pos pins B μ en m σ H s1 _ Qx I1 g1 R hx ht) (fun us s2 ⟨vs,ws,B2,μ2,m2,H2,I2,g2,rvs,rws,st2,R2,q2⟩=>⟨I2.kIn,?_⟩) fun _ _ z=>iB z) he hpl
 refine zJ hs hf hex F hr I2 g2 R.mem st2 R2 hx (us':=us++[]) ?_ (by rw [List.append_nil]; exact rvs) rws q2
 exact hb s2 us I2.kIn (by rw [List.append_nil,←rvs.length,rws.len]; exact F.len _ _ _ _ q2)
theorem xq(G:GU2 X.prog X.w X.K X.mg X.base k x ps sp)(hr:Room k X.A)(ha:UA X E0 (e::es) tA)
  (hg:Gl X x:=by rfl) (hdb:(x == ("__debug__":Str))=false:=by decide) (he:starEach (e::es) X.env=(false,eval e X.env)::starEach es X.env:=by rfl) (hpl:(backTo pos (starEach es X.env)).any (·.1)=false:=by rfl):UE X E0 (.Call (.Name x p) (e::es) [] pos) (l9 sp tA):=by
 refine ⟨fun pins B μ en m σ H s Q Qx I g R hx ht=>?_⟩
 obtain ⟨f,fd,hm,hk,hb,F⟩:=G.ex
 refine wpAny_Call_Name_kw (mC I g (ld_glob I.asl hg hm ⟨rfl,rfl⟩ hdb) fun s1 I1 g1=>?_)
 refine PySem.W.callWith_K (h₀:=X.base) I.ok.mod.kin hk (thn (ha.run pos pins B μ en m σ H s1 _ Qx I1 g1 R hx ht) fun us s2 ⟨vs,ws,B2,μ2,m2,H2,I2,g2,rvs,rws,st2,R2,q2⟩=>⟨I2.kIn,?_⟩) he hpl
 refine qN F hr I2 g2 R.mem st2 R2 hx (us':=us++[]) ?_ (by rw [List.append_nil]; exact rvs) rws q2
 exact hb s2 us I2.kIn (by rw [List.append_nil,←rvs.length,rws.len]; exact F.len _ _ _ _ q2)
theorem vx{gW:List W→List W→List W}(G:GUk2 X.prog X.w X.K X.mg X.base k x 0 ks gV ps sp)(hre:Reo X.K gV gW)(hr:Room k X.A)(hkw:UK X E0 kws tK)
  (hg:Gl X x:=by rfl) (hall:(backToKw pos (keywordEach kws X.env)).all (·.1.isSome)=true:=by rfl) (hks:(backToKw pos (keywordEach kws X.env)).filterMap (·.1)=ks:=by rfl)
  (hdb:(x == ("__debug__":Str))=false:=by decide) (hpl:((backTo pos (starEach [] X.env)).any (·.1)||(backToKw pos (keywordEach kws X.env)).any (·.1.isNone))=false:=by rfl):UE X E0 (.Call (.Name x p) [] kws pos) (wJ 0 ks.length sp gW tN tK):=by
 refine ⟨fun pins B μ en m σ H s Q Qx I g R hx ht=>?_⟩
 obtain ⟨f,fd,gg,hm,hk,hb,F⟩:=G.ex
 refine wpAny_Call_Name_kw (mC I g (ld_glob I.asl hg hm ⟨rfl,rfl⟩ hdb) fun s1 I1 g1=>?_)
 refine PySem.W.callWith_KW0 (h₀:=X.base) I.ok.mod.kin hk hall (thn (hkw.run pos pins B μ en m σ H s1 _ Qx I1 g1 R hx ht) fun us s2 ⟨vs,ws,B2,μ2,m2,H2,I2,g2,rvs,rws,st2,R2,l1,l2,q2⟩=>⟨I2.kIn,?_⟩) hpl
 rw [hks]
 exact qN F hr I2 g2 R.mem st2 R2 hx (hb.to s2 [] us I2.kIn rfl (by rw [←rvs.length,rws.len]; exact l2)) (hb.rel .nil rvs) (hre B2 μ2 [] [] vs ws .nil rws) q2
end
section
variable {P:Program} {w:World} {A:Around} {s:Shared} {R:Result→Shared→Prop} {E:Value→Shared→Prop} {env:Env}
theorem jb{body orelse:List Stmt}{h₀:ExceptHandler}{hs:List ExceptHandler}{pos:Pos}{Q:Flow→Shared→Prop}
  (h:wpAny (M0 P w) A (execs body env) (fun f s₁=>match f with | .next=>wpAny (M0 P w) A (execs orelse env) Q E s₁ | f=>Q f s₁)
   (fun e s₁=>wpAny (M0 P w) A (noteFrame e env) (fun _ s₂=>wpAny (M0 P w) A (setFlight e none) (fun _ s₃=>wpAny (M0 P w) A (handleBy e env (h₀::hs)) Q E s₃) E s₂) E s₁) s):
  wpAny (M0 P w) A (exec (.Try body (h₀::hs) orelse [] pos) env) Q E s:=by
 rw [arm_exec_Try]
 exact wpAny_bind (wpAny_standAt (wpAny_tryStmt_except h))
theorem nH{f:Addr}{args:Args}{of_:Obj}{fd:FuncData}{body:Expr}(room:A.depth<recursionLimit)(hf:s.heap.get? f=some of_)(hfd:of_.data=.func fd)(h1:fd.scope.isCoroutine=false)(h2:fd.scope.isGenerator=false)(h3:fd.body=.expr body)
  (hcode:s.heap.CodeRec fd.code fd.qualname)
  (h:wpAny (M0 P w) A.in1 (bindArgs fd args) (fun bs t=>wpAny (M0 P w) A.in1 (newFunctionEnv fd.scope fd.globals fd.closure bs (fd.qualname++".<locals>.") (some f) fd.code none fd.builtins)
   (fun env t2=>t2.heap.NoLimit∧codeAny (M0 P w) A (.expr body env) R t2) (fun e t2=>R (.error e) t2) t) (fun e t=>R (.error e) t) s):codeAny (M0 P w) A (.call (.ref f) args) R s:=by
 obtain ⟨ca,co,cv,ct,ec,e1,e2,e3⟩:=hcode
 rw [ec] at h
 refine codeAny_of_tree ?_
 rw [f6 rfl]
 show wpAny _ A.in1 (callAny (.ref f) args) _ _ s
 simp only [callAny]
 refine wpAny_bind (wpAny_load hf ?_)
 simp only [hfd,callFunction,h1,h2,h3,ec]
 refine wpAny_bind (m:=field (.ref ca) 1) (wpAny_field e1 e2 e3 (wpAny_bind (wpAny_pure (wpAny_bind (wpAny_mono h (fun bs t ht=>?_) fun _ _ x=>x)))))
 exact wpAny_bind (wpAny_mono ht (fun env t2 q=>wpAny_bind (wpAny_enterFrame q.1 room (wpAny_pure (And.intro rfl q.2)))) fun _ _ x=>x)
theorem sF{e:Expr} (h:wpAny (M0 P w) (A.deeper env) (eval e env) (fun v s'=>R (.ok (.ret v)) s')
      (fun e' s'=>wpAny (M0 P w) (A.deeper env) (leaving env e') (fun _ s''=>R (.error e') s'') (fun e'' s''=>R (.error e'') s'') s') s):codeAny (M0 P w) A (.expr e env) R s:=by
  refine codeAny_of_tree ?_
  rw [f6 rfl]
  show wpAny _ (A.deeper env) (do point; ret (←(eval e env).onRaise (leaving env))) _ _ s
  exact wpAny_bind (wpAny_point (wpAny_bind (wpAny_onRaise (wpAny_mono h (fun v s' h'=>wpAny_pure h') fun _ _ h'=>h'))))
end
section
variable {X:Cx} {x1 x2 x3 n:Str} {C1 C2 C3:Addr} {i:Nat} {suite:List Stmt} {b₀:Stmt} {p1 p2 p3 np pos':Pos} {k:Nat} {ts:Addr→Value→Option Addr→TS}
theorem vy{pins:List (Addr×Obj)}{D:Ends}(ok:X.Ok)(hs:X.stack=X.env::X.outer)(hf:X.env.frame=some X.env.locals)(hN:X.N.Nodup)(hi:X.N[i]? =some n)(hln:X.env.kindOf n=some .local)(g1:Gl X x1)(m1:X.mg x1=some (.ref C1))(g2:Gl X x2)(m2:X.mg x2=some (.ref C2))(g3:Gl X x3)(m3:X.mg x3=some (.ref C3))
  (d1:(x1 == ("__debug__":Str))=false) (d2:(x2 == ("__debug__":Str))=false) (d3:(x3 == ("__debug__":Str))=false)
  (hsu:∀(a:Addr) (oe:Obj) (cls:Value) (d:Option Addr) (pn:List (Addr×Obj)),Zc cls d oe→(∃vs,oe.data=.fields vs)→PSs (X.suite a ((a,oe)::pn)) (b₀::suite) (ts a cls d)):
  Takes (X.tr (X.pn++pins) fun e s₁=>wpAny (model X.prog X.w) X.A (noteFrame e X.env) (fun _ s₂=>wpAny (model X.prog X.w) X.A (setFlight e none) (fun _ s₃=>wpAny (model X.prog X.w) X.A (handleBy e X.env [.ExceptHandler (some (.Tuple [.Name x1 p1,.Name x2 p2,.Name x3 p3] k np)) (some n) (b₀::suite) pos']) (SP X pins D) X.xe s₃) X.xe s₂) X.xe s₁) (w3 X.K X.N.length [.ref C1,.ref C2,.ref C3] i ts D):=by
 have frames:X.A.frames=some (X.env::X.outer):=by rw [ok.frames,hs]
 rintro u s' ⟨a,B,sI,pins',σ',H',cls,d,rfl,J',nb,up,sky,na,os,ag,hx,yes⟩
 have J:Inv X pins σ' H' sI:=J'.ofTry ok
 rw [hs] at sky
 refine Sky.land Zc.steady frames hf sky fun h3 fl3 up3=>?_
 have J3:Inv X pins σ' H' { s' with heap:=h3 }:=J.landed nb fl3.1 (up.trans up3) os ag
 obtain ⟨oe3,vs3,he3,hz3,hd3⟩:=fl3.there
 have far:∀b∈frs (X.env::X.outer),b≠a:=by
  intro b hb e
  subst e
  obtain ⟨_,o',e',nf⟩:=fl3.2.2.1.mem hb
  rw [he3] at e'
  cases e'
  exact nf _ hd3
 have nL:a≠X.env.locals:=fun z=>far X.env.locals (List.mem_filterMap.mpr ⟨X.env,List.mem_cons_self,hf⟩) z.symm
 have nF:a∉X.fs:=fun m=>by
  obtain ⟨e,he,q⟩:=List.mem_filterMap.mp m
  exact far a (List.mem_filterMap.mpr ⟨e,List.mem_cons_of_mem _ he,q⟩) rfl
 have S3:=J3.suite he3 hd3 na nL nF
 refine wpAny_handleBy_cons (codeAny_handlers_test ?_) (fun q=>by cases q)
 -- the tuple of the classes
 have one:∀{x:Str} {C:Addr} {q:Pos} {Q:Value→Shared→Prop} {E:Value→Shared→Prop},Gl X x→X.mg x=some (.ref C)→(x == ("__debug__":Str))=false→Q (.ref C) { s' with heap:=h3 }→wpAny (model X.prog X.w) (X.A.mark (some (.ref a))) (eval (.Name x q) X.env) Q E { s' with heap:=h3 }:=
  fun g m d q=>ld_glob (X:=X.suite a ((a,oe3)::(X.pn++pins))) S3 g m q d
 refine wpAny_Tuple_spliced ?_
 rw [show starEach [.Name x1 p1,.Name x2 p2,.Name x3 p3] X.env=(false,eval (.Name x1 p1) X.env)::starEach [.Name x2 p2,.Name x3 p3] X.env from rfl]
 show wpAny _ _ (spliced ((false,eval (.Name x1 p1) X.env)::backTo np (starEach [.Name x2 p2,.Name x3 p3] X.env))) _ _ _
 refine Calls.spliced_cons (one g1 m1 d1 ?_)
 rw [show starEach [.Name x2 p2,.Name x3 p3] X.env=(false,eval (.Name x2 p2) X.env)::starEach [.Name x3 p3] X.env from rfl]
 show wpAny _ _ (spliced ((false,eval (.Name x2 p2) X.env)::backTo np (starEach [.Name x3 p3] X.env))) _ _ _
 refine Calls.spliced_cons (one g2 m2 d2 ?_)
 rw [show starEach [.Name x3 p3] X.env=(false,eval (.Name x3 p3) X.env)::starEach [] X.env from rfl]
 show wpAny _ _ (spliced ((false,eval (.Name x3 p3) X.env)::backTo np (starEach [] X.env))) _ _ _
 refine Calls.spliced_cons (one g3 m3 d3 ?_)
 refine Calls.spliced_nil ⟨(by show 3≤sizeLine; decide),?_⟩
 -- it matches
 have keep:∀b o,h3.get? b=some o→(h3.push ({ cls:=.type "tuple",data:=.seq [Value.ref C1,.ref C2,.ref C3].toArray }:Obj)).get? b=some o:=fun b o e=>Heap.get?_push_of_some _ e
 have tup:(h3.push ({ cls:=.type "tuple",data:=.seq [Value.ref C1,.ref C2,.ref C3].toArray }:Obj)).get? h3.objs.size=some { cls:=.type "tuple",data:=.seq [Value.ref C1,.ref C2,.ref C3].toArray }:=Heap.get?_push_size _ rfl
 have fl5:=kL keep fl3
 have up5:=up3.trans (Heap.UpToSlots.of_keeps keep)
 generalize h3.push ({ cls:=.type "tuple",data:=.seq [Value.ref C1,.ref C2,.ref C3].toArray }:Obj)=h5 at keep tup fl5 up5
 have J5:Inv X pins σ' H' { s' with heap:=h5 }:=J.landed nb fl5.1 (up.trans up5) os ag
 have LT:PySem.W.Looks (model X.prog X.w) h5 (typeOf (.ref a)) cls:=fun A Q E s k q=>wpAny_typeOf_ref (k _ _ (keep _ _ he3)) (by rw [hz3.1]; exact q)
 refine (PySem.W.exm_tup3 J5.kIn LT tup hx).here ?_
 refine codeAny_handlers_suite_as (HandSPX.lands_againZ fl5 fun h6 fl6 up6=>?_)
 have J6:Inv X pins σ' H' { s' with heap:=h6 }:=J.landed nb fl6.1 ((up.trans up5).trans up6) os ag
 obtain ⟨oe6,vs6,he6,hz6,hd6⟩:=fl6.there
 have S6:=J6.suite he6 hd6 na nL nF
 refine store_ok (X:=X.suite a ((a,oe6)::(X.pn++pins))) (v:=.ref a) S6 hN hi (.inl hln) rfl (fun s7 S7=>?_) (.inr hln)
 refine wpAny_mono ((hsu a oe6 cls d (X.pn++pins) hz6 ⟨_,hd6⟩).run [] s7 _ H' _ S7 (yes a na J.len)) ?_ fun _ _ z=>z.elim
 intro f s8 z
 cases f with
 | next=>
  obtain ⟨σ8,H8,S8,q⟩:=z
  exact gone_ok (S8.unsuite ok) hN hi hln fun s9 J9=>⟨_,_,J9,q⟩
 | brk=>
  obtain ⟨σ8,H8,S8,q⟩:=z
  exact gone_ok (S8.unsuite ok) hN hi hln fun s9 J9=>⟨_,_,J9,q⟩
 | cont=>
  obtain ⟨σ8,H8,S8,q⟩:=z
  exact gone_ok (S8.unsuite ok) hN hi hln fun s9 J9=>⟨_,_,J9,q⟩
 | ret u=>
  obtain ⟨v,σ8,H8,S8,rv,q⟩:=z
  exact gone_ok (S8.unsuite ok) hN hi hln fun s9 J9=>⟨_,_,_,J9,rv,q⟩
end
theorem xr:∃(k1 k2 k3 k4:Nat) (p1 p2 p3 p4 p5 p6 p7 p8 p9 p10 p11 p12 p13 p14 p15 p16 p17 p18:Pos),defBody ak=[.Try [.Return (some (.Tuple [.Constant (.str "value") k1 p1,.Call (.Name "_law_ask" p2) [] [] p3] k2 p4)) p5]
  [.ExceptHandler (some (.Tuple [.Name "FrameError" p6,.Name "Missing" p7,.Name "NothingLeft" p8] k3 p9)) (some "_law_e") [.Return (some (.Tuple [.Attribute (.Name "_law_e" p10) "code" p11,.Call (.Name "_law_field" p12) [.Name "_law_e" p13] [] p14] k4 p15)) p16] p17] [] [] p18]:=⟨_,_,_,_,_,_,_,_,_,_,_,_,_,_,_,_,_,_,_,_,_,_,rfl⟩
theorem qO{X:Cx}{pins:List (Addr×Obj)}{σ:L2.St}{H:Hp}{s:Shared}(I:Inv X pins σ H s):Inv X.nox pins σ H s:=
 ⟨⟨I.ok.mod,I.ok.kind,I.ok.glob,I.ok.blt,I.ok.above,I.ok.inj,I.ok.has,I.ok.cab,I.ok.hd,I.ok.frames,I.ok.stk,I.ok.exf,I.ok.bs,I.ok.bsz,I.ok.noex,I.ok.exfs,I.ok.funs,I.ok.frf⟩,I.os,I.bare,I.base,I.loc,I.cell,I.free,I.freeC,I.pin,I.hok,I.len⟩
section
variable {X:Cx} {E:XK}
theorem CY{c P c1 c2 c3:Addr}{k:Nat}{params:Arguments}{body:Expr}{scope:Scope}{T:DTE}{p lpos pos:Pos}(Gt:Gs X.K X.mg "_law_try" ak)(Gf:Gs X.K X.mg "_law_field" aY)
  (m1:X.mg "FrameError"=some (.ref c1)) (m2:X.mg "Missing"=some (.ref c2)) (m3:X.mg "NothingLeft"=some (.ref c3)) (TB:LamX.TabB X.base X.mg c P) (hcode:X.env.code=.ref c) (hr:Room (k+3) X.A)
  (hbody:∀(A:Around) (outer:List Env) (s:Shared) (H:Hp) (E:XK) (f c':Addr),Room (k+1) (A.deeper (LamX.lamEnv X scope s.heap.objs.size f c'))→UE2 (LamX.lamCx X A outer s H E0 scope f c') E body T)
  (hg:Gl X "_law_try":=by rfl) (L:LamX.LamS X.env.scope scope:=by exact LamX.lamS_by (by rfl)) (hdef:defaultsOf params X.env=([],[]):=by rfl)
  (hbind:∀(q:Str) (cl:List (Str×Addr)) (pm cv ctv:Value),bindArgs (PySem.W.kla_fn "<lambda>" q params body scope cl pm cv ctv) ⟨[],[]⟩=pure []:=by intros; rfl):
  UE X E (.Call (.Name "_law_try" p) [.Lambda params body scope lpos] [] pos) (CF X.K c1 c2 c3 P (X.env.qual++"<lambda>") T):=by
 refine ⟨fun pins B μ en m σ H s Q Qx I g R hx ht=>?_⟩
 obtain ⟨⟨⟨n0,hn0⟩,one⟩,T0⟩:=ht
 obtain ⟨gT,fdT,mT,D⟩:=Gt
 obtain ⟨fF,fdF,mF,DF⟩:=Gf
 have hb:=D.bindsN (ps:=iX) fun _ _ _ _ _ _ us hl=>match us,hl with | [_],_=>rfl
 have kT:=D.kp
 obtain ⟨oc,od,dV,kV,doc,pm,an,cdv,ct,osl,rfl,lk,hcd,_,_⟩:=D.ex
 have la:n0<μ.length:=by rw [R.mem.len]; exact (List.getElem?_eq_some_iff.mp hn0).1
 obtain ⟨hp,tb0⟩:=(show μ[n0]=P∧TabB B H μ[n0] (X.env.qual++"<lambda>") from R.mem.at_ n0 μ[n0] _ (List.getElem?_eq_getElem la) hn0 rfl)
 rw [hp] at tb0
 have hT:LamX.Tabs [(P,X.env.qual++"<lambda>")] H:=fun x hxm=>by
  have ex:x=(P,X.env.qual++"<lambda>"):=by simpa using hxm
  subst ex
  obtain ⟨ps,h1,h2,h3⟩:=tb0.ex
  exact ⟨ps,h1,h2,fun pos cv hc=>let ⟨c,e4,e5⟩:=h3 pos cv hc; ⟨c,e4,R.mem.le _ _ e5⟩⟩
 refine wpAny_Call_Name_kw (mC I g (ld_glob I.asl hg mT ⟨rfl,rfl⟩ (by decide)) fun s1 I1 g1=>?_)
 refine PySem.W.callWith_K (h₀:=X.base) I.ok.mod.kin kT ?_ (by rfl) (by rfl)
 show wpAny _ _ (spliced ((false,eval (.Lambda params body scope lpos) X.env)::backTo pos (starEach [] X.env))) _ _ s1
 have lam:wpAny (model X.prog X.w) X.A (eval (.Lambda params body scope lpos) X.env) (fun v s'=>∃(f c':Addr) (pm ctv:Value) (H1:Hp),v=.ref f∧Inv X pins σ H1 s'∧LamX.ExtN H H1∧LamX.Tabs [(P,X.env.qual++"<lambda>")] H1∧s'.heap.get? f=some (PySem.W.kla_obj "<lambda>" (X.env.qual++"<lambda>") params body scope (cloFrom X.env.cells scope.names []) pm c' ctv)∧H1 f=none∧f∉frs X.stack∧H1 c'=some (LamX.CodeO c' (X.env.qual++"<lambda>"))) (sxX X (EG E s1)).xe (asleep s1):=
  LamX.lam_make2 I1.asl TB hcode List.mem_cons_self (fun q hq _=>by
   rcases List.mem_cons.mp hq with e | e
   ·rw [e]
   ·cases e) hT hdef (L.has I.ok) fun f c' pm ctv H1 s' i1 i2 i3 i4 i5 i6 i7=>⟨f,c',pm,ctv,H1,rfl,i1,i2,i3,i4,i5,i6,i7⟩
 refine Calls.spliced_cons (wpAny_mono (fx I1.bare lam) (fun v s2 ⟨s3,⟨f,c',pm',ctv,H1,ev,J3,eN,T1,hf,hfn,hfr,hco⟩,sl⟩=>?_) fun _ _ z=>z)
 subst ev
 have I2:Inv X pins σ H1 s2:=sl.inv J3
 have hf2:s2.heap.get? f=some (PySem.W.kla_obj "<lambda>" (X.env.qual++"<lambda>") params body scope (cloFrom X.env.cells scope.names []) pm' c' ctv):=by rw [sl.eq]; exact hf
 obtain ⟨B1,st1,M1⟩:=zk R.mem eN T1 (fun n' a q em=>by
  obtain ⟨rfl,rfl⟩:=one n' a q em
  simp)
 have R1:=R.stp st1 M1
 have g2:Gok H1 s2:=(g1.stp R.mem st1).sl sl
 refine Calls.spliced_nil ⟨I2.kIn,?_⟩
 have rc:codeAny (M0 X.prog X.w) X.A (.call (.ref gT) ⟨[.ref f],[]⟩) (fun r s'=>∃u,r=.ok (.ret u)∧CE X.stack X.prog X.w H1 s2 (fun v H'=>(∃B' μ' m' x,Stp B1 μ m H1 B' μ' m' H'∧MemOk X.K B' μ' m' H'∧RW X.K B' μ' v x∧Q x m')∧Gok H' s') u s') s2:=by
  have KX:X.K.In s2.heap:=I2.kIn
  have lim:s2.heap.NoLimit:=I2.nolimit
  have S:=kM
  have hkind:∀y∈iX.zip [Value.ref f],(defScope ak).names.lookup y.1=some .local∨((defScope ak).names.lookup y.1=some .cell∧((cellsFrom (s2.heap.objs.size+1) (defScope ak).names []).lookup y.1).isSome=true):=fun ⟨n,v⟩ hy=>by
   rcases S.par n (List.of_mem_zip hy).1 with q | q
   ·exact .inl q
   ·exact .inr ⟨q,PySem.W.cellsFrom_some _ _ _ (.inl q)⟩
  refine dS hr.depth (KX _ _ lk) rfl S.co S.gen rfl (PySem.W.codeRec_of KX hcd) (hb s2 [.ref f] I2.kIn rfl _ _ _ _ ?_)
  refine wpAny_newFunctionEnv_cells S.kind hkind fun env he s4 x=>?_
  subst he
  have gens4:s4.gens=s2.gens:=by
   obtain ⟨h1,tk,es1,hk1⟩:=x.done
   rw [es1]
  have kp4:∀b o,s2.heap.get? b=some o→s4.heap.get? b=some o:=x.toInCall.keep
  refine ⟨lim.keeps x.toInCall.keep,f8 ?_⟩
  have I4:Inv (cxOf C8.CX0 X.prog X.w X.K X.mg X.base bP "_law_try" (defScope ak) gT cdv X.A X.stack s2 H1 C8.E0) [] (start bP [V.ref f]) H1 s4:=inv_start S hr.hd I2.env0 rfl (.cons rfl .nil) x
  have I4:Inv (cxOf C8.CX0 X.prog X.w X.K X.mg X.base bP "_law_try" (defScope ak) gT cdv X.A X.stack s2 H1 C8.E0).nox [] (start bP [V.ref f]) H1 s4:=qO I4
  have g4:Gok H1 s4:=g2.ld fun a ⟨i,h⟩=>⟨i,h.of (by rw [gens4])⟩
  have hrY:Room (k+2) (X.A.deeper (envOfC "_law_try" (defScope ak) s2.heap.objs.size gT cdv)):=hr.deeper _
  obtain ⟨E',hE'⟩:∃E':XK,E'=fun cls d H'=>∃(C dd:Addr) (fs:List (Str×V)) (code:Str) (v:V),cls=.ref C∧d=some dd∧PySem.W.exmAny X.K cls [.ref c1,.ref c2,.ref c3]=some true∧ErrAt X.K H' C dd fs code v∧∀H2,Same H' H2→AH H2 (.str code) v (fun v H'=>(∃B' μ' m' x,Stp B1 μ m H1 B' μ' m' H'∧MemOk X.K B' μ' m' H'∧RW X.K B' μ' v x∧Q x m')):=⟨_,rfl⟩
  have hxv:ExOf X.K E' B1 μ m H1 (fun er m1=>ErrK X.K c1 c2 c3 er.C∧wN er fun code d=>Q (.v (.tup [.str code,d])) m1):=by
   intro B' μ' m' H' er dd fvs s' M' hd rf q
   rw [hE']
   obtain ⟨⟨xk,ca⟩,code,d,h1,h2,h3,q⟩:=q
   obtain ⟨hc,ho,v,hv,rv⟩:=CG rf h1 h3
   refine ⟨er.C,dd,fvs,code,v,rfl,rfl,ca,⟨xk,hd,hc,h2,hv⟩,fun H2 s2=>?_⟩
   have st:=s'.trans M' (Stp.grow s2) M1.le
   exact Bo (M'.grow s2) ho rv fun B3 H3 z s3 M3 rz=>⟨B3,μ',m',.v _,st.trans (M'.grow s2) s3 M1.le,M3,RW.d rz,q⟩
  show wpAny _ _ (execs (defBody ak) (envOfC "_law_try" (defScope ak) s2.heap.objs.size gT cdv)) _ _ s4
  obtain ⟨k1,k2,k3,k4,p1,p2,p3,p4,p5,p6,p7,p8,p9,p10,p11,p12,p13,p14,p15,p16,p17,p18,hbd⟩:=xr
  rw [hbd]
  refine wpAny_execs_cons (jb (wpAny_execs_cons (wpAny_Return_some (wpAny_Tuple ?_))))
  show wpAny _ _ (spliced ((false,eval (.Constant (.str "value") k1 p1) (envOfC "_law_try" (defScope ak) s2.heap.objs.size gT cdv))::backTo p4 (starEach [.Call (.Name "_law_ask" p2) [] [] p3] (envOfC "_law_try" (defScope ak) s2.heap.objs.size gT cdv)))) _ _ s4
  refine Calls.spliced_cons (wpAny_mono (a4 I4.bare ((pe_str (X:=(cxOf C8.CX0 X.prog X.w X.K X.mg X.base bP "_law_try" (defScope ak) gT cdv X.A X.stack s2 H1 C8.E0).nox) (x:="value")).run [] (asleep s4) _ H1 (fun v H'=>v=.str "value"∧H'=H1) I4.asl ⟨rfl,rfl⟩)) (fun u5 s5 ⟨t5,⟨v5,H5,J5,rv5,e5,e5'⟩,sl5⟩=>?_) fun e s5 ⟨_,z,_⟩=>False.elim z)
  subst e5
  rw [e5'] at J5
  have I5:=sl5.inv J5
  have g5:=g4.sl sl5
  show wpAny _ _ (spliced ((false,eval (.Call (.Name "_law_ask" p2) [] [] p3) (envOfC "_law_try" (defScope ak) s2.heap.objs.size gT cdv))::backTo p4 (starEach [] (envOfC "_law_try" (defScope ak) s2.heap.objs.size gT cdv)))) _ _ s5
  refine Calls.spliced_cons (wpAny_Call_Name_kw ?_)
  refine wpAny_mono (a4 I5.bare ((pe_var (X:=(cxOf C8.CX0 X.prog X.w X.K X.mg X.base bP "_law_try" (defScope ak) gT cdv X.A X.stack s2 H1 C8.E0).nox) (i:=0) rfl (by first | exact .inl rfl | exact rfl | decide+kernel) (by decide) (by decide)).run [] (asleep s5) _ _ (fun v H'=>v=.ref f∧H'=H1) I5.asl ⟨.ref f,rfl,rfl,rfl⟩)) (fun u6 s6 ⟨t6,⟨v6,H6,J6,rv6,e6,e6'⟩,sl6⟩=>?_) fun e s5 ⟨_,z,_⟩=>False.elim z
  subst e6
  rw [e6'] at J6
  cases rv6
  have I6:=sl6.inv J6
  have g6:=g5.sl sl6
  have of6:s6.heap.get? f=some (PySem.W.kla_obj "<lambda>" (X.env.qual++"<lambda>") params body scope (cloFrom X.env.cells scope.names []) pm' c' ctv):=I6.base.keep f _ hf2 hfn hfr (fun z=>nomatch (show f∈([]:List Addr) from z))
  have un:Un (frs X.stack) [] H1 H1 s2.heap s6.heap:=I6.base
  obtain ⟨⟨oc',vs',t',hoc,hdc,hvc⟩,_,_⟩:=I6.hok c' _ hco
  have rcl:codeAny (M0 X.prog X.w) (X.A.deeper (envOfC "_law_try" (defScope ak) s2.heap.objs.size gT cdv)) (.call (.ref f) ⟨[],[]⟩) (fun r s7=>CR (L2.CX X.prog X.w) ((envOfC "_law_try" (defScope ak) s2.heap.objs.size gT cdv)::X.stack) X.prog X.w H1 s6 (fun v H'=>(∃B' μ' m' x,Stp B1 μ m H1 B' μ' m' H'∧MemOk X.K B' μ' m' H'∧RW X.K B' μ' v x∧oD x fun d=>Q (.v (.tup [.str "value",d])) m')∧Gok H' s7) (EG E' s7) r s7) s6:=by
   refine nH hrY.depth of6 rfl L.co L.gen rfl ⟨c',oc',vs',t',rfl,hoc,hdc,hvc⟩ ?_
   rw [hbind]
   refine wpAny_pure (wpAny_newFunctionEnv (fun y hy=>(L.own y hy).2) (fun y hy=>absurd hy (by simp)) (fun h₁ hns hsb=>⟨I6.nolimit.fresh _ hsb,?_⟩) L.kind)
   show codeAny _ _ (.expr body (LamX.lamEnv X scope s6.heap.objs.size f c')) _ _
   have kp:∀b o,s6.heap.get? b=some o→h₁.get? b=some o:=fun b o e=>hsb.extBut b o (Nat.ne_of_lt (Heap.lt_size e)) (Heap.get?_push_of_some _ e)
   have J:Inv (LamX.lamCx X (X.A.deeper (envOfC "_law_try" (defScope ak) s2.heap.objs.size gT cdv)) ((envOfC "_law_try" (defScope ak) s2.heap.objs.size gT cdv)::X.stack) s6 H1 E0 scope f c') [] σ H1 { s6 with heap:=h₁,toks:=s6.toks+([]:List (Str×Value)).length }:=
    LamX.lam_start2 I2 L I6.env0 hrY.hd un hns kp
   have gJ:Gok H1 { s6 with heap:=h₁,toks:=s6.toks+([]:List (Str×Value)).length }:=g6.ld fun a ⟨i,h⟩=>⟨i,h.of rfl⟩
   refine sF (wpAny_mono ((hbody _ _ s6 H1 E' f c' (hrY.deeper _)).run [] B1 μ en m σ H1 _ (fun x m1=>oD x fun d=>Q (.v (.tup [.str "value",d])) m1) _ J gJ R1 hxv T0) (fun v7 s7 ⟨x7,w7,B7,μ7,m7,H7,J7,g7,rv7,rw7,st7,R7,q7⟩=>?_) fun e s7 ⟨sx,s0,hx0,sl7⟩=>?_)
   ·exact ⟨x7,H7,J7.os,J7.bare,J7.base,J7.hok,rv7,⟨B7,μ7,m7,w7,st7,R7.mem,rw7,q7⟩,g7⟩
   ·have up:∀{y:Value} {ta tb:Shared},L2.CX X.prog X.w ((envOfC "_law_try" (defScope ak) s2.heap.objs.size gT cdv)::X.stack) H1 s6 (EG E' s7) y ta→Slq sx ta tb→L2.CX X.prog X.w ((envOfC "_law_try" (defScope ak) s2.heap.objs.size gT cdv)::X.stack) H1 s6 (EG E' tb) y tb:=fun {y ta tb} c k=>by
     have c2:=jM c (g:=tb.gens) k.bare
     rw [←k.eq] at c2
     exact jL (fun _ _ _ z=>⟨z.1,z.2.ld fun a q=>sl7.ld2 k q⟩) c2
    have hx0:wpAny (model X.prog X.w) ((X.A.deeper (envOfC "_law_try" (defScope ak) s2.heap.objs.size gT cdv)).deeper (LamX.lamEnv X scope s6.heap.objs.size f c')) (leaving (LamX.lamEnv X scope s6.heap.objs.size f c') e) (fun _ s''=>L2.CX X.prog X.w ((envOfC "_law_try" (defScope ak) s2.heap.objs.size gT cdv)::X.stack) H1 s6 (EG E' s7) e s'') (fun e' s''=>L2.CX X.prog X.w ((envOfC "_law_try" (defScope ak) s2.heap.objs.size gT cdv)::X.stack) H1 s6 (EG E' s7) e' s'') s0:=hx0
    exact wpAny_mono (aU sl7 hx0) (fun _ tb ⟨ta,q,k⟩=>up q k) fun y tb ⟨ta,q,k⟩=>up q k
  refine PySem.W.callWith_F0 ⟨_,_,_,_,of6⟩ (wpAny_call (codeAny_mono rcl fun r s7 hq=>?_))
  cases r with
  | ok fl=>
   cases fl with
   | next=>exact False.elim hq
   | brk=>exact False.elim hq
   | cont=>exact False.elim hq
   | ret u7=>
    obtain ⟨v7,H7,I7,rv7,⟨B',μ',m',x7,stp,M',rw7,q7⟩,g7⟩:=I6.after hq
    cases x7 with
    | loc n=>exact q7.elim
    | v d=>
     refine Calls.spliced_nil ⟨by show 2≤sizeLine; decide,?_⟩
     refine ⟨_,rfl,?_⟩
     have np:H7 s7.heap.objs.size=none:=I7.hok.fresh (Nat.le_refl _)
     have I8:=I7.laid (o:=.tup [.str "value",v7]) (t':=s7.toks) (h':=s7.heap.push { cls:=.type "tuple",data:=.seq [u5,u7].toArray }) (fun b u e=>Heap.get?_push_of_some _ e) (Nat.le_refl _) ⟨by show 2≤sizeLine; decide,[u5,u7],.cons rv5 (.cons rv7 .nil),_,Heap.get?_push_size _ rfl,rfl,0,rfl⟩
     have sl:=Stp.laid M' np (o:=.tup [.str "value",v7])
     have M8:=M'.laid np (o:=.tup [.str "value",v7])
     exact ⟨.ref s7.heap.objs.size,_,I8.os,I8.bare,I8.base,I8.hok,rfl,⟨_,μ',m',.v (.tup [.str "value",d]),stp.trans M' sl M1.le,M8,RW.d (.tup (.inl upd_same) (.cons (.str (by decide+kernel)) (.cons (Rv.to sl.same rw7) .nil))),q7⟩,(g7.stp M' sl).ld fun a ⟨i,h⟩=>⟨i,h.of rfl⟩⟩
  | error e=>
   have hq:L2.CX X.prog X.w ((envOfC "_law_try" (defScope ak) s2.heap.objs.size gT cdv)::X.stack) H1 s6 (EG E' s7) e s7:=hq
   have hbr:AllBare s7.gens:=by
    obtain ⟨_,_,_,_,_,_,_,_,_,_,_,hb,_⟩:=hq
    exact hb
   have tk:=vy (X:=(cxOf C8.CX0 X.prog X.w X.K X.mg X.base bP "_law_try" (defScope ak) gT cdv X.A X.stack s2 H1 C8.E0).nox) (pins:=[]) (x1:="FrameError") (x2:="Missing") (x3:="NothingLeft") (n:="_law_e") (i:=1) (b₀:=.Return (some (.Tuple [.Attribute (.Name "_law_e" p10) "code" p11,.Call (.Name "_law_field" p12) [.Name "_law_e" p13] [] p14] k4 p15)) p16) (suite:=[]) (p1:=p6) (p2:=p7) (p3:=p8) (np:=p9) (k:=k3) (pos':=p17) (D:={ nx:=fun _ _=>False,rt:=fun v H'=>(∃B' μ' m' x,Stp B1 μ m H1 B' μ' m' H'∧MemOk X.K B' μ' m' H'∧RW X.K B' μ' v x∧Q x m')∧Gok H' s7 }) (ts:=fun a cls d=>tRet (AF (tCons (tXp X.K a cls d "code" (tVar 1)) (tCons (we (sY X.K a cls d) (tCons (tVar 1) tNil)) tNil)))) I6.ok rfl rfl kM.nd rfl rfl rfl m1 rfl m2 rfl m3 (by decide) (by decide) (by decide) (fun a oe cls d pn hz hf=>
    pss_one (ps_ret (yT (pa_cons (cK (p:=(a,oe)) List.mem_cons_self hz hf (pv 1)) (pa_cons (wg (nw DF hz hf) List.mem_cons_self ⟨((L2H.roomH_of hrY).mono (by omega:1≤k+2)).dp,((L2H.roomH_of hrY).mono (by omega:1≤k+2)).un⟩ mF DF.kp (pa_cons (pv 1) pa_nil)) pa_nil)))))
   have xe0:=L2.passes_call (E:=EG E' s7) tk (fun cls d σ' H' ⟨z,gz⟩=>by
    rw [hE'] at z
    obtain ⟨C,dd,fs,code,v,rfl,rfl,hx,T,k⟩:=z
    refine ⟨hx,fun a na hl=>?_⟩
    have hl2:σ'.length=2:=hl
    have slot:(σ'.set 1 (some (V.ref a)))[1]? =some (some (V.ref a)):=List.getElem?_set_self (by omega)
    refine ⟨_,slot,rfl,C,dd,fs,_,rfl,rfl,T.ex.xf,T.ex.no _ (by simp [bE]),T.at_,T.cod,_,slot,C,dd,fs,code,v,rfl,rfl,rfl,T,fun H2 s2=>?_⟩
    obtain ⟨p1,p2⟩:=k H2 s2
    exact ⟨p1,fun p H3 np s3 hp=>⟨p2 p H3 np s3 hp,fun a z=>by
     obtain ⟨o,u,e,gn⟩:=gz a z
     exact ⟨o,u,s3 _ _ (s2 _ _ e),gn⟩⟩⟩) [] _ H1 s6 e (asleep s7) (I6.toTry _) (jM hq fun _=>bu hbr)
   refine wpAny_mono (a4 hbr xe0) (fun _ s8 ⟨t8,h8,sl8⟩=>?_) fun e s8 ⟨_,z,_⟩=>False.elim z
   refine wpAny_mono (aU sl8 h8) (fun _ s9 ⟨t9,h9,sl9⟩=>?_) fun e s8 ⟨_,z,_⟩=>False.elim z
   refine wpAny_mono (aU sl9 h9) (fun fl s10 ⟨t10,h10,sl10⟩=>?_) fun e s8 ⟨_,z,_⟩=>False.elim z
   cases fl with
   | next=>obtain ⟨_,_,_,z⟩:=h10; exact z.elim
   | brk=>obtain ⟨_,_,_,z⟩:=h10; exact z.elim
   | cont=>obtain ⟨_,_,_,z⟩:=h10; exact z.elim
   | ret u10=>
    obtain ⟨v10,σ10,H10,J10,rv10,q10,g10⟩:=h10
    have I10:=sl10.inv J10
    exact ⟨_,rfl,v10,H10,I10.os,I10.bare,I10.base,I10.hok,rv10,q10,g10.ld fun a h=>sl10.ld h⟩
 refine wpAny_call (codeAny_mono rc fun r s' ⟨u,er,hq⟩=>?_)
 subst er
 obtain ⟨v,H',I',rv,⟨B',μ',m',x,st,M',rw,q⟩,g'⟩:=I2.after hq
 exact ⟨v,x,B',μ',m',H',I',g',rv,rw,st1.trans M1 st R.mem.le,R1.stp st M',q⟩
end
abbrev LOb(v:Env)(params:Arguments)(body:Expr)(scope:Scope)(dV doc pm:Value)(c':Addr)(ctv:Value):Obj:=
 PySem.W.kdv_obj "<lambda>" (v.qual++"<lambda>") params (.expr body) scope (cloFrom v.cells scope.names []) dV doc pm c' ctv
structure LamO (v:Env) (params:Arguments) (body:Expr) (scope:Scope) (ns:List Str) (f c':Addr) (os:List (Addr×Obj)):Prop where
 ex:∃(ob:Obj) (r:List (Addr×Obj)) (dV doc pm ctv:Value) (bs:List (Str×Value)),os=(f,ob)::r∧ob=LOb v params body scope dV doc pm c' ctv∧bs.map (·.1)=ns∧
  ∀s:Shared,(∀p∈os,s.heap.get? p.1=some p.2)→BindsTo s (PySem.W.kdv_fn "<lambda>" (v.qual++"<lambda>") params (.expr body) scope (cloFrom v.cells scope.names []) dV doc pm (.ref c') ctv) ⟨[],[]⟩ bs
structure LamN (N:List Str) (sc scope:Scope) (ns:List Str):Prop where
 kind:scope.kind=.function
 co:scope.isCoroutine=false
 gen:scope.isGenerator=false
 own:∀y∈scope.names,y.2≠ .cell∧(y.2=.local→y.1∉N)
 free:∀y∈scope.names,y.2=.free→sc.names.lookup y.1=some .cell∨sc.names.lookup y.1=some .free
 loc:∀y∈ns,scope.names.lookup y=some .local
section
variable {X:Cx} {pins:List (Addr×Obj)} {σ:L2.St} {H:Hp} {s:Shared}
end
section
variable {X:Cx}
variable {E:XK}
end
section
variable {X:Cx} {pins:List (Addr×Obj)} {σ:L2.St} {H HZ:Hp} {s s1:Shared}
end
section
variable {X:Cx} {E:XK} {pins:List (Addr×Obj)} {σ:L2.St} {H:Hp} {sc s2:Shared} {B:Hp} {μ:List Addr} {en:En} {m:Me}
end
section
variable {X:Cx} {E:XK} {a b:Expr} {ta tb:DTE} {pos:Pos}
end
section
variable {X:Cx} {E:XK} {c1 c2 c3:Addr} {k:Nat} {e:Expr} {te:DTE} {p pos:Pos}
end
open PySem.W PySem.Calls HandSHeadRun
structure LawOkT (P:Program) (w:World) (K:Fs.Frag) (mg:PySem.Str→Option Value) (base:Heap) (n:Nat) (cs:List (Addr×Addr)) (fa:Addr):Prop where
 run:∀(s:Shared) (H:Hp) (a:Addr) (ns:List Int),Env0 P w K mg base callerA [] s H→s.gens= #[]→(∀p∈cs,H p.2=some (.tbl #[]))→SqL K H a (ns.map V.int)→ns.length≤n→
  codeAny (M0 P w) callerA (.call (.ref fa) ⟨[.ref a],[]⟩) (fun r s'=>CR (L2N.CX P w) [] P w H s (fun v H'=>v=.bl true∧Gok H' s') E0 r s') s
structure SeenT (cs:List (Addr×Addr)) (a:Addr) (H:Hp):Prop where
 tb:∀p∈cs,H p.2=some (.tbl #[])
 is:∀b u,H b=some u→(b∈cs.map (·.2)∧u=.tbl #[])∨(b=a∧∃o xs,u=.frz o (.lst xs))
theorem SeenT.none{cs:List (Addr×Addr)}{a:Addr}{H:Hp}(S:SeenT cs a H){b:Addr}(h1:b∉cs.map (·.2))(h2:b≠a):H b=none:=by
 cases q:H b with
 | none=>rfl
 | some u=>
  rcases S.is b u q with ⟨z,_⟩ | ⟨z,_⟩
  ·exact absurd z h1
  ·exact absurd z h2
section
variable {P:Program} {w:World} {K:Fs.Frag} {mg mb:PySem.Str→Option Value} {n:Nat} {fa a:Addr} {cs:List (Addr×Addr)} {s1:Shared} {vs:List Value} {ns:List Int}
theorem qP(KX:K.In s1.heap)(hns:s1.heap.Ns mainGlobals mg)(hb:s1.heap.Ns builtinsNs mb)(hbb:∀x:PySem.Str,x≠"__name__"→mb x=bootBuiltins x)(hlim:s1.heap.NoLimit)(hg:s1.gens= #[])
  (isT:∀p∈cs,s1.heap.get? p.2=some { cls:=.none,data:=.fields #[] }) (nT:∀p∈cs,K.lookup p.2=none) (C:∀p∈cs,PySem.W.CodeHd s1.heap p.1 p.2)
  (hbm:∃(bm:Addr) (ob:Obj),mg "__builtins__"=some (.ref bm)∧bm≠builtinsNs∧s1.heap.get? bm=some ob∧ob.cls=.type "module"∧ob.dict=some builtinsNs∧ob.data=.plain)
  (ha:s1.heap.get? a=some { cls:=.type "list",data:=.seq vs.toArray }) (hl:ns.length≤n)
  (F:∀base:Heap,K.In base→base.Ns mainGlobals mg→(∀p∈cs,LamX.TabB base mg p.1 p.2)→LawOkT P w K mg base n cs fa)
  {H:Hp} (S:SeenT cs a H) (hS:SqL K H a (ns.map V.int)) (hok:HOk P w H s1.heap) (hK:H a≠none→K.lookup a=none):
  codeAny (M0 P w) callerA (.call (.ref fa) ⟨[.ref a],[]⟩) (fun r s'=>r=.ok (.ret (.bool true))∧OldK s1.heap s'.heap∧s'.os=s1.os∧AllBare s'.gens∧a6 s') s1:=by
 -- an object that is neither a sequence nor an empty record is not tracked
 have free:∀{b:Addr} {o:Obj},s1.heap.get? b=some o→(∀ys k,o.data≠ .seq ys k)→o.data≠ .fields #[]→H b=none:=fun {b o} e h1 h2=>by
  refine S.none (fun z=>?_) fun z=>?_
  ·obtain ⟨p,hp,rfl⟩:=List.mem_map.mp z
   have y:=isT p hp
   rw [e] at y
   exact h2 (congrArg Obj.data (Option.some.inj y))
  ·rw [z,ha] at e
   exact h1 _ _ (congrArg Obj.data (Option.some.inj e)).symm
 have up:∀{b:Addr} {o:Obj},s1.heap.get? b=some o→(∀ys k,o.data≠ .seq ys k)→o.data≠ .fields #[]→(hidT s1.heap H).get? b=some o:=fun e h1 h2=>hidT_get e (free e h1 h2)
 have ofD:∀{b:Addr} {m:PySem.Str→Option Value},s1.heap.Ns b m→(hidT s1.heap H).Ns b m:=fun {b m} ⟨o,es,ep,e,d,r⟩=>⟨o,es,ep,up e (fun _ _ z=>nomatch d.symm.trans z) (fun z=>nomatch d.symm.trans z),d,r⟩
 have hKb:K.In (hidT s1.heap H):=fun b o e=>by
  refine hidT_get (KX b o e) ?_
  by_cases h1:b∈cs.map (·.2)
  ·obtain ⟨p,hp,rfl⟩:=List.mem_map.mp h1
   exact nomatch (nT p hp).symm.trans e
  ·by_cases h2:b=a
   ·cases q:H b with
    | none=>rfl
    | some u=>
     rw [h2] at q e
     exact nomatch (hK (by rw [q]; simp)).symm.trans e
   ·exact S.none h1 h2
 have hM:Mod K mg (hidT s1.heap H):=⟨hKb,ofD hns,⟨mb,ofD hb,hbb⟩,let ⟨mc,h1,h2⟩:=hlim; ⟨mc,ofD h1,h2⟩⟩
 have TB:∀p∈cs,LamX.TabB (hidT s1.heap H) mg p.1 p.2:=fun p hp=>by
  have hTp:=isT p hp
  refine ⟨?_,?_,fun z=>?_⟩
  ·obtain ⟨o,us,file,tf,flags,tg,inF,text,tt,e1,r1,r2,rest⟩:=C p hp
   exact ⟨o,us,file,tf,flags,tg,inF,text,tt,up e1 (fun _ _ z=>nomatch r2.symm.trans z) (fun z=>by
    have z:=r2.symm.trans z
    cases z
    have r3:=rest.1
    simp at r3),r1,r2,rest⟩
  ·obtain ⟨bm,ob,b1,b2,b3,b4,b5,b6⟩:=hbm
   have nG:bm≠mainGlobals:=fun q=>by
    obtain ⟨o,es,ep,e,hd,_⟩:=hns
    rw [q,e] at b3
    cases b3
    exact nomatch hd.symm.trans b6
   have nP:bm≠p.2:=fun q=>by
    rw [q,hTp] at b3
    cases b3
    exact nomatch b6
   exact ⟨bm,ob,b1,b2,nG,nP,up b3 (fun _ _ z=>nomatch b6.symm.trans z) (fun z=>nomatch b6.symm.trans z),b4,b5,b6⟩
  ·obtain ⟨o,es,ep,e,hd,_⟩:=hns
   rw [z,hTp] at e
   cases e
   cases hd
 have e0:Env0 P w K mg (hidT s1.heap H) callerA [] s1 H:=⟨rfl,hM,fun b o e=>of_hidT e,Nat.le_of_eq (hidT_size _ _),trivial,fun b hb=>absurd (show b∈([]:List Addr) from hb) (by simp),hok,.of_eq hg⟩
 refine codeAny_mono ((F _ hKb (ofD hns) TB).run s1 H a ns e0 hg S.tb hS hl) fun r s' h=>?_
 cases r with
 | error e=>
  obtain ⟨_,_,_,_,_,_,_,_,_,_,_,_,z⟩:=h
  exact z.elim
 | ok fl=>
  cases fl with
  | next=>exact False.elim h
  | brk=>exact False.elim h
  | cont=>exact False.elim h
  | ret u=>
   obtain ⟨v,H',os,bare,un,hok',r',q,g⟩:=h
   subst q
   obtain rfl:u=Value.bool true:=r'
   have old:∀b o,b∉cs.map (·.2)→s1.heap.get? b=some o→s'.heap.get? b=some o:=fun b o nb e=>by
    cases q:H b with
    | none=>exact un.keep b o e q (by intro z; exact absurd (show b∈([]:List Addr) from z) (by simp)) (by simp)
    | some u=>
     rcases S.is b u q with ⟨z,_⟩ | ⟨_,ob,xs,rfl⟩
     ·exact absurd z nb
     ·have e2:=(hok' b _ (un.frzs b ob _ q)).1
      rw [e2]
      exact (hok b _ q).1.symm.trans e
   have tabs:∀p∈cs,∃more:Array Value,s'.heap.get? p.2=some { cls:=.none,data:=.fields more }:=fun p hp=>by
    obtain ⟨more,z⟩:=un.tbls p.2 #[] (S.tb p hp)
    exact ⟨_,hok' p.2 _ z⟩
   refine ⟨rfl,⟨fun b o e=>?_,fun b o e=>?_⟩,os,bare,fun i k l c p fs cl hi b hy=>?_⟩
   ·by_cases h1:b∈cs.map (·.2)
    ·obtain ⟨p,hp,rfl⟩:=List.mem_map.mp h1
     obtain ⟨more,hm⟩:=tabs p hp
     rw [isT p hp] at e
     cases e
     exact .inr (.inl ⟨((C p hp).tab (isT p hp)).isCodeTable,rfl, #[],more,rfl,by rw [Array.empty_append]; exact hm⟩)
    ·exact .inl (old b o h1 e)
   ·by_cases h1:b∈cs.map (·.2)
    ·obtain ⟨p,hp,rfl⟩:=List.mem_map.mp h1
     obtain ⟨more,hm⟩:=tabs p hp
     exact ⟨_,hm⟩
    ·exact ⟨o,old b o h1 e⟩
   ·obtain ⟨o,u,e,gn⟩:=g b ⟨i,k,l,c,p,fs,cl,hi,hy⟩
    rw [(hok' b _ e).1]
    exact gn
theorem vz(KX:K.In s1.heap)(hns:s1.heap.Ns mainGlobals mg)(hb:s1.heap.Ns builtinsNs mb)(hbb:∀x:PySem.Str,x≠"__name__"→mb x=bootBuiltins x)(hlim:s1.heap.NoLimit)(hg:s1.gens= #[])
  (isT:∀p∈cs,s1.heap.get? p.2=some { cls:=.none,data:=.fields #[] }) (nT:∀p∈cs,K.lookup p.2=none) (C:∀p∈cs,PySem.W.CodeHd s1.heap p.1 p.2)
  (hbm:∃(bm:Addr) (ob:Obj),mg "__builtins__"=some (.ref bm)∧bm≠builtinsNs∧s1.heap.get? bm=some ob∧ob.cls=.type "module"∧ob.dict=some builtinsNs∧ob.data=.plain)
  (ha:s1.heap.get? a=some { cls:=.type "list",data:=.seq vs.toArray }) (hi:IntsAre vs ns) (hl:ns.length≤n) (hn:n≤sizeLine)
  (F:∀base:Heap,K.In base→base.Ns mainGlobals mg→(∀p∈cs,LamX.TabB base mg p.1 p.2)→LawOkT P w K mg base n cs fa):
  codeAny (M0 P w) callerA (.call (.ref fa) ⟨[.ref a],[]⟩) (fun r s'=>r=.ok (.ret (.bool true))∧OldK s1.heap s'.heap∧s'.os=s1.os∧AllBare s'.gens∧a6 s') s1:=by
 have rv:=vals_ints hi
 have lenV:=hi.length
 have aT:a∉cs.map (·.2):=fun z=>by
  obtain ⟨p,hp,e⟩:=List.mem_map.mp z
  have q:=isT p hp
  rw [e,ha] at q
  exact nomatch congrArg Obj.data (Option.some.inj q)
 have tabOk:∀b,b∈cs.map (·.2)→ObjOk P w (fun b=>if b∈cs.map (·.2) then some (.tbl #[]) else none) s1.heap b (.tbl #[]):=fun b h=>by
  obtain ⟨p,hp,rfl⟩:=List.mem_map.mp h
  exact isT p hp
 cases hk:K.lookup a with
 | some o=>
  have e:=KX a o hk
  rw [ha] at e
  cases e
  refine qP KX hns hb hbb hlim hg isT nT C hbm ha hl F (H:=fun b=>if b∈cs.map (·.2) then some (.tbl #[]) else none) ⟨fun p hp=>if_pos (List.mem_map.mpr ⟨p,hp,rfl⟩),fun b u z=>?_⟩
   (.inr ⟨_,vs.toArray,_,hk,rfl,rfl,rfl,by rw [List.size_toArray,lenV]; omega,by simpa using rv⟩) (fun b u z=>?_) fun z=>absurd (show (if a∈cs.map (·.2) then some (HO.tbl #[]) else none)=none from if_neg aT) z
  ·have z:(if b∈cs.map (·.2) then some (HO.tbl #[]) else none)=some u:=z
   by_cases h:b∈cs.map (·.2)
   ·rw [if_pos h] at z
    cases z
    exact .inl ⟨h,rfl⟩
   ·rw [if_neg h] at z
    cases z
  ·have z:(if b∈cs.map (·.2) then some (HO.tbl #[]) else none)=some u:=z
   by_cases h:b∈cs.map (·.2)
   ·rw [if_pos h] at z
    cases z
    exact tabOk b h
   ·rw [if_neg h] at z
    cases z
 | none=>
  refine qP KX hns hb hbb hlim hg isT nT C hbm ha hl F (H:=fun b=>if b∈cs.map (·.2) then some (.tbl #[]) else if b=a then some (.frz { cls:=.type "list",data:=.seq vs.toArray } (.lst (ns.map V.int))) else none) ⟨fun p hp=>if_pos (List.mem_map.mpr ⟨p,hp,rfl⟩),fun b u z=>?_⟩
   (.inl (.inr ⟨{ cls:=.type "list",data:=.seq vs.toArray },(if_neg aT).trans (if_pos rfl)⟩)) (fun b u z=>?_) fun _=>hk
  ·have z:(if b∈cs.map (·.2) then some (HO.tbl #[]) else if b=a then _ else none)=some u:=z
   by_cases h:b∈cs.map (·.2)
   ·rw [if_pos h] at z
    cases z
    exact .inl ⟨h,rfl⟩
   ·rw [if_neg h] at z
    by_cases h2:b=a
    ·rw [if_pos h2] at z
     cases z
     exact .inr ⟨h2,_,_,rfl⟩
    ·rw [if_neg h2] at z
     cases z
  ·have z:(if b∈cs.map (·.2) then some (HO.tbl #[]) else if b=a then _ else none)=some u:=z
   by_cases h:b∈cs.map (·.2)
   ·rw [if_pos h] at z
    cases z
    exact tabOk b h
   ·rw [if_neg h] at z
    by_cases h2:b=a
    ·rw [if_pos h2] at z
     cases z
     subst h2
     exact ⟨ha,by rw [List.length_map]; omega,vs,_,rv,ha⟩
    ·rw [if_neg h2] at z
     cases z
end
def BD(l:PySem.W.OpenLaw)(w:World)(K:Fs.Frag)(n:Nat)(mg:PySem.Str→Option Value)(fa:Addr)(h:Heap):Prop:=
 ∃cs:List (Addr×Addr),(∀p∈cs,h.get? p.2=some { cls:=.none,data:=.fields #[] })∧(∀p∈cs,K.lookup p.2=none)∧(∀p∈cs,PySem.W.CodeHd h p.1 p.2)∧
  ∀base:Heap,K.In base→base.Ns mainGlobals mg→(∀p∈cs,LamX.TabB base mg p.1 p.2)→LawOkT l.prog w K mg base n cs fa
theorem BE{l:PySem.W.OpenLaw}{n:Nat}{q:Program}{loose:List PySem.Str}{XP:(PySem.Str→Option Value)→Heap→Prop}{YP:World→Heap→Prop}{d:DefRec}(hn:l.most=some n)(hn2:n≤sizeLine)(hdf:d.params.defaults=[])
  (F:∀(w:World) (mg:PySem.Str→Option Value) (fa:Addr) (h:Heap),YP w h→h.Ns mainGlobals mg→mg d.name=some (.ref fa)→∃K:Fs.Frag,K.In h∧BD l w K n mg fa h):
  AV q loose XP YP l.row.toRowW d []:=by
 intro w s0 s1 mg mb G Y fa o pm cd doc dV kV ho hd hcd hD hmg hg args vals as hpre hlay hrd hwl hlo
 obtain ⟨a,vs,ns,rfl,rfl,hobj,hints,hlen⟩:=Att.script_of hn hpre hwl
 obtain ⟨K,KX,cs,hT,nT,C,hF⟩:=F w mg fa _ Y G.T.g hmg
 refine wpAny_call (codeAny_mono (vz KX G.T.g G.T.b G.T.builtins G.T.nolimit hg hT nT C G.T.bmain hobj hints hlen hn2 hF) fun r s' ⟨e,h1,h2,h3,h4⟩=>?_)
 subst e
 exact ⟨⟨.inl ⟨.bool true,.bool true,[],rfl,fun _=>rfl,.bool true,Att.post_true l _,fun _=>⟨List.Pairwise.nil,fun _ hm=>(nomatch hm)⟩⟩,h1,h2,h3⟩,h4⟩
theorem xt{K:Frag}{H1:Hp}{p l PT:Addr}{qT:Str}(B1:BagAt H1 p l)(hP:H1 PT=some (.tbl #[])):∃B,MemOk K B [p,PT] [.bag,.tab PT qT] H1:=by
 obtain ⟨i,rs,sd,ns,e1,e2,e3⟩:=B1.ex
 have lp:l≠p:=fun z=>by
  subst z
  rw [e2] at e1
  cases ns <;> cases e1
 have pP:p≠PT:=fun z=>by
  subst z
  rw [e1] at hP
  cases hP
 have lP:l≠PT:=fun z=>by
  subst z
  rw [e2] at hP
  cases hP
 let B:Hp:=fun b=>if b=l then some (.lst (ns.map V.int)) else none
 have bl:B l=some (.lst (ns.map V.int)):=if_pos rfl
 have two:∀{n:Nat} {a:Addr} {m:MO},[p,PT][n]? =some a→[MO.bag,.tab PT qT][n]? =some m→(n=0∧a=p∧m=.bag)∨(n=1∧a=PT∧m=.tab PT qT):=fun {n a m} ea em=>by
  match n with
  | 0=>
   left
   exact ⟨rfl,by simpa using ea.symm,by simpa using em.symm⟩
  | 1=>
   right
   exact ⟨rfl,by simpa using ea.symm,by simpa using em.symm⟩
  | n+2=>simp at ea
 refine ⟨B,?_⟩
 refine ⟨fun a o e=>?_,rfl,fun a l'=>?_,fun n a m ea em _=>?_,fun n k a m m' ea ek em ek' _ _=>?_,fun a ps e=>?_⟩
 ·have e:(if a=l then some (HO.lst (ns.map V.int)) else none)=some o:=e
  by_cases c:a=l
  ·rw [if_pos c] at e
   cases e
   rw [c]
   exact e2
  ·rw [if_neg c] at e
   cases e
 ·obtain ⟨n,m,ea,em,_⟩:=l'
  rcases two ea em with ⟨_,rfl,_⟩ | ⟨_,rfl,_⟩
  ·exact if_neg (fun z=>lp z.symm)
  ·exact if_neg (fun z=>lP z.symm)
 ·rcases two ea em with ⟨_,rfl,rfl⟩ | ⟨_,rfl,rfl⟩
  ·exact ⟨l,i,rs,sd,ns,e1,bl,e3⟩
  ·exact ⟨rfl,xp hP⟩
 ·rcases two ea em with ⟨h0,h1,_⟩ | ⟨h0,h1,_⟩
  ·rcases two ek ek' with ⟨k0,k1,_⟩ | ⟨k0,k1,_⟩
   ·rw [h0,k0]
   ·exact absurd (h1.symm.trans k1) pP
  ·rcases two ek ek' with ⟨k0,k1,_⟩ | ⟨k0,k1,_⟩
   ·exact absurd (k1.symm.trans h1) pP
   ·rw [h0,k0]
 ·have e:(if a=l then some (HO.lst (ns.map V.int)) else none)=some (.tbl ps):=e
  by_cases c:a=l
  ·rw [if_pos c] at e
   cases e
  ·rw [if_neg c] at e
   cases e
theorem zL{P:Program}{w:World}{K:Frag}{mg:Str→Option Value}{base:Heap}{k n nn:Nat}{x qual y:Str}{params:Arguments}{st0:Stmt}{rest:List Stmt}{scope:Scope}{dvs:List V}{kws:List (Str×V)}{f:Addr}{fd:FuncData}{N:List Str}{d:He.Defn}{cs:List (Addr×Addr)}{PT:Addr}{qT:Str}
  (F:FunD K x qual params (st0::rest) scope dvs kws f fd) (hd:He.fAd K d=f) (hPT:∃c,(c,PT)∈cs) (S:FnScope N [y] scope) (hr:Room (k+1) callerA) (hlen:N.length=nn+2) (hbind:∀(s:Shared) (u:Value),BindsTo s fd ⟨[u],[]⟩ [(y,u)])
  (hbody:∀(s:Shared) (H:Hp) (a:Addr) (ns:List Int),Room k (callerA.deeper (envOfC qual scope s.heap.objs.size f (.ref (He.cT K d).1)))→H PT=some (.tbl #[])→SqL K H a (ns.map V.int)→ns.length≤n→
   (∃t0,PS (cxOf (L2N.CX P w) P w K mg base N qual scope f (.ref (He.cT K d).1) callerA [] s H E0) st0 t0∧∀D:Ends,(∀p l H1,BagAt H1 p l→Same H H1→D.nx ((start N [.ref a]).set 1 (some (.ref p))) H1)→t0 D (start N [.ref a]) H)∧
   ∃T,USs (cxOf (L2N.CX P w) P w K mg base N qual scope f (.ref (He.cT K d).1) callerA [] s H E0) E0 rest T∧T (zH nn) [.bag,.tab PT qT] BB):LawOkT P w K mg base n cs f:=by
 obtain ⟨oc,od,dV,kV,doc,pm,an,cdv,ct,osl,rfl,lk,hcd,_,_⟩:=F.ex
 obtain ⟨cc,rfl⟩:=He.codeIn_ref hcd
 have ecc:(He.cT K d).1=cc:=He.codeOf_eq (by rw [hd]; exact lk) rfl
 rw [ecc] at hbody
 refine ⟨fun s H a ns e0 hg hT hS hl=>?_⟩
 obtain ⟨c0,hc0⟩:=hPT
 have hP0:=hT _ hc0
 have KX:K.In s.heap:=e0.mod.kin.keeps fun b o e=>(e0.bs b o e).1
 have lim:s.heap.NoLimit:=e0.mod.nolimit.keeps fun b o e=>(e0.bs b o e).1
 have hkind:∀z∈[y].zip [Value.ref a],scope.names.lookup z.1=some .local∨(scope.names.lookup z.1=some .cell∧((cellsFrom (s.heap.objs.size+1) scope.names []).lookup z.1).isSome=true):=fun ⟨n,v⟩ hy=>by
  rcases S.par n (List.of_mem_zip hy).1 with q | q
  ·exact .inl q
  ·exact .inr ⟨q,PySem.W.cellsFrom_some _ _ _ (.inl q)⟩
 refine dS hr.depth (KX _ _ lk) rfl S.co S.gen rfl (PySem.W.codeRec_of KX hcd) ?_
 refine hbind s (.ref a) _ _ _ _ ?_
 refine wpAny_newFunctionEnv_cells S.kind hkind fun env he s1 x=>?_
 subst he
 have gens1:s1.gens= #[]:=by
  obtain ⟨h1,tk,es1,hk1⟩:=x.done
  rw [es1]
  exact hg
 refine ⟨lim.keeps x.toInCall.keep,f8 ?_⟩
 obtain ⟨⟨t0,p0,h0⟩,T,hT2,hq⟩:=hbody s H a ns (hr.deeper _) hP0 hS hl
 have I:Inv (cxOf (L2N.CX P w) P w K mg base N qual scope f (.ref cc) callerA [] s H E0) [] (start N [.ref a]) H s1:=inv_start S hr.hd e0 rfl (.cons rfl .nil) x
 have never:∀{e:Value} {s':Shared},UX (cxOf (L2N.CX P w) P w K mg base N qual scope f (.ref cc) callerA [] s H E0) E0 e s'→wpAny (M0 P w) (callerA.deeper (envOfC qual scope s.heap.objs.size f (.ref cc))) (leaving (envOfC qual scope s.heap.objs.size f (.ref cc)) e)
   (fun _ s''=>CR (L2N.CX P w) [] P w H s (fun v H'=>v=.bl true∧Gok H' s'') E0 (.error e) s'') (fun e' s''=>CR (L2N.CX P w) [] P w H s (fun v H'=>v=.bl true∧Gok H' s'') E0 (.error e') s'') s':=fun {e s'} ⟨sx,s0,hx0,sl⟩=>by
  have hx0:wpAny (model P w) (callerA.deeper (envOfC qual scope s.heap.objs.size f (.ref cc))) (leaving (envOfC qual scope s.heap.objs.size f (.ref cc)) e) (fun _ s''=>L2N.CX P w [] H s (EG E0 s') e s'') (fun e' s''=>L2N.CX P w [] H s (EG E0 s') e' s'') s0:=hx0
  have no:∀{y:Value} {s2:Shared},L2N.CX P w [] H s (EG E0 s') y s2→False:=fun ⟨_,_,_,_,_,_,_,_,_,_,_,_,z⟩=>z.1
  exact wpAny_mono (aU sl hx0) (fun _ s2 ⟨s1,q,k⟩=>(no q).elim) fun y s2 ⟨s1,q,k⟩=>(no q).elim
 refine wpAny_execs_cons ?_
 have w0:=p0.run [] (asleep s1) (start N [.ref a]) H { nx:=fun σ' H'=>∃p l,BagAt H' p l∧Same H H'∧σ'=(start N [.ref a]).set 1 (some (.ref p)),rt:=fun _ _=>False } I.asl (h0 _ fun p l H1 b sm=>⟨p,l,b,sm,rfl⟩)
 have toU:∀{e:Value} {s':Shared},(∃s0,(cxOf (L2N.CX P w) P w K mg base N qual scope f (.ref cc) callerA [] s H E0).xe e s0∧Slq s1 s0 s')→UX (cxOf (L2N.CX P w) P w K mg base N qual scope f (.ref cc) callerA [] s H E0) E0 e s':=fun {e s'} ⟨s0,h,sl⟩=>
  ⟨s1,s0,lL (X:=cxOf (L2N.CX P w) P w K mg base N qual scope f (.ref cc) callerA [] s H E0) (E:=E0) (fun _ _ _ z=>z.elim) h,sl⟩
 refine wpAny_mono (a4 I.bare w0) (fun fl s2 ⟨s3,hsp,sl⟩=>?_) fun e s2 h=>never (toU h)
 cases fl with
 | brk=>obtain ⟨_,_,_,z⟩:=hsp; exact z.elim
 | cont=>obtain ⟨_,_,_,z⟩:=hsp; exact z.elim
 | ret v=>obtain ⟨_,_,_,_,_,z⟩:=hsp; exact z.elim
 | next=>
  obtain ⟨σ2,H2,I3,p,l,b2,sm2,rfl⟩:=hsp
  obtain ⟨B,M⟩:=xt (K:=K) (qT:=qT) b2 (sm2 _ _ hP0)
  have I2:=sl.inv I3
  have g2:Gok H2 s2:=fun a z=>absurd (sl.ld z) (DN gens1)
  have R:Rel K B [p,PT] (zH nn) [.bag,.tab PT qT] ((start N [.ref a]).set 1 (some (.ref p))) H2:=by
   refine ⟨M,?_,fun i x e=>?_⟩
   ·rw [List.length_set]
    simp [L2.start,hlen]
   ·have h1:((start N [.ref a]).set 1 (some (.ref p)))[1]? =some (some (.ref p)):=by
     rw [List.getElem?_set_self]
     simp [L2.start,hlen]
    obtain ⟨rfl,h⟩:=zI e h1
    exact ⟨_,h,p,rfl,rfl⟩
  refine wpAny_mono (hT2.run [] B [p,PT] (zH nn) [.bag,.tab PT qT] _ H2 s2 BB I2 g2 R ExOf.no hq) (fun fl s4 h=>?_) fun e s4 h=>never h
  cases fl with
  | next=>obtain ⟨_,_,_,_,_,_,_,_,_,_,z⟩:=h; exact z.elim
  | brk=>obtain ⟨_,_,_,_,_,_,_,_,_,_,z⟩:=h; exact z.elim
  | cont=>obtain ⟨_,_,_,_,_,_,_,_,_,_,z⟩:=h; exact z.elim
  | ret u=>
   obtain ⟨v,y,σ',B',μ',m',H',J,g',rv,rw',st,M',q⟩:=h
   have q:y=.v (.bl true):=q
   subst q
   cases (show Rv K B' v (.bl true) from rw')
   exact ⟨.bl true,H',J.os,J.bare,J.base,J.hok,rv,rfl,g'⟩
section
variable {P:Program} {w:World} {K:Frag} {mg:Str→Option Value} {base:Heap}
abbrev aF:Stmt:=inClass (top 3) 0
abbrev dB:List Str:=["self"]
abbrev dC:List Str:=["self"]
theorem hO:FnScope dB dC (defScope aF):=⟨rfl,rfl,rfl,by decide+kernel,rfl,by decide+kernel,by decide+kernel⟩
theorem gB{C:Addr}{q:Str}{f:Addr}{fd:FuncData}(D:FunD K "__init__" q (defArgs aF) (defBody aF) (defScope aF) [] [] f fd)(T:ErrC K C):FnOk P w K mg base CX0 1 f fd ["self"] (cb C 0 fun _=>[("code",.str "InvalidExpression")]):=by
 refine D.ok hO (fun vs H Q E h=>?_) (fun cdv A outer s H vs Q E hr h=>?_)
 ·obtain ⟨a,ws,rfl,hl,_⟩:=h
  rw [List.length_cons,hl]
  rfl
 obtain ⟨a,ws,rfl,hl,ha,q⟩:=h
 cases ws with
 | cons x xs=>cases hl
 | nil=>
  refine ⟨_,PSs.nox (pss_one (ps_ost (pv 0) pe_str)),?_⟩
  refine ⟨_,rfl,a,C,rfl,T.ox,T.ex.no _ (by simp [bE]),.inl ⟨ha,fun d nd da=>?_⟩⟩
  refine q d _ nd da upd_same (by rw [upd_ne da,upd_same]) fun b o hb e=>?_
  rw [upd_ne hb,upd_ne (ne_of_none e nd)]
  exact e
end
open TL NumText in
section
def bO(l:List Nat)(a b:Nat):List Nat:=(l.drop a).take (b - a)
theorem df(z:Str)(a b:Nat):(Txt.slice z (some (a:Int)) (some (b:Int))).cps.toList=bO z.cps.toList a b:=by
 rw [←C8.cutS_slice]
 unfold cutS bO
 rw [HT.sIx_nat,HT.sIx_nat]
 show (List.take _ (List.drop _ z.cps.toList))=_
 have hl:z.length=z.cps.toList.length:=rfl
 rw [hl]
 generalize z.cps.toList=l
 by_cases ha:a≤l.length
 ·rw [Nat.min_eq_left ha]
  by_cases hb:b≤l.length
  ·rw [Nat.min_eq_left hb]
  ·rw [Nat.min_eq_right (by omega),List.take_of_length_le (by rw [List.length_drop]; exact Nat.le_refl _),List.take_of_length_le (by rw [List.length_drop]; omega)]
 ·rw [Nat.min_eq_right (a:=a) (by omega),List.drop_of_length_le (Nat.le_refl _),List.drop_of_length_le (by omega)]
  simp
theorem lM(x y:Str):(x == y)=decide (x.cps.toList=y.cps.toList):=by
 by_cases h:x.cps.toList=y.cps.toList
 ·have e:x=y:=by
   cases x with | mk a=>cases y with | mk b=>exact congrArg Str.mk (Array.toList_inj.mp h)
  rw [decide_eq_true h,e]
  exact beq_self_eq_true _
 ·rw [decide_eq_false h]
  exact beq_eq_false_iff_ne.mpr fun e=>h (by rw [e])
def goes(l:List Nat)(a e:Nat):Bool:=decide (e<l.length)&&(decide (e<a+12)&&(decide (48≤l.getD e 0∧l.getD e 0≤57)&& !decide (bO l a e=[48])))
def nI(l:List Nat)(a:Nat):Nat→Nat→Nat
 | 0,e=>e
 | f+1,e=>if goes l a e=true then nI l a f (e+1) else e
def a7(l:List Nat)(a:Nat):Nat:=nI l a 13 a
structure Rd (l:List Nat) (a e:Nat):Prop where
 le:a≤e
 len:e≤l.length∨e=a
 most:e≤a+12
 dg:AllDigits (bO l a e)
 ld:bO l a e=[48]∨∀c r,bO l a e=c::r→49≤c
theorem mH{l:List Nat}{a e:Nat}(h1:a≤e)(h2:e≤l.length):(bO l a e).length=e - a:=by
 unfold bO
 rw [List.length_take,List.length_drop]
 omega
theorem ou(l:List Nat)(a:Nat):bO l a a=[]:=by
 unfold bO
 rw [Nat.sub_self,List.take_zero]
theorem vA{l:List Nat}{a e:Nat}(h1:a≤e)(h2:e<l.length):bO l a (e+1)=bO l a e++[l.getD e 0]:=by
 unfold bO
 have z:e+1 - a=(e - a)+1:=by omega
 rw [z,List.take_add_one,List.getElem?_drop,show a+(e - a)=e by omega,List.getD_eq_getElem?_getD,List.getElem?_eq_getElem h2]
 rfl
theorem Rd.zero(l:List Nat)(a:Nat):Rd l a a:=⟨Nat.le_refl _,.inr rfl,by omega,by rw [ou]; exact fun _ h=>(by cases h),by rw [ou]; exact .inr fun _ _ h=>(by cases h)⟩
theorem Rd.more{l:List Nat}{a e:Nat}(h:Rd l a e)(g:goes l a e=true):Rd l a (e+1):=by
 unfold goes at g
 simp only [Bool.and_eq_true,decide_eq_true_eq,Bool.not_eq_true',decide_eq_false_iff_not] at g
 obtain ⟨g1,g2,g3,g4⟩:=g
 have m:=vA h.le g1
 refine ⟨by have:=h.le; omega,.inl (by omega),by omega,?_,?_⟩
 ·rw [m]
  intro c hc
  rcases List.mem_append.mp hc with hc | hc
  ·exact h.dg c hc
  ·rw [List.mem_singleton.mp hc]
   exact g3
 ·rcases h.ld with z | z
  ·exact absurd z g4
  ·rw [m]
   cases q:bO l a e with
   | nil=>
    by_cases e0:l.getD e 0=48
    ·rw [e0]
     exact .inl rfl
    ·refine .inr fun c r hc=>?_
     have hc: [l.getD e 0]=c::r:=hc
     injection hc with h1 h2
     omega
   | cons c r=>
    refine .inr fun c' r' hc=>?_
    rw [List.cons_append] at hc
    injection hc with h1 h2
    rw [←h1]
    exact z c r q
theorem uf{l:List Nat}{a:Nat}:∀(f e:Nat),Rd l a e→Rd l a (nI l a f e)
 | 0,_,h=>h
 | f+1,e,h=>by
  unfold nI
  by_cases g:goes l a e=true
  ·rw [if_pos g]
   exact uf f (e+1) (h.more g)
  ·rw [if_neg g]
   exact h
theorem lN(l:List Nat)(a:Nat):Rd l a (a7 l a):=uf 13 a (Rd.zero l a)
theorem Rd.lenE{l:List Nat}{a e:Nat}(h:Rd l a e)(ha:a≤l.length):e≤l.length:=by
 rcases h.len with z | z
 ·exact z
 ·omega
def eH(l:List Nat)(a e:Nat):Nat:=digitsVal (bO l a e)
def cH(i:Int):Str:=Str.ofString (toString i)
def frT(p:Int×Int):Str:=if p.2=1 then cH p.1 else (cH p.1++"/")++cH p.2
theorem dq(n:Nat):tl (cH (n:Int))=numL n:=tl_num n
theorem kO(z:String):tl (Str.ofString z)=z.toList.map Char.toNat:=by
 rw [Str.ofString_eq_toList]
theorem qQ{n:Nat}(h:0<n):tl (cH (-(n:Int)))=45::numL n:=by
 unfold cH
 rw [toString_neg (by omega),kO,String.toList_append,List.map_append,←kO (toString (0 - -(n:Int))),show (0:Int) - -(n:Int)=(n:Int) by omega,tl_num]
 rfl
theorem aK(x y:Str):tl (x++y)=tl x++tl y:=by
 show (x.cps++y.cps).toList=_
 rw [Array.toList_append]
theorem ug(n:Nat):numL n=[48]∨∀c r,numL n=c::r→49≤c:=by
 induction n using Nat.strongRecOn with
 | _ n ih=>
  by_cases h:n<10
  ·rw [numL_lt h]
   by_cases e:n=0
   ·subst e
    exact .inl rfl
   ·refine .inr fun c r hc=>?_
    injection hc with h1 h2
    omega
  ·rw [numL_step (by omega)]
   rcases ih (n / 10) (by omega) with z | z
   ·have:=numL_val (n / 10)
    rw [z] at this
    have this:0=n / 10:=this
    omega
   ·refine .inr fun c r hc=>?_
    cases q:numL (n / 10) with
    | nil=>exact absurd q (numL_ne _)
    | cons c' r'=>
     rw [q] at hc
     injection hc with h1 h2
     rw [←h1]
     exact z c' r' q
inductive Rs where
 | er (a:Nat)
 | ok (v:Int×Int) (e:Nat)
def mI(l:List Nat)(a:Nat):Rs:=
 if a7 l a=a then .er a else
 if bO l (a7 l a) (a7 l a+1)≠[47] then .ok (eH l a (a7 l a),1) (a7 l a) else
 if a7 l (a7 l a+1)=a7 l a+1 then .er (a7 l a+1) else
 if eH l (a7 l a+1) (a7 l (a7 l a+1))<2∨Nat.gcd (eH l a (a7 l a)) (eH l (a7 l a+1) (a7 l (a7 l a+1)))≠1 then .er (a7 l a+1) else
 .ok (eH l a (a7 l a),eH l (a7 l a+1) (a7 l (a7 l a+1))) (a7 l (a7 l a+1))
theorem po{v:Int×Int}{n k:Nat}(h2:v.2=k){p:List Nat}(h1:tl (cH v.1)=p++numL n):tl (frT v)=p++(if k=1 then numL n else numL n++47::numL k):=by
 unfold frT
 rw [h2]
 by_cases c:k=1
 ·rw [if_pos (by omega),if_pos c]
  exact h1
 ·rw [if_neg (by omega),if_neg c,aK,aK,h1,dq,List.append_assoc,List.append_assoc]
  rfl
theorem zM{t:Int}{k:Nat}{j:Nat}(hj:0<j)(h1:t.natAbs<10 ^ j)(h2:k<10 ^ j):(frT (t,(k:Int))).length≤2 * j+2:=by
 have l1:=numL_len (n:=t.natAbs) hj h1
 have l2:=numL_len (n:=k) hj h2
 have nt:(tl (cH t)).length≤j+1:=by
  by_cases ht:t<0
  ·have:t= -((t.natAbs:Nat):Int):=by omega
   rw [this,qQ (by omega),List.length_cons]
   omega
  ·have:t=((t.natAbs:Nat):Int):=by omega
   rw [this,dq]
   omega
 show (tl (frT (t,(k:Int)))).length≤_
 unfold frT
 by_cases c:((t,(k:Int)):Int×Int).2=1
 ·rw [if_pos c]
  show (tl (cH t)).length≤_
  omega
 ·rw [if_neg c,aK,aK,List.length_append,List.length_append,dq]
  have:(tl ("/":Str)).length=1:=rfl
  show (tl (cH t)).length+_+_≤_
  omega
end
abbrev dE:Stmt:=top 10
abbrev k8:List Str:=["one","other"]
abbrev cp:List Str:=["one","other"]
theorem dh:FnScope k8 cp (defScope dE):=⟨rfl,rfl,rfl,by decide+kernel,rfl,by decide+kernel,by decide+kernel⟩
theorem qR{a n:Nat}(h:n≠0):Nat.gcd n (a % n)=Nat.gcd a n:=by
 rw [Nat.gcd_comm n,←Nat.gcd_rec,Nat.gcd_comm]
section
variable {P:Program} {w:World} {K:Frag} {mg:Str→Option Value} {base:Heap}
def sG:SpD:=fun ws m Q _=>∃i j:Int,ws=[.v (.int i),.v (.int j)]∧Q (.v (.int ((Int.gcd i j:Nat):Int))) m
theorem kj(G:Gs K mg "common_factor" dE)(m_abs:mg "abs"=none):Gd P w K mg base (L2N.CX P w) 1 "common_factor" cp (lift K sG):=by
 refine Fo.gd (cO dh (fun ws m Q Qx h=>?_) (fun f cdv A outer s H E hr=>⟨_,(ad (ka (i:=0) (j:=1) rfl dh.nd rfl rfl (by decide) rfl rfl (aa (mj m_abs (aa (dv 0) ac)) (aa (mj m_abs (aa (dv 1) ac)) ac)) (by rfl))
  (ad (gS (passes_of rfl) (ay (gZ (u64 hr)) (dv 1) ah (nomark _))
   (af (ka (i:=0) (j:=1) rfl dh.nd rfl rfl (by decide) rfl rfl (aa (dv 1) (aa (aM wu (dv 0) (dv 1)) ac)) (by rfl))))
  (af (aq (dv 0))))),fun ws m Qd Qx h=>?_⟩) [] []) G (fun _ _ _ _ _ _ us hl=>match us,hl with | [_,_],_=>rfl)
 ·obtain ⟨_,_,rfl,_⟩:=h
  rfl
 ·obtain ⟨i,j,rfl,q⟩:=h
  refine jD (fun n en m'=>m'=m∧∃a:Nat,en=[some (.v (.int a)),some (.v (.int n))]∧Nat.gcd a n=Int.gcd i j) j.natAbs ⟨rfl,i.natAbs,rfl,rfl⟩ ?_
  rintro n en m' N' ⟨rfl,a,rfl,hg⟩ r1 r2 r3 hn
  refine ⟨rfl,rfl,Nat.zero_le _,Nat.zero_le _,aN (fun c=>?_) (fun c=>?_)⟩
  ·have hz:n≠0:=by
    intro z
    subst z
    cases c
   have z:=Nat.mod_lt a (Nat.pos_of_ne_zero hz)
   exact ⟨by omega,(hn (a % n) _ _ z ⟨rfl,n,rfl,by rw [qR hz]; exact hg⟩).1⟩
  ·have hz:n=0:=by
    have c:(!((n:Int) == 0))=false:=c
    have c:((n:Int) == 0)=true:=by simpa using c
    have c:(n:Int)=0:=by simpa using c
    omega
   subst hz
   rw [Nat.gcd_zero_right] at hg
   subst hg
   exact ⟨List.prefix_refl _,q⟩
theorem uh{x y:Str}(h:x.cps.toList=y.cps.toList):x=y:=by
 cases x with | mk a=>cases y with | mk b=>exact congrArg Str.mk (Array.toList_inj.mp h)
abbrev jc:Stmt:=top 49
abbrev sH:List Str:=["_law_top","_law_bottom","_law_one","_law_other"]
abbrev jd:List Str:=["_law_top","_law_bottom"]
theorem eX:FnScope sH jd (defScope jc):=⟨rfl,rfl,rfl,by decide+kernel,rfl,by decide+kernel,by decide+kernel⟩
def nJ(t b:Int):Int×Int:=let g:Int:=if b<0 then -((Int.gcd t b:Nat):Int) else ((Int.gcd t b:Nat):Int)
 (t / g,b / g)
abbrev frD(p:Int×Int):D:=.tup [.int p.1,.int p.2]
theorem xu{t b:Int}(hb:0<b):∃k:Nat,(nJ t b).2=k∧0<k∧Int.gcd (nJ t b).1 k=1∧(nJ t b).1.natAbs≤t.natAbs∧k≤b.natAbs:=by
 have hg:0<Int.gcd t b:=Int.gcd_pos_of_ne_zero_right _ (by omega)
 have e:nJ t b=(t / ((Int.gcd t b:Nat):Int),b / ((Int.gcd t b:Nat):Int)):=by
  unfold nJ
  rw [if_neg (by omega)]
 rw [e]
 obtain ⟨q,hq⟩:=Int.gcd_dvd_right (a:=t) (b:=b)
 have q0:0<q:=by
  rcases Int.lt_trichotomy q 0 with z | z | z
  ·have:=Int.mul_neg_of_pos_of_neg (show (0:Int)<((Int.gcd t b:Nat):Int) by omega) z
   omega
  ·subst z
   rw [Int.mul_zero] at hq
   omega
  ·exact z
 have e2:b / ((Int.gcd t b:Nat):Int)=q:=by
  conv=>lhs; lhs; rw [hq]
  exact Int.mul_ediv_cancel_left _ (by omega)
 have g1:=Int.gcd_ediv_gcd_ediv_gcd hg
 refine ⟨q.toNat,by show b / _=_; rw [e2]; omega,by omega,?_,?_,?_⟩
 ·rw [e2] at g1
  rw [Int.toNat_of_nonneg (by omega)]
  exact g1
 ·show (t / ((Int.gcd t b:Nat):Int)).natAbs≤_
  obtain ⟨r,hr⟩:=Int.gcd_dvd_left (a:=t) (b:=b)
  have:t / ((Int.gcd t b:Nat):Int)=r:=by
   conv=>lhs; lhs; rw [hr]
   exact Int.mul_ediv_cancel_left _ (by omega)
  rw [this]
  conv=>rhs; rw [hr]
  rw [Int.natAbs_mul]
  exact Nat.le_mul_of_pos_left _ (by omega)
 ·conv=>rhs; rw [hq]
  rw [Int.natAbs_mul]
  have:q.toNat=q.natAbs:=by omega
  rw [this]
  exact Nat.le_mul_of_pos_left _ (by omega)
def xw:SpD:=fun ws m Q _=>∃i j:Int,ws=[.v (.int i),.v (.int j)]∧0<j∧j.natAbs.log2<9000∧Q (.v (frD (nJ i j))) m
theorem log2_lt{i:Int}{k:Nat}(h:i.natAbs<10 ^ k)(k0:4 * k<1920:=by decide):i.natAbs.log2<1920:=by
 by_cases e:i.natAbs=0
 ·rw [e]
  decide
 ·rw [Nat.log2_lt e]
  have z1:(10:Nat) ^ k≤16 ^ k:=Nat.pow_le_pow_left (by decide) k
  have z2:(16:Nat) ^ k=2 ^ (4 * k):=by rw [show (16:Nat)=2 ^ 4 by decide,←Nat.pow_mul]
  have z3:(2:Nat) ^ (4 * k)≤2 ^ 1920:=Nat.pow_le_pow_right (by decide) (by omega)
  omega
theorem zN{n k:Nat}(h:n≤k):n.log2≤k.log2:=by
 by_cases e:n=0
 ·subst e
  exact Nat.zero_le _
 ·exact (Nat.le_log2 (by omega)).mpr (Nat.le_trans (Nat.log2_self_le e) h)
theorem qS(G:Gs K mg "_law_low" jc)(m_abs:mg "abs"=none):Gd P w K mg base (L2N.CX P w) 1 "_law_low" jd (lift K xw):=by
 refine Fo.gd (cO eX (fun ws m Q Qx h=>?_) (fun f cdv A outer s H E hr=>⟨_,(ad (ka (i:=2) (j:=3) rfl eX.nd rfl rfl (by decide) rfl rfl (aa (mj m_abs (aa (dv 0) ac)) (aa (mj m_abs (aa (dv 1) ac)) ac)) (by rfl))
  (ad (gS (passes_of rfl) (ay (gZ (u64 hr)) (dv 3) ah (nomark _))
   (af (ka (i:=2) (j:=3) rfl eX.nd rfl rfl (by decide) rfl rfl (aa (dv 3) (aa (aM wu (dv 2) (dv 3)) ac)) (by rfl))))
  (ad (aW (ay mh (dv 1) ah (nomark _))
   (af (aC (i:=2) eX.nd rfl (.inl rfl) (aM wq ah (dv 2))))
   aD)
  (af (aq (bQ (aa (aM wv (dv 0) (dv 2)) (aa (aM wv (dv 1) (dv 2)) ac)))))))),fun ws m Qd Qx h=>?_⟩) [] []) G (fun _ _ _ _ _ _ us hl=>match us,hl with | [_,_],_=>rfl)
 ·obtain ⟨_,_,rfl,_⟩:=h
  rfl
 ·obtain ⟨i,j,rfl,hj,hl,q⟩:=h
  refine jD (fun n en m'=>m'=m∧∃a:Nat,en=[some (.v (.int i)),some (.v (.int j)),some (.v (.int a)),some (.v (.int n))]∧Nat.gcd a n=Int.gcd i j) j.natAbs ⟨rfl,i.natAbs,rfl,rfl⟩ ?_
  rintro n en m' N' ⟨rfl,a,rfl,hg⟩ r1 r2 r3 hn
  refine ⟨rfl,rfl,Nat.zero_le _,Nat.zero_le _,aN (fun c=>?_) (fun c=>?_)⟩
  ·have hz:n≠0:=by
    intro z
    subst z
    cases c
   have z:=Nat.mod_lt a (Nat.pos_of_ne_zero hz)
   exact ⟨by omega,(hn (a % n) _ _ z ⟨rfl,n,rfl,by rw [qR hz]; exact hg⟩).1⟩
  ·have hz:n=0:=by
    have c:(!((n:Int) == 0))=false:=c
    have c:((n:Int) == 0)=true:=by simpa using c
    have c:(n:Int)=0:=by simpa using c
    omega
   subst hz
   rw [Nat.gcd_zero_right] at hg
   subst hg
   refine fq (decide_eq_false (by omega)) ?_
   have hp:0<Int.gcd i j:=Int.gcd_pos_of_ne_zero_right _ (by omega)
   have hle:Int.gcd i j≤j.natAbs:=Nat.le_of_dvd (by omega) (Nat.gcd_dvd_right _ _)
   have h9:((Int.gcd i j:Nat):Int).natAbs.log2<9000:=Nat.lt_of_le_of_lt (zN (by omega)) hl
   refine ⟨by omega,h9,by omega,h9,(by show 2≤sizeLine; decide),List.prefix_refl _,?_⟩
   have z:nJ i j=(i / ((Int.gcd i j:Nat):Int),j / ((Int.gcd i j:Nat):Int)):=by
    unfold nJ
    rw [if_neg (by omega)]
   rw [z] at q
   exact q
abbrev gh:Stmt:=top 13
abbrev pw:List Str:=["value"]
abbrev gi:List Str:=["value"]
theorem nK:FnScope pw gi (defScope gh):=⟨rfl,rfl,rfl,by decide+kernel,rfl,by decide+kernel,by decide+kernel⟩
abbrev cS:Stmt:=top 56
abbrev jN:List Str:=["_law_value"]
abbrev cU:List Str:=["_law_value"]
theorem je:FnScope jN cU (defScope cS):=⟨rfl,rfl,rfl,by decide+kernel,rfl,by decide+kernel,by decide+kernel⟩
theorem iE{t:Int}(h:t.natAbs<10 ^ 100):(cH t).length≤101:=by
 have l1:=TL.numL_len (n:=t.natAbs) (k:=100) (by decide) h
 show (TL.tl (cH t)).length≤_
 by_cases ht:t<0
 ·have:t= -((t.natAbs:Nat):Int):=by omega
  rw [this,qQ (by omega),List.length_cons]
  omega
 ·have:t=((t.natAbs:Nat):Int):=by omega
  rw [this,dq]
  omega
def pz:SpD:=fun ws m Q _=>∃p:Int×Int,ws=[.v (frD p)]∧p.1.natAbs<10 ^ 100∧p.2.natAbs<10 ^ 100∧Q (.v (.str (frT p))) m
theorem nM(G:Gs K mg "ratio_text" gh)(m_str:mg "str"=none):Gd P w K mg base (L2N.CX P w) 1 "ratio_text" gi (lift K pz):=by
 refine Fo.gd (cO nK (fun ws m Q Qx h=>?_) (fun f cdv A outer s H E hr=>⟨_,(af (aq (j7 (ay (fX (u64 hr)) (bc (dv 0) ah) ah (nomark _)) (lB m_str (aa (bc (dv 0) ah) ac)) (g9 (.cons (jB (bc (dv 0) ah)) (.cons aj (.cons (jB (bc (dv 0) ah)) .nil))))))),fun ws m Qd Qx h=>?_⟩) [] []) G (fun _ _ _ _ _ _ us hl=>match us,hl with | [_],_=>rfl)
 ·obtain ⟨_,rfl,_⟩:=h
  rfl
 ·obtain ⟨⟨t,b⟩,rfl,ht,hb,q⟩:=h
  refine ⟨_,rfl,rfl,rfl,Nat.zero_le _,Nat.zero_le _,aN (fun c=>?_) (fun c=>?_)⟩
  ·have c:b=1:=eq_of_beq c
   subst c
   exact ⟨_,rfl,log2_lt ht,List.prefix_refl _,q⟩
  ·have c:¬b=1:=fun z=>by subst z; cases c
   have n1:(cH t).length≤101:=iE ht
   have n2:(cH b).length≤101:=iE hb
   have ln:=sizeLine_eq
   have e0:Str.empty++cH t=cH t:=uh (aK Str.empty (cH t))
   refine ⟨_,rfl,log2_lt ht,?_,?_,_,rfl,log2_lt hb,?_,List.prefix_refl _,?_⟩
   ·show (Str.empty++cH t).length≤_
    rw [e0]
    omega
   ·show ((Str.empty++cH t)++"/").length≤_
    rw [e0,Str.length_append]
    show _+1≤_
    omega
   ·show (((Str.empty++cH t)++"/")++cH b).length≤_
    rw [e0,Str.length_append,Str.length_append]
    show _+1+_≤_
    omega
   ·have z:frT (t,b)=(cH t++"/")++cH b:=if_neg c
    rw [z,←e0] at q
    exact q
theorem jf(G:Gs K mg "_law_ratio_text" cS)(m_str:mg "str"=none):Gd P w K mg base (L2N.CX P w) 1 "_law_ratio_text" cU (lift K pz):=by
 refine Fo.gd (cO je (fun ws m Q Qx h=>?_) (fun f cdv A outer s H E hr=>⟨_,(af (aq (j7 (ay (fX (u64 hr)) (bc (dv 0) ah) ah (nomark _)) (lB m_str (aa (bc (dv 0) ah) ac)) (aM aG (aM aG (lB m_str (aa (bc (dv 0) ah) ac)) aj) (lB m_str (aa (bc (dv 0) ah) ac)))))),fun ws m Qd Qx h=>?_⟩) [] []) G (fun _ _ _ _ _ _ us hl=>match us,hl with | [_],_=>rfl)
 ·obtain ⟨_,rfl,_⟩:=h
  rfl
 ·obtain ⟨⟨t,b⟩,rfl,ht,hb,q⟩:=h
  refine ⟨_,rfl,rfl,rfl,Nat.zero_le _,Nat.zero_le _,aN (fun c=>?_) (fun c=>?_)⟩
  ·have c:b=1:=eq_of_beq c
   subst c
   exact ⟨_,rfl,log2_lt ht,List.prefix_refl _,q⟩
  ·have c:¬b=1:=fun z=>by subst z; cases c
   have n1:(cH t).length≤101:=iE ht
   have n2:(cH b).length≤101:=iE hb
   have ln:=sizeLine_eq
   refine ⟨_,rfl,log2_lt ht,?_,_,rfl,log2_lt hb,?_,List.prefix_refl _,?_⟩
   ·show (cH t).length+1≤_
    omega
   ·show (cH t++"/").length+(cH b).length≤_
    rw [Str.length_append]
    show _+1+_≤_
    omega
   ·have z:frT (t,b)=(cH t++"/")++cH b:=if_neg c
    rw [z] at q
    exact q
end
abbrev eY:Stmt:=top 46
abbrev kP:List Str:=["_law_found","_law_due","_law_k","_law_key"]
abbrev hU:List Str:=["_law_found","_law_due"]
abbrev iT:List (Str×Nat):=[("_law_k",2)]
theorem dW:FnScope kP hU (defScope eY):=⟨rfl,rfl,rfl,by decide+kernel,rfl,by decide+kernel,by decide+kernel⟩
section
variable {P:Program} {w:World} {K:Frag} {mg:Str→Option Value} {base:Heap}
def CZ:D→Bool
 | .non | .bl _ | .int _ | .str _=>true
 | _=>false
def k9:Nat→D→Prop
 | 0,_=>False
 | n+1,.lst ds=>ds.length<2 ^ 20∧∀d∈ds,k9 n d
 | n+1,.tup ds=>ds.length<2 ^ 20∧∀d∈ds,k9 n d
 | _+1,d=>CZ d=true
theorem mJ:∀{n:Nat} {d:D},k9 n d→k9 (n+1) d
 | 0,_,h=>h.elim
 | n+1,.lst _,h=>⟨h.1,fun d hd=>mJ (h.2 d hd)⟩
 | n+1,.tup _,h=>⟨h.1,fun d hd=>mJ (h.2 d hd)⟩
 | n+1,.non,h=>h
 | n+1,.bl _,h=>h
 | n+1,.int _,h=>h
 | n+1,.str _,h=>h
 | n+1,.ty _,h=>h
 | n+1,.fn _,h=>h
 | n+1,.dic _,h=>h
 | n+1,.obj _ _,h=>h
 | n+1,.exc _ _,h=>h
 | n+1,.lam _ _ _,h=>h
def ui(n:Nat):SpD:=fun ws m Q _=>∃d,ws=[.v d,.v d]∧k9 n d∧Q (.v (.bl true)) m
theorem mK{Q:List Bool→Prop}:∀n:Nat,Q (List.replicate n true)→ql (List.replicate n (.bl true)) Q
 | 0,h=>h
 | n+1,h=>mK (Q:=fun bs=>Q (true::bs)) n h
theorem zO{i:Nat}{its ys:List D}(h:All2 (fun _ _ y=>y=.bl true) i its ys):ys=List.replicate its.length (.bl true):=by
 induction h with
 | nil=>rfl
 | cons r _ ih=>rw [r,ih,List.length_cons,List.replicate_succ]
theorem pA(G:Gs K mg "_law_same" eY)(m_isinstance:mg "isinstance"=none)(m_tuple:mg "tuple"=none)(m_list:mg "list"=none)(m_all:mg "all"=none)(m_range:mg "range"=none)(m_len:mg "len"=none)(m_dict:mg "dict"=none)(m_int:mg "int"=none)(m_bool:mg "bool"=none)(m_str:mg "str"=none):
  ∀n:Nat,Gd P w K mg base (L2N.CX P w) (n+1) "_law_same" hU (lift K (ui n)):=by
 intro n
 induction n with
 | zero=>
  refine Fo.gd (rO dW (fun vs H Q E h=>?_) (fun f cdv A outer s H vs Q E hr h=>?_)) G (fun _ _ _ _ _ _ us hl=>match us,hl with | [_,_],_=>rfl)
  ·obtain ⟨_,_,_,_,_,_,_,r,⟨_,_,f,_⟩,_⟩:=h
   exact f.elim
  ·obtain ⟨_,_,_,_,_,_,_,r,⟨_,_,f,_⟩,_⟩:=h
   exact f.elim
 | succ n g__law_same=>
 refine Fo.gd (cO dW (fun ws m Q Qx h=>?_) (fun f cdv A outer s H E hr=>⟨_,(ad (aW (aP (Bn m_isinstance (dv 1) (pe_bltn (v:=.ty "list") (by rfl) m_list (by decide+kernel) rfl) (pe_bltn (v:=.ty "tuple") (by rfl) m_tuple (by decide+kernel) rfl)))
   (ad (aW (DW.dt (dH (ay (gZ (u64 hr)) (cQ m_isinstance (aa (dv 0) (aa (fV (n:="list") m_list (by decide+kernel)) ac))) (cQ m_isinstance (aa (dv 1) (aa (fV (n:="list") m_list (by decide+kernel)) ac))) (nomark _)) (du (ay (gZ (u64 hr)) (cQ m_isinstance (aa (dv 0) (aa (fV (n:="tuple") m_tuple (by decide+kernel)) ac))) (cQ m_isinstance (aa (dv 1) (aa (fV (n:="tuple") m_tuple (by decide+kernel)) ac))) (nomark _)))))
    (af (aq lX))
    aD)
   (af (aq (jx (fH (fX (u64 hr)) (dm m_len (aa (dv 0) ac)) (dm m_len (aa (dv 1) ac)) (nomark _)) (iN (AL rfl m_all (aa (qj (own:=iT) rfl dW.nd (fJ m_range (aa (dm m_len (aa (dv 1) ac)) ac)) (blkOk_by (own:=iT) (N:=kP) (sc:=defScope eY) (by decide+kernel)) (fun _ _ _ _ _=>(az (i:=2) dW.nd rfl (.inl rfl))) (fun _ _ _ _ _=>cN) (fun _ _ _ _ _=>(av g__law_same (hr.mono (by omega)) md (aa (bc (dv 0) (dv 2)) (aa (bc (dv 1) (dv 2)) ac))))) ac)))))))
   aD)
  (ad (aW (aP (cQ m_isinstance (aa (dv 1) (aa (fV (n:="dict") m_dict (by decide+kernel)) ac))))
   uY
   aD)
  (ad (aW (DW.dt (dH (ay zd (dv 1) tm (nomark _)) (du (ay zd (dv 0) tm (nomark _)))))
   (af (aq (jx (fH zd (dv 0) tm (nomark _)) (iN (fH zd (dv 1) tm (nomark _))))))
   aD)
  (ad (aW (DW.dt (dH (ay (gZ (u64 hr)) (cQ m_isinstance (aa (dv 1) (aa (fV (n:="bool") m_bool (by decide+kernel)) ac))) (cQ m_isinstance (aa (dv 0) (aa (fV (n:="bool") m_bool (by decide+kernel)) ac))) (nomark _)) (du (ay (gZ (u64 hr)) (cQ m_isinstance (aa (dv 1) (aa (fV (n:="int") m_int (by decide+kernel)) ac))) (cQ m_isinstance (aa (dv 0) (aa (fV (n:="int") m_int (by decide+kernel)) ac))) (nomark _)))))
   (af (aq lX))
   aD)
  (af (aq (jx (fH (fX (u64 hr)) (cQ m_isinstance (aa (dv 1) (aa (fV (n:="str") m_str (by decide+kernel)) ac))) (cQ m_isinstance (aa (dv 0) (aa (fV (n:="str") m_str (by decide+kernel)) ac))) (nomark _)) (iN (fH (fX (u64 hr)) (dv 0) (dv 1) (nomark _)))))))))),fun ws m Qd Qx h=>?_⟩) [] []) G (fun _ _ _ _ _ _ us hl=>match us,hl with | [_,_],_=>rfl)
 ·obtain ⟨_,rfl,_⟩:=h
  rfl
 ·obtain ⟨d,rfl,hf,q⟩:=h
  have ln:=sizeLine_eq
  have lp:∀(x:D) (ds:List D) (Q:W→Me→Prop) (g:DTG) (te:DTE) (en:En),ds.length<2 ^ 20→(∀j (Qt:W→Me→Prop),(hj:j<ds.length)→Qt (.v (.bl true)) m→g (.v (.int (0+(j:Nat)))) en m fun en1 m1=>te en1 m1 Qt noX)→Q (.v (.lst (List.replicate ds.length (.bl true)))) m→lcL g tYs te en (nz 0 ds.length) [] m Q:=fun x ds Q g te en hl h k=>by
   refine lC (fun _ _ y=>y=.bl true) 0 (by rw [ej]; show 0+_≤_; omega) (fun j d Qt hd hq=>?_) fun ys hys=>?_
   ·obtain ⟨rfl,hj⟩:=tH hd
    exact h j Qt hj (hq _ rfl)
   ·rw [zO hys,ej]
    exact k
  cases d with
  | lst ds=>
   obtain ⟨h1,h2⟩:=hf
   refine ⟨rfl,rfl,rfl,rfl,rfl,Nat.zero_le _,Nat.zero_le _,rfl,rfl,rfl,rfl,Nat.zero_le _,Nat.zero_le _,rfl,rfl,Nat.zero_le _,Nat.zero_le _,d9 (by show ((ds.length:Int) == (ds.length:Int))=true; simp) ?_⟩
   refine ⟨by omega,by omega,lp (.lst ds) ds _ _ _ _ h1 (fun j Qt hj hq=>?_) ?_⟩
   ·have a:=nZ (xs:=ds) (i:=(0:Int)+(j:Nat)) (by omega) (by omega)
    exact ⟨_,a,_,a,_,rfl,h2 _ (ix a),hq⟩
   ·refine mK _ ⟨List.prefix_refl _,?_⟩
    have:(List.replicate ds.length true).all id=true:=by simp
    show Qd (.v (.bl ((List.replicate ds.length true).all id))) m
    rw [this]
    exact q
  | tup ds=>
   obtain ⟨h1,h2⟩:=hf
   refine ⟨rfl,rfl,rfl,rfl,rfl,Nat.zero_le _,Nat.zero_le _,rfl,rfl,rfl,rfl,Nat.zero_le _,Nat.zero_le _,rfl,rfl,Nat.zero_le _,Nat.zero_le _,d9 (by show ((ds.length:Int) == (ds.length:Int))=true; simp) ?_⟩
   refine ⟨by omega,by omega,lp (.tup ds) ds _ _ _ _ h1 (fun j Qt hj hq=>?_) ?_⟩
   ·have a:=nZ (xs:=ds) (i:=(0:Int)+(j:Nat)) (by omega) (by omega)
    exact ⟨_,a,_,a,_,rfl,h2 _ (ix a),hq⟩
   ·refine mK _ ⟨List.prefix_refl _,?_⟩
    have:(List.replicate ds.length true).all id=true:=by simp
    show Qd (.v (.bl ((List.replicate ds.length true).all id))) m
    rw [this]
    exact q
  | non=>exact ⟨rfl,rfl,rfl,rfl,rfl,List.prefix_refl _,q⟩
  | bl b=>
   refine ⟨rfl,rfl,rfl,rfl,rfl,rfl,rfl,rfl,Nat.zero_le _,Nat.zero_le _,rfl,rfl,rfl,rfl,Nat.zero_le _,Nat.zero_le _,rfl,rfl,rfl,rfl,Nat.zero_le _,Nat.zero_le _,rfl,rfl,Nat.zero_le _,Nat.zero_le _,List.prefix_refl _,?_⟩
   have e:deq (.bl b) (.bl b)=true:=by show (b == b)=true; simp
   show Qd (.v (.bl (deq (.bl b) (.bl b)))) m
   rw [e]
   exact q
  | int b=>
   refine ⟨rfl,rfl,rfl,rfl,rfl,rfl,rfl,rfl,Nat.zero_le _,Nat.zero_le _,rfl,rfl,rfl,rfl,Nat.zero_le _,Nat.zero_le _,rfl,rfl,rfl,rfl,Nat.zero_le _,Nat.zero_le _,rfl,rfl,Nat.zero_le _,Nat.zero_le _,List.prefix_refl _,?_⟩
   have e:deq (.int b) (.int b)=true:=by show (b == b)=true; simp
   show Qd (.v (.bl (deq (.int b) (.int b)))) m
   rw [e]
   exact q
  | str b=>
   refine ⟨rfl,rfl,rfl,rfl,rfl,rfl,rfl,rfl,Nat.zero_le _,Nat.zero_le _,rfl,rfl,rfl,rfl,Nat.zero_le _,Nat.zero_le _,rfl,rfl,rfl,rfl,Nat.zero_le _,Nat.zero_le _,rfl,rfl,Nat.zero_le _,Nat.zero_le _,List.prefix_refl _,?_⟩
   have e:deq (.str b) (.str b)=true:=by show (b == b)=true; simp
   show Qd (.v (.bl (deq (.str b) (.str b)))) m
   rw [e]
   exact q
  | _=>cases hf
end
section
variable {P:Program} {w:World} {K:Frag} {mg:Str→Option Value} {base:Heap}
theorem ow{m:Me}{es:List D}{Q:D→Prop}(h:Q (.lst es)):look (.loc m.length) (m++[.lst es]) Q:=by
 show wo ((m++[MO.lst es])[m.length]?) Q
 rw [List.getElem?_append_right (Nat.le_refl _),Nat.sub_self]
 exact h
abbrev gj:Stmt:=top 45
abbrev pB:List Str:=["_law_bag_here","_law_things","_law_found","_law_thing"]
abbrev gl:List Str:=["_law_bag_here","_law_things"]
theorem fy:FnScope pB gl (defScope gj):=⟨rfl,rfl,rfl,by decide+kernel,rfl,by decide+kernel,by decide+kernel⟩
end
theorem oz{Q:List Bool→Prop}(g:D→Bool):∀ds:List D,Q (ds.map g)→ql (ds.map fun d=>.bl (g d)) Q
 | [],h=>h
 | d::ds,h=>oz (Q:=fun bs=>Q (g d::bs)) g ds h
def w11:List D:=([("gap":Str),"pad","row","pile","grid","clip","hole","room","one","and","or"]:List Str).map .str
def xx:Str:="abcdefghijklmnopqrstuvwxyz"
def jO:D→Bool
 | .str c=>kc c xx
 | _=>false
def thS(x:Str):Bool:=decide (1≤(x.length:Int))&&(decide ((x.length:Int)≤4)&&(!(w11.any fun y=>deq y (.str x))&&(chD x).all jO))
def AX(N:Nat):SpD:=fun ws m Q _=>∃x:Str,ws=[.v (.str x)]∧x.length≤N∧Q (.v (.bl (thS x))) m
abbrev xy:SpD:=AX 20000
section
variable {P:Program} {w:World} {K:Frag} {mg:Str→Option Value} {base:Heap}
abbrev eI:Stmt:=top 18
abbrev mL:List Str:=["value","letter"]
abbrev eJ:List Str:=["value"]
abbrev jP:List (Str×Nat):=[("letter",1)]
theorem hV:FnScope mL eJ (defScope eI):=⟨rfl,rfl,rfl,by decide+kernel,rfl,by decide+kernel,by decide+kernel⟩
theorem pC{L:Nat}(hL:L≤20000)(G:Gs K mg "is_thing" eI)(m_len:mg "len"=none){u:Value}(c_W:mg "WORDS"=some u)(k_W:eu K 3 u (.tup w11)=true)(m_isinstance:mg "isinstance"=none)(m_str:mg "str"=none)(m_all:mg "all"=none):Gd P w K mg base (L2N.CX P w) 1 "is_thing" eJ (lift K (AX L)):=by
 refine Fo.gd (cO hV (fun ws m Q Qx h=>?_) (fun f cdv A outer s H E hr=>⟨_,(ad (aW (DW.dt (dH (bF (aP (cQ m_isinstance (aa (dv 0) (aa (fV (n:="str") m_str (by decide+kernel)) ac))))) (dH (bF (qh za za ah (dm m_len (aa (dv 0) ac)) ah)) (du (ay (qk (u65 hr)) (dv 0) (eA c_W k_W) (by rfl))))))
   (af (aq lX))
   aD)
  (af (aq (AL rfl m_all (aa (qj (own:=jP) rfl hV.nd (b8 (dv 0)) (blkOk_by (own:=jP) (N:=mL) (sc:=defScope eI) (by decide+kernel)) (fun _ _ _ _ _=>(az (i:=1) hV.nd rfl (.inl rfl))) (fun _ _ _ _ _=>cN) (fun _ _ _ _ _=>(fH (qk (u65 hr)) (dv 1) aj (by rfl)))) ac))))),fun ws m Qd Qx h=>?_⟩) [] []) G (fun _ _ _ _ _ _ us hl=>match us,hl with | [_],_=>rfl)
 ·obtain ⟨_,rfl,_⟩:=h
  rfl
 ·obtain ⟨x,rfl,hx,q⟩:=h
  have ln:=sizeLine_eq
  refine ⟨rfl,by omega,?_⟩
  have e0:thS x=(decide (1≤(x.length:Int))&&(decide ((x.length:Int)≤4)&&(!(w11.any fun y=>deq y (.str x))&&(chD x).all jO))):=rfl
  refine aN (fun c1=>?_) (fun c1=>?_)
  ·have c1:decide (1≤(x.length:Int))=true:=c1
   refine aN (fun c2=>?_) (fun c2=>?_)
   ·have c2:decide ((x.length:Int)≤4)=false:=by simpa using c2
    rw [e0,c1,c2] at q
    exact ⟨List.prefix_refl _,q⟩
   ·have c2:decide ((x.length:Int)≤4)=true:=by simpa using c2
    refine ⟨rfl,rfl,aN (fun c3=>?_) (fun c3=>?_)⟩
    ·have c3:(w11.any fun y=>deq y (.str x))=true:=c3
     rw [e0,c1,c2,c3] at q
     exact ⟨List.prefix_refl _,q⟩
    ·have c3:(w11.any fun y=>deq y (.str x))=false:=c3
     rw [e0,c1,c2,c3] at q
     have q:Qd (.v (.bl (((chD x).map jO).all id))) m:=by
      rw [List.all_map]
      exact q
     refine jC (fun d=>.bl (jO d)) ?_ (fun d Qt hd hq=>?_) ?_
     ·have e1:(chD x).length=x.length:=by
       unfold chD
       rw [List.length_map,Array.length_toList]
       rfl
      show 0+(chD x).length≤_
      omega
     ·obtain ⟨c,_,rfl⟩:=List.mem_map.mp hd
      exact hq
     ·exact oz jO (chD x) ⟨List.prefix_refl _,q⟩
  ·have c1:decide (1≤(x.length:Int))=false:=c1
   rw [e0,c1] at q
   exact ⟨List.prefix_refl _,q⟩
theorem qU(G:Gs K mg "is_thing" eI)(m_len:mg "len"=none){u:Value}(c_W:mg "WORDS"=some u)(k_W:eu K 3 u (.tup w11)=true)(m_isinstance:mg "isinstance"=none)(m_str:mg "str"=none)(m_all:mg "all"=none):Gd P w K mg base (L2N.CX P w) 1 "is_thing" eJ (lift K xy):=pC (by decide) G m_len c_W k_W m_isinstance m_str m_all
end
def aA(x:Str):List Str:=Txt.split x "."
theorem pD(c:Nat):∀(l acc:List Nat),((TL.spl [c] 0 acc l).length:Int)=PySem.Spec.countIn (.str ⟨#[c]⟩) (l.map fun n=>PyData.str ⟨#[n]⟩)+1
 | [],acc=>rfl
 | x::l,acc=>by
  show ((if TL.pre [c] (x::l)=true then acc::TL.spl [c] 0 [] l else TL.spl [c] 0 (acc++[x]) l).length:Int)=((if PySem.Spec.same (.str ⟨#[x]⟩) (.str ⟨#[c]⟩)=true then 1 else 0)+PySem.Spec.countIn _ (l.map _))+1
  have e1:TL.pre [c] (x::l)=decide (x=c):=by
   show ([x] == [c])=_
   by_cases h:x=c
   ·subst h; simp
   ·simp [h]
  have e2:PySem.Spec.same (.str ⟨#[x]⟩) (.str ⟨#[c]⟩)=decide (x=c):=by
   show ((⟨#[x]⟩:Str) == ⟨#[c]⟩)=_
   by_cases h:x=c
   ·subst h; simp
   ·rw [decide_eq_false h]
    refine beq_eq_false_iff_ne.mpr fun z=>h ?_
    have z:=congrArg (fun y:Str=>y.cps.toList) z
    exact (List.cons.inj z).1
  rw [e1,e2]
  by_cases h:x=c
  ·rw [decide_eq_true h,if_pos rfl,if_pos rfl,List.length_cons]
   have:=pD c l []
   omega
  ·rw [decide_eq_false h,if_neg (by simp),if_neg (by simp)]
   have:=pD c l (acc++[x])
   omega
theorem mM(c:Nat):∀(l acc:List Nat),∀p∈TL.spl [c] 0 acc l,p.length≤acc.length+l.length
 | [],acc,p,hp=>by
  have hp:p∈[acc]:=hp
  rw [List.mem_singleton.mp hp]
  exact Nat.le_add_right _ _
 | x::l,acc,p,hp=>by
  have hp:p∈(if TL.pre [c] (x::l)=true then acc::TL.spl [c] 0 [] l else TL.spl [c] 0 (acc++[x]) l):=hp
  rw [List.length_cons]
  by_cases h:TL.pre [c] (x::l)=true
  ·rw [if_pos h] at hp
   rcases List.mem_cons.mp hp with e | hp
   ·rw [e]; omega
   ·have:=mM c l [] p hp
    rw [List.length_nil] at this
    omega
  ·rw [if_neg h] at hp
   have:=mM c l (acc++[x]) p hp
   rw [List.length_append,List.length_singleton] at this
   omega
theorem sJ:TL.tl "."=[46]:=rfl
theorem jQ(x:Str):(aA x).map TL.tl=TL.spl [46] 0 [] (TL.tl x):=
 TL.split_spl x "." (by rw [sJ]; simp) (TL.kind_ok (by decide+kernel))
theorem oA(x:Str):((aA x).length:Int)=Txt.count x "."+1:=by
 have e1:(aA x).length=(TL.spl [46] 0 [] (TL.tl x)).length:=by rw [←jQ,List.length_map]
 rw [e1,pD]
 have e2:Txt.count x "."=PySem.Spec.countIn (.str ⟨#[46]⟩) (x.cps.toList.map fun n=>PyData.str ⟨#[n]⟩):=PyProof.Rows.count_is x 46
 rw [e2]
theorem mN{x p:Str}(h:p∈aA x):p.length≤x.length:=by
 have:=mM 46 (TL.tl x) [] (TL.tl p) (by rw [←jQ]; exact List.mem_map_of_mem h)
 have e1:(TL.tl p).length=p.length:=rfl
 have e2:(TL.tl x).length=x.length:=rfl
 rw [List.length_nil] at this
 omega
def inL(l:List D)(x:Str):Bool:=l.any fun y=>deq y (.str x)
def wh2:List D:=[.str "w",.str "h"]
def lr2:List D:=[.str "left",.str "right"]
def tb2:List D:=[.str "top",.str "bottom"]
def mO:List D:=[.str "room.w",.str "room.h"]
def mP:List D:=[.str "w",.str "h",.str "left",.str "right",.str "top",.str "bottom"]
def cw(l:List D):List Str→Bool
 | [a,b]=>thS a&&inL l b
 | _=>false
def DP:D:=.tup [.tup lr2,.tup tb2]
def km:Str:="one"
def cG(so:Bool)(x:Str):Bool:=(x == km)||(((!so)&&inL mO x)||cw (if so=true then wh2 else mP) (aA x))
theorem zP(l:List D)(h:mP=wh2++l):∀ps,cw mP ps=(cw wh2 ps||cw l ps)
 | [a,b]=>by
  show (thS a&&inL mP b)=((thS a&&inL wh2 b)||(thS a&&inL l b))
  rw [h]
  unfold inL
  rw [List.any_append]
  cases thS a <;> rfl
 | []=>rfl
 | [_]=>rfl
 | _::_::_::_=>rfl
theorem xz(so:Bool)(x:Str):cG so x= !((!(x == km))&&((!cw wh2 (aA x))&&(so||((!inL mO x)&& !cw (lr2++tb2) (aA x))))):=by
 unfold cG
 cases so with
 | true=>
  rw [if_pos rfl]
  cases x == km <;> cases cw wh2 (aA x) <;> rfl
 | false=>
  rw [if_neg (by simp),zP (lr2++tb2) rfl]
  cases x == km <;> cases cw wh2 (aA x) <;> cases inL mO x <;> cases cw (lr2++tb2) (aA x) <;> rfl
def xA:D→Prop
 | .non | .int _=>True
 | .str x=>x.length≤20000
 | .lst ds=>plainL ds=true∧depL ds+1≤64
 | _=>False
def iU(f:Str→Bool):D→Bool
 | .str x=>f x
 | _=>false
def uj(f:Str→Bool):SpD:=fun ws m Q _=>∃d,ws=[.v d]∧xA d∧Q (.v (.bl (iU f d))) m
section
variable {P:Program} {w:World} {K:Frag} {mg:Str→Option Value} {base:Heap}
abbrev kn:Stmt:=top 26
abbrev vB:List Str:=["name","thing","word"]
abbrev kq:List Str:=["name"]
theorem jg:FnScope vB kq (defScope kn):=⟨rfl,rfl,rfl,by decide+kernel,rfl,by decide+kernel,by decide+kernel⟩
theorem sK(G:Gs K mg "is_size" kn)(m_isinstance:mg "isinstance"=none)(m_str:mg "str"=none){u:Value}(c_A:mg "AXES"=some u)(k_A:eu K 3 u (.tup wh2)=true)(g_is_thing:Gd P w K mg base (L2N.CX P w) 1 "is_thing" eJ (lift K xy)):Gd P w K mg base (L2N.CX P w) 2 "is_size" kq (lift K (uj fun x=>cw wh2 (aA x))):=by
 refine Fo.gd (cO jg (fun ws m Q Qx h=>?_) (fun f cdv A outer s H E hr=>⟨_,(ad (aW (DW.dt (dH (bF (aP (cQ m_isinstance (aa (dv 0) (aa (fV (n:="str") m_str (by decide+kernel)) ac))))) (du (ay (gZ (u64 hr)) (tP (dv 0) (aa aj ac)) ah (nomark _)))))
   (af (aq lX))
   aD)
  (ad (lZ (o3 (dv 0) (aa aj ac)) (wQ rfl (aS (az (i:=1) jg.nd rfl (.inl rfl)) (aS (az (i:=2) jg.nd rfl (.inl rfl)) eR))))
  (af (aq (jx (av g_is_thing (hr.mono (by omega)) (aw (L2N.takes_of rfl rfl rfl rfl)) (aa (dv 1) ac)) (iN (fH (qk (u65 hr)) (dv 2) (eA c_A k_A) (by rfl)))))))),fun ws m Qd Qx h=>?_⟩) [] []) G (fun _ _ _ _ _ _ us hl=>match us,hl with | [_],_=>rfl)
 ·obtain ⟨_,rfl,_⟩:=h
  rfl
 ·obtain ⟨d,rfl,hd,q⟩:=h
  have ln:=sizeLine_eq
  cases d with
  | non=>exact ⟨rfl,List.prefix_refl _,q⟩
  | int i=>exact ⟨rfl,List.prefix_refl _,q⟩
  | lst l=>exact ⟨rfl,List.prefix_refl _,q⟩
  | str x=>
   have hd:x.length≤20000:=hd
   have pl:=oA x
   refine ⟨rfl,trivial,rfl,rfl,Nat.zero_le _,Nat.zero_le _,?_⟩
   refine aN (fun c=>?_) (fun c=>?_)
   ·have c:(!(Txt.count x "." == 1))=true:=c
    have ne:(aA x).length≠2:=fun z=>by
     have c:(Txt.count x "." == 1)=false:=by simpa using c
     have c:¬Txt.count x "."=1:=by simpa using c
     omega
    have q:Qd (.v (.bl (cw wh2 (aA x)))) m:=q
    have e:cw wh2 (aA x)=false:=by
     unfold cw
     split
     ·rename_i a b e
      rw [e] at ne
      exact absurd rfl ne
     ·rfl
    rw [e] at q
    exact ⟨List.prefix_refl _,q⟩
   ·have c:(!(Txt.count x "." == 1))=false:=c
    obtain ⟨a,b,e⟩:∃a b,aA x=[a,b]:=by
     have c:(Txt.count x "." == 1)=true:=by simpa using c
     have c:Txt.count x "."=1:=by simpa using c
     have l2:(aA x).length=2:=by omega
     match aA x,l2 with
     | [a,b],_=>exact ⟨a,b,rfl⟩
    have la:=mN (x:=x) (p:=a) (by rw [e]; simp)
    have q:Qd (.v (.bl (cw wh2 (aA x)))) m:=q
    rw [e] at q
    refine ⟨trivial,by decide+kernel,by rw [sJ]; simp,by omega,?_⟩
    have e':Txt.split x "."=[a,b]:=e
    rw [e']
    refine ⟨rfl,a,rfl,by omega,?_⟩
    have e3:cw wh2 [a,b]=(thS a&&inL wh2 b):=rfl
    rw [e3] at q
    refine aN (fun c=>?_) (fun c=>?_)
    ·rw [c] at q
     exact ⟨rfl,rfl,List.prefix_refl _,q⟩
    ·rw [c] at q
     exact ⟨List.prefix_refl _,q⟩
  | _=>exact hd.elim
abbrev kr:Stmt:=top 27
abbrev vC:List Str:=["name","thing","word"]
abbrev ku:List Str:=["name"]
theorem jh:FnScope vC ku (defScope kr):=⟨rfl,rfl,rfl,by decide+kernel,rfl,by decide+kernel,by decide+kernel⟩
theorem sL(G:Gs K mg "is_edge" kr)(m_isinstance:mg "isinstance"=none)(m_str:mg "str"=none){u:Value}(c_E:mg "EDGES"=some u)(k_E:eu K 3 u DP=true)(g_is_thing:Gd P w K mg base (L2N.CX P w) 1 "is_thing" eJ (lift K xy)):Gd P w K mg base (L2N.CX P w) 2 "is_edge" ku (lift K (uj fun x=>cw (lr2++tb2) (aA x))):=by
 refine Fo.gd (cO jh (fun ws m Q Qx h=>?_) (fun f cdv A outer s H E hr=>⟨_,(ad (aW (DW.dt (dH (bF (aP (cQ m_isinstance (aa (dv 0) (aa (fV (n:="str") m_str (by decide+kernel)) ac))))) (du (ay (gZ (u64 hr)) (tP (dv 0) (aa aj ac)) ah (nomark _)))))
   (af (aq lX))
   aD)
  (ad (lZ (o3 (dv 0) (aa aj ac)) (wQ rfl (aS (az (i:=1) jh.nd rfl (.inl rfl)) (aS (az (i:=2) jh.nd rfl (.inl rfl)) eR))))
  (af (aq (jx (av g_is_thing (hr.mono (by omega)) (aw (L2N.takes_of rfl rfl rfl rfl)) (aa (dv 1) ac)) (iN (Dm (fH (qk (u65 hr)) (dv 2) (bc (eA c_E k_E) ah) (by rfl)) (iN (fH (qk (u65 hr)) (dv 2) (bc (eA c_E k_E) ah) (by rfl)))))))))),fun ws m Qd Qx h=>?_⟩) [] []) G (fun _ _ _ _ _ _ us hl=>match us,hl with | [_],_=>rfl)
 ·obtain ⟨_,rfl,_⟩:=h
  rfl
 ·obtain ⟨d,rfl,hd,q⟩:=h
  have ln:=sizeLine_eq
  cases d with
  | non=>exact ⟨rfl,List.prefix_refl _,q⟩
  | int i=>exact ⟨rfl,List.prefix_refl _,q⟩
  | lst l=>exact ⟨rfl,List.prefix_refl _,q⟩
  | str x=>
   have hd:x.length≤20000:=hd
   have pl:=oA x
   refine ⟨rfl,trivial,rfl,rfl,Nat.zero_le _,Nat.zero_le _,?_⟩
   refine aN (fun c=>?_) (fun c=>?_)
   ·have c:(!(Txt.count x "." == 1))=true:=c
    have ne:(aA x).length≠2:=fun z=>by
     have c:(Txt.count x "." == 1)=false:=by simpa using c
     have c:¬Txt.count x "."=1:=by simpa using c
     omega
    have q:Qd (.v (.bl (cw (lr2++tb2) (aA x)))) m:=q
    have e:cw (lr2++tb2) (aA x)=false:=by
     unfold cw
     split
     ·rename_i a b e
      rw [e] at ne
      exact absurd rfl ne
     ·rfl
    rw [e] at q
    exact ⟨List.prefix_refl _,q⟩
   ·have c:(!(Txt.count x "." == 1))=false:=c
    obtain ⟨a,b,e⟩:∃a b,aA x=[a,b]:=by
     have c:(Txt.count x "." == 1)=true:=by simpa using c
     have c:Txt.count x "."=1:=by simpa using c
     have l2:(aA x).length=2:=by omega
     match aA x,l2 with
     | [a,b],_=>exact ⟨a,b,rfl⟩
    have la:=mN (x:=x) (p:=a) (by rw [e]; simp)
    have q:Qd (.v (.bl (cw (lr2++tb2) (aA x)))) m:=q
    rw [e] at q
    refine ⟨trivial,by decide+kernel,by rw [sJ]; simp,by omega,?_⟩
    have e':Txt.split x "."=[a,b]:=e
    rw [e']
    refine ⟨rfl,a,rfl,by omega,?_⟩
    have e3:cw (lr2++tb2) [a,b]=(thS a&&inL (lr2++tb2) b):=rfl
    rw [e3] at q
    refine aN (fun c=>?_) (fun c=>?_)
    ·rw [c] at q
     have e4:inL (lr2++tb2) b=(inL lr2 b||inL tb2 b):=by
      unfold inL
      rw [List.any_append]
     rw [e4] at q
     refine ⟨.tup lr2,rfl,rfl,rfl,aN (fun c2=>?_) (fun c2=>?_)⟩
     ·have c2:inL lr2 b=true:=c2
      rw [c2] at q
      exact ⟨List.prefix_refl _,q⟩
     ·have c2:inL lr2 b=false:=c2
      rw [c2] at q
      exact ⟨.tup tb2,rfl,rfl,rfl,List.prefix_refl _,q⟩
    ·rw [c] at q
     exact ⟨List.prefix_refl _,q⟩
  | _=>exact hd.elim
end
def okF:D→Prop
 | .non | .int _=>True
 | .tup [.int a,.int b]=>a.natAbs<10 ^ 100∧b.natAbs<10 ^ 100
 | .tup [.bl _,.int _]=>True
 | _=>False
def xB:D→Bool
 | .tup [.int a,.int b]=>decide (b>0)&&((Int.gcd a b:Nat):Int) == 1
 | _=>false
abbrev lh:Int:=1000000
def fO:D→Bool
 | .tup [.int a,.int b]=>xB (.tup [.int a,.int b])&&(decide (0<((a.natAbs:Nat):Int))&&(decide (((a.natAbs:Nat):Int)<lh)&&decide (b<lh)))
 | _=>false
def okI:D→Prop
 | .non | .int _ | .str _=>True
 | .lst l=>plainL l=true
 | .tup [f,n]=>okF f∧xA n
 | .tup its=>its.length≤20∧plainL its=true
 | _=>False
def a9(so:Bool):D→Bool
 | .tup [f,n]=>fO f&&iU (cG so) n
 | _=>false
def okX:D→Prop
 | .non | .int _ | .str _=>True
 | .lst l=>plainL l=true
 | .tup its=>its.length≤20∧∀it∈its,okI it
 | _=>False
def vD:D→Key
 | .tup [_,.str x]=>.inr x
 | _=>.inl 0
def aE(so:Bool):D→Bool
 | .tup its=>decide (1≤(its.length:Int))&&(decide ((its.length:Int)≤6)&&(its.all (a9 so)&&(((zx (its.map vD)).length:Int) == (its.length:Int))))
 | _=>false
theorem ul{so:Bool}{d:D}(h:a9 so d=true):∃f x,d=.tup [f,.str x]∧vD d=.inr x∧fO f=true∧cG so x=true:=by
 unfold a9 at h
 split at h
 ·rename_i f n
  have h:=Bool.and_eq_true_iff.mp h
  cases n with
  | str x=>exact ⟨f,x,rfl,rfl,h.1,h.2⟩
  | _=>exact absurd h.2 Bool.false_ne_true
 ·cases h
theorem qV{g:DTG}{te:DTE}{en:En}{m:Me}(f:D→Key):∀{its:List D} {l:List Key} {Q:W→Me→Prop},l.length+its.length+1<scanBound→
  (∀d (Qt:W→Me→Prop),d∈its→Qt (.v (kD (f d))) m→g (.v d) en m fun en1 m1=>te en1 m1 Qt noX)→Q (.v (.int (((its.map f).foldl onK l).length:Nat))) m→scL g tYs te en its l m Q
 | [],_,_,_,_,q=>q
 | d::ds,l,Q,hl,h,q=>by
  rw [List.length_cons] at hl
  refine h d (fun y m3=>kOf y fun k=>l.length+1<scanBound∧scL g tYs te en ds (onK l k) m3 Q) List.mem_cons_self ?_
  have go:l.length+1<scanBound∧scL g tYs te en ds (onK l (f d)) m Q:=⟨by omega,qV f (by have:=Bz l (f d); omega) (fun e Qt he=>h e Qt (List.mem_cons_of_mem _ he)) q⟩
  cases hk:f d with
  | inl i=>rw [hk] at go; exact go
  | inr x=>rw [hk] at go; exact go
def um(f:D→Bool):SpD:=fun ws m Q _=>∃d,ws=[.v d]∧okF d∧Q (.v (.bl (f d))) m
section
variable {P:Program} {w:World} {K:Frag} {mg:Str→Option Value} {base:Heap}
abbrev ji:Stmt:=top 11
abbrev sM:List Str:=["value"]
abbrev jj:List Str:=["value"]
theorem qW:FnScope sM jj (defScope ji):=⟨rfl,rfl,rfl,by decide+kernel,rfl,by decide+kernel,by decide+kernel⟩
def BF:D→Bool
 | .int _=>true
 | _=>false
def AY:SpD:=fun ws m Q _=>∃d,ws=[.v d]∧(wF d).isSome=true∧Q (.v (.bl (BF d))) m
theorem qX(G:Gs K mg "is_whole" ji)(m_isinstance:mg "isinstance"=none)(m_bool:mg "bool"=none)(m_int:mg "int"=none):Gd P w K mg base (L2N.CX P w) 1 "is_whole" jj (lift K AY):=by
 refine Fo.gd (cO qW (fun ws m Q Qx h=>?_) (fun f cdv A outer s H E hr=>⟨_,(af (aq (jx (cQ m_isinstance (aa (dv 0) (aa (fV (n:="int") m_int (by decide+kernel)) ac))) (iN (Ck (cQ m_isinstance (aa (dv 0) (aa (fV (n:="bool") m_bool (by decide+kernel)) ac)))))))),fun ws m Qd Qx h=>?_⟩) [] []) G (fun _ _ _ _ _ _ us hl=>match us,hl with | [_],_=>rfl)
 ·obtain ⟨_,rfl,_⟩:=h
  rfl
 ·obtain ⟨d,rfl,ht,q⟩:=h
  cases d with
  | int i=>exact ⟨rfl,rfl,List.prefix_refl _,q⟩
  | bl b=>exact ⟨rfl,rfl,List.prefix_refl _,q⟩
  | ty _=>cases ht
  | fn _=>cases ht
  | obj _ _=>cases ht
  | exc _ _=>cases ht
  | lam _ _ _=>cases ht
  | _=>exact ⟨rfl,List.prefix_refl _,q⟩
abbrev jk:Stmt:=top 12
abbrev sN:List Str:=["value"]
abbrev jl:List Str:=["value"]
theorem qY:FnScope sN jl (defScope jk):=⟨rfl,rfl,rfl,by decide+kernel,rfl,by decide+kernel,by decide+kernel⟩
theorem qZ(G:Gs K mg "is_ratio" jk)(g_is_whole:Gd P w K mg base (L2N.CX P w) 1 "is_whole" jj (lift K AY))(m_len:mg "len"=none)(m_isinstance:mg "isinstance"=none)(m_tuple:mg "tuple"=none)(g_common_factor:Gd P w K mg base (L2N.CX P w) 1 "common_factor" cp (lift K sG)):Gd P w K mg base (L2N.CX P w) 2 "is_ratio" jl (lift K (um xB)):=by
 refine Fo.gd (cO qY (fun ws m Q Qx h=>?_) (fun f cdv A outer s H E hr=>⟨_,(ad (aW (DW.dt (dH (bF (aP (cQ m_isinstance (aa (dv 0) (aa (fV (n:="tuple") m_tuple (by decide+kernel)) ac))))) (dH (ay (gZ (u64 hr)) (dm m_len (aa (dv 0) ac)) ah (nomark _)) (dH (bF (aP (av g_is_whole (hr.mono (by omega)) (aw (L2N.takes_of rfl rfl rfl rfl)) (aa (bc (dv 0) ah) ac)))) (du (bF (aP (av g_is_whole (hr.mono (by omega)) (aw (L2N.takes_of rfl rfl rfl rfl)) (aa (bc (dv 0) ah) ac)))))))))
   (af (aq lX))
   aD)
  (af (aq (jx (fH Dr (bc (dv 0) ah) ah (nomark _)) (iN (fH (fX (u64 hr)) (av g_common_factor (hr.mono (by omega)) (aw (L2N.takes_of rfl rfl rfl rfl)) (aa (bc (dv 0) ah) (aa (bc (dv 0) ah) ac))) ah (nomark _))))))),fun ws m Qd Qx h=>?_⟩) [] []) G (fun _ _ _ _ _ _ us hl=>match us,hl with | [_],_=>rfl)
 ·obtain ⟨_,rfl,_⟩:=h
  rfl
 ·obtain ⟨d,rfl,hd,q⟩:=h
  unfold okF at hd
  split at hd
  ·exact ⟨rfl,List.prefix_refl _,q⟩
  ·exact ⟨rfl,List.prefix_refl _,q⟩
  ·rename_i a b
   have e:xB (.tup [.int a,.int b])=(decide (b>0)&&((Int.gcd a b:Nat):Int) == 1):=rfl
   rw [e] at q
   refine ⟨rfl,rfl,rfl,Nat.zero_le _,Nat.zero_le _,.int a,rfl,.int a,rfl,rfl,.int b,rfl,.int b,rfl,rfl,.int b,rfl,aN (fun c=>?_) (fun c=>?_)⟩
   ·have c:decide (b>0)=true:=c
    rw [c] at q
    exact ⟨.int a,rfl,.int b,rfl,a,b,rfl,rfl,rfl,Nat.zero_le _,Nat.zero_le _,List.prefix_refl _,q⟩
   ·have c:decide (b>0)=false:=c
    rw [c] at q
    exact ⟨List.prefix_refl _,q⟩
  ·exact ⟨rfl,rfl,rfl,Nat.zero_le _,Nat.zero_le _,.bl _,rfl,.bl _,rfl,rfl,List.prefix_refl _,q⟩
  ·exact hd.elim
abbrev ia:Stmt:=top 28
abbrev rb:List Str:=["value"]
abbrev ic:List Str:=["value"]
theorem pE:FnScope rb ic (defScope ia):=⟨rfl,rfl,rfl,by decide+kernel,rfl,by decide+kernel,by decide+kernel⟩
theorem pF(G:Gs K mg "is_factor" ia){u:Value}(k_M:mg "MOST_FACTOR"=some u){F:Int}(hF:F=lh)(r_M:RelV (.int F) u)(m_abs:mg "abs"=none)(g_is_ratio:Gd P w K mg base (L2N.CX P w) 2 "is_ratio" jl (lift K (um xB))):Gd P w K mg base (L2N.CX P w) 3 "is_factor" ic (lift K (um fO)):=by
 refine Fo.gd (cO pE (fun ws m Q Qx h=>?_) (fun f cdv A outer s H E hr=>⟨_,(af (aq (jx (av g_is_ratio (hr.mono (by omega)) (aw (L2N.takes_of rfl rfl rfl rfl)) (aa (dv 0) ac)) (jx (yZ mh mh ah (mj m_abs (aa (bc (dv 0) ah) ac)) (j6 k_M r_M (fun _=>.int F))) (iN (fH mh (bc (dv 0) ah) (j6 k_M r_M (fun _=>.int F)) (nomark _))))))),fun ws m Qd Qx h=>?_⟩) [] []) G (fun _ _ _ _ _ _ us hl=>match us,hl with | [_],_=>rfl)
 ·obtain ⟨_,rfl,_⟩:=h
  rfl
 ·obtain ⟨d,rfl,hd,q⟩:=h
  refine ⟨d,rfl,hd,?_⟩
  have hd2:=hd
  unfold okF at hd2
  split at hd2
  ·exact ⟨List.prefix_refl _,q⟩
  ·exact ⟨List.prefix_refl _,q⟩
  ·rename_i a b
   have e:fO (.tup [.int a,.int b])=(xB (.tup [.int a,.int b])&&(decide (0<((a.natAbs:Nat):Int))&&(decide (((a.natAbs:Nat):Int)<F)&&decide (b<F)))):=by rw [hF]; rfl
   rw [e] at q
   refine aN (fun c=>?_) (fun c=>?_)
   ·rw [c] at q
    refine ⟨.int a,rfl,aN (fun c2=>?_) (fun c2=>?_)⟩
    ·have c2:decide (0<((a.natAbs:Nat):Int))=true:=c2
     rw [c2] at q
     refine aN (fun c3=>?_) (fun c3=>?_)
     ·have c3:decide (((a.natAbs:Nat):Int)<F)=true:=c3
      rw [c3] at q
      exact ⟨.int b,rfl,List.prefix_refl _,q⟩
     ·have c3:decide (((a.natAbs:Nat):Int)<F)=false:=c3
      rw [c3] at q
      exact ⟨List.prefix_refl _,q⟩
    ·have c2:decide (0<((a.natAbs:Nat):Int))=false:=c2
     rw [c2] at q
     exact ⟨List.prefix_refl _,q⟩
   ·rw [c] at q
    exact ⟨List.prefix_refl _,q⟩
  ·exact ⟨List.prefix_refl _,q⟩
  ·exact hd2.elim
end
theorem vE{d:D}(h:okI d):(d=.non∨(∃i,d=.int i)∨(∃x,d=.str x)∨∃l,d=.lst l)∨(∃f n,d=.tup [f,n]∧okF f∧xA n)∨∃l,d=.tup l∧l.length≠2:=by
 cases d with
 | non=>exact .inl (.inl rfl)
 | int i=>exact .inl (.inr (.inl ⟨_,rfl⟩))
 | str x=>exact .inl (.inr (.inr (.inl ⟨_,rfl⟩)))
 | lst l=>exact .inl (.inr (.inr (.inr ⟨_,rfl⟩)))
 | tup l=>
  match l,h with
  | [],_=>exact .inr (.inr ⟨_,rfl,by simp⟩)
  | [_],_=>exact .inr (.inr ⟨_,rfl,by simp⟩)
  | [f,n],h=>exact .inr (.inl ⟨f,n,rfl,h.1,h.2⟩)
  | _::_::_::l,_=>exact .inr (.inr ⟨_,rfl,by simp only [List.length_cons]; omega⟩)
 | _=>exact h.elim
theorem zQ{so:Bool}{l:List D}(h:l.length≠2):a9 so (.tup l)=false:=by
 match l,h with
 | [],_=>rfl
 | [_],_=>rfl
 | [_,_],h=>exact absurd rfl h
 | _::_::_::_,_=>rfl
theorem vF{n:D}(h:xA n):b7 n=true∧kY n≤64:=by
 cases n with
 | non=>exact ⟨rfl,Nat.zero_le _⟩
 | int i=>exact ⟨rfl,Nat.zero_le _⟩
 | str x=>exact ⟨rfl,Nat.zero_le _⟩
 | lst l=>
  obtain ⟨h1,h2⟩:=h
  exact ⟨h1,by show depL l+1≤64; exact h2⟩
 | _=>exact h.elim
theorem vG{so:Bool}{n:D}(h:xA n):iU (cG so) n= !((!deq n (.str km))&&((!iU (fun x=>cw wh2 (aA x)) n)&&(so||((!mO.any fun y=>deq y n)&& !iU (fun x=>cw (lr2++tb2) (aA x)) n)))):=by
 cases n with
 | str x=>exact xz so x
 | non=>cases so <;> rfl
 | int i=>cases so <;> rfl
 | lst l=>cases so <;> rfl
 | _=>exact h.elim
theorem zR{so:Bool}{its:List D}{d:D}{j:Nat}(hd:its[j]? =some d)(h:a9 so d=false):aE so (.tup its)=false:=by
 have:its.all (a9 so)=false:=by
  rw [List.all_eq_false]
  exact ⟨d,List.mem_of_getElem? hd,by rw [h]; exact Bool.false_ne_true⟩
 show (_&&(_&&(its.all (a9 so)&&_)))=false
 rw [this]
 simp
theorem xC{so:Bool}{its:List D}{d:D}{j:Nat}(hd:its[j]? =some d)(h:(its.take j).all (a9 so)=true)(h2:a9 so d=true):(its.take (j+1)).all (a9 so)=true:=by
 rw [List.take_succ,hd,List.all_append,h]
 show (true&&(a9 so d&&true))=true
 rw [h2]
 rfl
def rg:SpD:=fun ws m Q _=>∃(d:D) (so:Bool),ws=[.v d,.v (.bl so)]∧okX d∧Q (.v (.bl (aE so d))) m
section
variable {P:Program} {w:World} {K:Frag} {mg:Str→Option Value} {base:Heap}
abbrev cq:Stmt:=top 29
abbrev gA:List Str:=["value","sizes_only","item","name"]
abbrev bB:List Str:=["value","sizes_only"]
abbrev eZ:List (Str×Nat):=[("item",2)]
theorem bj:FnScope gA bB (defScope cq):=⟨rfl,rfl,rfl,by decide+kernel,rfl,by decide+kernel,by decide+kernel⟩
theorem kx(m_len:mg "len"=none){u1 u2 u3:Value}(k_M:mg "MOST_ITEMS"=some u1)(r_M:RelV (.int 6) u1)(c_R:mg "ROOMS"=some u2)(k_R:eu K 3 u2 (.tup mO)=true)(c_C:mg "CONSTANT"=some u3)(k_C:eu K 3 u3 (.str km)=true)(m_isinstance:mg "isinstance"=none)(m_tuple:mg "tuple"=none)(g_is_factor:Gd P w K mg base (L2N.CX P w) 3 "is_factor" ic (lift K (um fO)))(g_is_edge:Gd P w K mg base (L2N.CX P w) 2 "is_edge" ku (lift K (uj fun x=>cw (lr2++tb2) (aA x))))(g_is_size:Gd P w K mg base (L2N.CX P w) 2 "is_size" kq (lift K (uj fun x=>cw wh2 (aA x)))):Fo P w K mg base (L2N.CX P w) 4 "is_expression" cq [] [("sizes_only",.bl false)] bB (lift K rg):=by
 refine cO bj (fun ws m Q Qx h=>?_) (fun f cdv A outer s H E hr=>⟨_,(ad (aW (DW.dt (dH (bF (aP (cQ m_isinstance (aa (dv 0) (aa (fV (n:="tuple") m_tuple (by decide+kernel)) ac))))) (du (bF (qh za za ah (dm m_len (aa (dv 0) ac)) (j6 k_M r_M (fun _=>.int 6)))))))
   (af (aq lX))
   aD)
  (ad (i9 (passes_of rfl) rfl (b8 (dv 0)) (az (i:=2) bj.nd rfl (.inl rfl))
   (ad (aW (DW.dt (dH (bF (aP (cQ m_isinstance (aa (dv 2) (aa (fV (n:="tuple") m_tuple (by decide+kernel)) ac))))) (dH (ay (gZ (u64 hr)) (dm m_len (aa (dv 2) ac)) ah (nomark _)) (du (bF (aP (av g_is_factor (hr.mono (by omega)) (aw (L2N.takes_of rfl rfl rfl rfl)) (aa (bc (dv 2) ah) ac))))))))
    (af (aq lX))
    aD)
   (ad (aC (i:=3) bj.nd rfl (.inl rfl) (bc (dv 2) ah))
   (af (aW (DW.dt (i8 (ay (gZ (u64 hr)) (dv 3) (eA c_C k_C) (nomark _)) (i8 (bF (aP (av g_is_size (hr.mono (by omega)) (aw (L2N.takes_of rfl rfl rfl rfl)) (aa (dv 3) ac)))) (lA (DW.dt (dH (aP (dv 1)) (du (DW.dt (i8 (ay (wS (u65 hr)) (dv 3) (eA c_R k_R) (by rfl)) (lA (bF (aP (av g_is_edge (hr.mono (by omega)) (aw (L2N.takes_of rfl rfl rfl rfl)) (aa (dv 3) ac))))))))))))))
    (af (aq lX))
    aD)))))
  (af (aq (fH (fX (u64 hr)) (zG m_len (own:=eZ) rfl bj.nd (b8 (dv 0)) (blkOk_by (own:=eZ) (N:=gA) (sc:=defScope cq) (by decide+kernel)) (fun _ _ _ _ _=>(az (i:=2) bj.nd rfl (.inl rfl))) (fun _ _ _ _ _=>cN) (fun _ _ _ _ _=>(bc (dv 2) ah))) (dm m_len (aa (dv 0) ac)) (nomark _)))))),fun ws m Qd Qx h=>?_⟩) [] _
 ·obtain ⟨_,_,rfl,_⟩:=h
  rfl
 ·obtain ⟨d,so,rfl,hd,q⟩:=h
  have ln:=sizeLine_eq
  cases d with
  | non=>exact ⟨rfl,List.prefix_refl _,q⟩
  | int i=>exact ⟨rfl,List.prefix_refl _,q⟩
  | str i=>exact ⟨rfl,List.prefix_refl _,q⟩
  | lst l=>exact ⟨rfl,List.prefix_refl _,q⟩
  | tup its=>
   obtain ⟨hl,hi⟩:=hd
   have e0:aE so (.tup its)=(decide (1≤(its.length:Int))&&(decide ((its.length:Int)≤6)&&(its.all (a9 so)&&(((zx (its.map vD)).length:Int) == (its.length:Int))))):=rfl
   refine ⟨rfl,?_⟩
   refine aN (fun c1=>?_) (fun c1=>?_)
   case refine_2=>
    have c1:decide (1≤(its.length:Int))=false:=c1
    rw [e0,c1] at q
    exact ⟨List.prefix_refl _,q⟩
   have c1:decide (1≤(its.length:Int))=true:=c1
   refine aN (fun c2=>?_) (fun c2=>?_)
   ·have c2:decide ((its.length:Int)≤6)=false:=by simpa using c2
    rw [e0,c1,c2] at q
    exact ⟨List.prefix_refl _,q⟩
   have c2:decide ((its.length:Int)≤6)=true:=by simpa using c2
   refine iS (fun i en m'=>m'=m∧(its.take i).all (a9 so)=true∧∃v2 v3,en=[some (.v (.tup its)),some (.v (.bl so)),v2,v3]) ⟨rfl,rfl,none,none,rfl⟩ ?_ ?_
   ·rintro j d en m' N' hd ⟨rfl,ht,v2,v3,rfl⟩ r1 r2 r3 hn
    have ret:a9 so d=false→N'.rt (.v (.bl false)) m':=fun z=>by
     rw [r1]
     rw [zR hd z] at q
     exact ⟨List.prefix_refl _,q⟩
    have nxt:a9 so d=true→∀v2 v3,N'.nx [some (.v (.tup its)),some (.v (.bl so)),v2,v3] m':=fun z v2 v3=>(hn _ _ ⟨rfl,xC hd ht z,v2,v3,rfl⟩).1
    rcases vE (hi d (List.mem_of_getElem? hd)) with (rfl | ⟨_,rfl⟩ | ⟨_,rfl⟩ | ⟨_,rfl⟩) | ⟨fa,n,rfl,hf,hn2⟩ | ⟨l,rfl,l2⟩
    ·exact ⟨rfl,ret rfl⟩
    ·exact ⟨rfl,ret rfl⟩
    ·exact ⟨rfl,ret rfl⟩
    ·exact ⟨rfl,ret rfl⟩
    ·obtain ⟨pn,dn⟩:=vF hn2
     have e1:a9 so (.tup [fa,n])=(fO fa&&iU (cG so) n):=rfl
     rw [e1,vG hn2] at ret nxt
     refine ⟨rfl,rfl,rfl,Nat.zero_le _,Nat.zero_le _,fa,rfl,fa,rfl,hf,aN (fun c3=>?_) (fun c3=>?_)⟩
     ·have c3:fO fa=false:=by simpa using c3
      exact ret (by rw [c3]; rfl)
     have c3:fO fa=true:=by simpa using c3
     rw [c3] at ret nxt
     have one:∀b:Bool,(true&& !b)= !b:=fun b=>by cases b <;> rfl
     rw [one] at ret nxt
     refine ⟨n,rfl,pn,rfl,dn,Nat.zero_le _,aN (fun c4=>?_) (fun c4=>?_)⟩
     case refine_2=>
      have c4:(!deq n (.str km))=false:=c4
      exact nxt (by rw [c4]; rfl) _ _
     have c4:(!deq n (.str km))=true:=c4
     rw [c4] at ret nxt
     refine ⟨n,rfl,hn2,aN (fun c5=>?_) (fun c5=>?_)⟩
     case refine_2=>
      have c5:(!iU (fun x=>cw wh2 (aA x)) n)=false:=c5
      exact nxt (by rw [c5]; rfl) _ _
     have c5:(!iU (fun x=>cw wh2 (aA x)) n)=true:=c5
     rw [c5] at ret nxt
     cases so with
     | true=>exact ret rfl
     | false=>
      refine ⟨pn,rfl,dn,Nat.le_of_ble_eq_true rfl,aN (fun c6=>?_) (fun c6=>?_)⟩
      case refine_2=>
       have c6:(!mO.any fun y=>deq y n)=false:=c6
       exact nxt (by rw [c6]; rfl) _ _
      have c6:(!mO.any fun y=>deq y n)=true:=c6
      rw [c6] at ret nxt
      refine ⟨n,rfl,hn2,aN (fun c7=>?_) (fun c7=>?_)⟩
      ·have c7:(!iU (fun x=>cw (lr2++tb2) (aA x)) n)=true:=c7
       exact ret (by rw [c7]; rfl)
      ·have c7:(!iU (fun x=>cw (lr2++tb2) (aA x)) n)=false:=c7
       exact nxt (by rw [c7]; rfl) _ _
    ·refine ⟨rfl,rfl,rfl,Nat.zero_le _,Nat.zero_le _,?_⟩
     refine d9 ?_ (ret (zQ l2))
     show (!(((l.length:Nat):Int) == 2))=true
     have:¬((l.length:Nat):Int)=2:=by omega
     simpa using this
   ·rintro en m' ⟨rfl,ht,v2,v3,rfl⟩
    rw [List.take_length] at ht
    rw [e0,c1,c2,ht] at q
    have hsb:its.length+1<scanBound:=by
     unfold scanBound
     omega
    refine qV vD (by rw [List.length_nil]; omega) (fun d Qt hdm hq=>?_) ?_
    ·obtain ⟨f2,x,rfl,ek,_⟩:=ul (List.all_eq_true.mp ht d hdm)
     rw [ek] at hq
     exact ⟨.str x,rfl,hq⟩
    ·exact ⟨rfl,rfl,Nat.zero_le _,Nat.zero_le _,List.prefix_refl _,q⟩
  | _=>exact hd.elim
abbrev bv:Stmt:=top 30
abbrev jm:List Str:=["expression"]
abbrev aL:List Str:=["expression"]
theorem dL:FnScope jm aL (defScope bv):=⟨rfl,rfl,rfl,by decide+kernel,rfl,by decide+kernel,by decide+kernel⟩
def mQ(C:Addr):SpD:=fun ws m Q Qx=>∃d:D,ws=[.v d]∧okX d∧match aE false d with
 | true=>Q (.v .non) m
 | false=>Qx ⟨C,erF "InvalidExpression" []⟩ m
theorem iH{C:Addr}(gd_is_expression:Gdd P w K mg base (L2N.CX P w) 4 "is_expression" bB [.bl false] (lift K rg)∧∀B,RvL K B [V.bl false] [.bl false])(c_IE:mg "InvalidExpression"=some (.ref C))(M:OexM P w K mg base 1 C (cb C 0 fun _=>[(("code":Str),V.str "InvalidExpression")])):Fo P w K mg base (L2N.CX P w) 5 "check_expression" bv [] [] aL (lift K (mQ C)):=by
 refine cO dL (fun ws m Q Qx h=>?_) (fun f cdv A outer s H E hr=>⟨_,(af (aW (bF (aP (o4 gd_is_expression (hr.mono (by omega)) (aw (L2N.takes_of rfl rfl rfl rfl)) (aa (dv 0) ac))))
   (af (og M (hr.mono (by omega)) c_IE rfl (L2N.takes_of rfl rfl rfl rfl)))
   aD)),fun ws m Qd Qx h=>?_⟩) [] []
 ·obtain ⟨_,rfl,_⟩:=h
  rfl
 ·obtain ⟨d,rfl,hd,q⟩:=h
  refine ⟨d,false,rfl,hd,aN (fun c=>?_) (fun c=>?_)⟩
  ·have c:aE false d=false:=by simpa using c
   rw [c] at q
   exact ⟨List.prefix_refl _,q⟩
  ·have c:aE false d=true:=by simpa using c
   rw [c] at q
   exact ⟨List.prefix_refl _,q⟩
end
def pG:SpD:=fun ws m Q _=>∃rs:List (List D),ws=[.v (.lst (rs.map .lst))]∧rs.flatten.length≤1000∧Q (.v (.lst rs.flatten)) m
def sO(p:Int×Int):Prop:=0<p.2∧p.2≤10∧p.1.natAbs≤10∧p.1≠0∧Int.gcd p.1 p.2=1
def xE:SpD:=fun ws m Q _=>∃n,ws=[.loc n]∧m[n]? =some .bag∧∀p:Int×Int,sO p→Q (.v (frD p)) m
def dX(a b:Str)(zs:List Str):List Str:=(zs.map fun z=>[z++a,z++b]).flatten
def ig(ax:Nat)(zs:List Str):List Str:=if ax=0 then "room.w"::dX ".left" ".right" zs else "room.h"::dX ".top" ".bottom" zs
def AZ:SpD:=fun ws m Q _=>∃zs:List Str,ws=[.v (.lst (zs.map .str))]∧zs.length≤100∧(∀z∈zs,z.length≤100)∧Q (.v (.lst ((dX ".w" ".h" zs).map .str))) m
def A0:SpD:=fun ws m Q _=>∃(zs:List Str) (ax:Nat),ws=[.v (.lst (zs.map .str)),.v (.int ax)]∧ax<2∧zs.length≤100∧(∀z∈zs,z.length≤100)∧Q (.v (.lst ((ig ax zs).map .str))) m
def mR(zs:List Str)(k:Nat)(its:List D):Prop:=1≤its.length∧its.length≤k∧∀it∈its,∃p z,it=.tup [frD p,.str z]∧sO p∧z∈zs
theorem dY(a b:Str):∀zs,(dX a b zs).length=2 * zs.length
 | []=>rfl
 | z::zs=>by
  show ([z++a,z++b]++dX a b zs).length=_
  rw [List.length_append,dY a b zs,List.length_cons,List.length_cons,List.length_cons,List.length_nil]
  omega
theorem pH{a b:Str}{zs:List Str}{x:Str}(h:x∈dX a b zs):∃z∈zs,x=z++a∨x=z++b:=by
 obtain ⟨l,hl,hx⟩:=List.mem_flatten.mp h
 obtain ⟨z,hz,rfl⟩:=List.mem_map.mp hl
 simp only [List.mem_cons,List.not_mem_nil,or_false] at hx
 exact ⟨z,hz,hx⟩
def uo(a b:Str):D→D
 | .str z=>.lst [.str (z++a),.str (z++b)]
 | _=>.non
theorem mU(a b:Str)(zs:List Str):(zs.map D.str).map (uo a b)=(zs.map fun z=>[D.str (z++a),.str (z++b)]).map .lst:=by
 rw [List.map_map,List.map_map]
 rfl
theorem d8(a b:Str)(zs:List Str):(zs.map fun z=>[D.str (z++a),.str (z++b)]).flatten=(dX a b zs).map .str:=by
 unfold dX
 rw [List.map_flatten,List.map_map]
 rfl
section
variable {P:Program} {w:World} {K:Frag} {mg:Str→Option Value} {base:Heap}
abbrev ii:Stmt:=top 51
abbrev rh:List Str:=["_law_rows","_law_found","_law_row"]
abbrev e9:List Str:=["_law_rows"]
theorem dZ:FnScope rh e9 (defScope ii):=⟨rfl,rfl,rfl,by decide+kernel,rfl,by decide+kernel,by decide+kernel⟩
theorem pI(G:Gs K mg "_law_flat" ii)(m_list:mg "list"=none):Gd P w K mg base (L2N.CX P w) 1 "_law_flat" e9 (lift K pG):=by
 refine Fo.gd (cO dZ (fun ws m Q Qx h=>?_) (fun f cdv A outer s H E hr=>⟨_,(ad (aC (i:=1) dZ.nd rfl (.inl rfl) (cf ac))
  (ad (i9 (passes_of rfl) rfl (b8 (dv 0)) (az (i:=2) dZ.nd rfl (.inl rfl))
   (af (aC (i:=1) dZ.nd rfl (.inl rfl) (aM aG (dv 1) (Bi m_list (aa (dv 2) ac))))))
  (af (aq (dv 1))))),fun ws m Qd Qx h=>?_⟩) [] []) G (fun _ _ _ _ _ _ us hl=>match us,hl with | [_],_=>rfl)
 ·obtain ⟨_,rfl,_⟩:=h
  rfl
 ·obtain ⟨rs,rfl,hl,q⟩:=h
  have ln:=sizeLine_eq
  refine ⟨Nat.zero_le _,?_⟩
  refine iS (fun i en m'=>m'=m∧∃v2,en=[some (.v (.lst (rs.map .lst))),some (.v (.lst (rs.take i).flatten)),v2]) ⟨rfl,none,rfl⟩ ?_ ?_
  ·rintro j d en m' N' hd ⟨rfl,v2,rfl⟩ r1 r2 r3 hn
   rw [List.getElem?_map] at hd
   obtain ⟨r,hr,rfl⟩:=Option.map_eq_some_iff.mp hd
   have e:(rs.take (j+1)).flatten=(rs.take j).flatten++r:=by
    rw [List.take_succ,hr,List.flatten_append]
    simp
   have le:((rs.take j).flatten++r).length≤rs.flatten.length:=by
    rw [←e]
    conv=>rhs; rw [←List.take_append_drop (j+1) rs,List.flatten_append,List.length_append]
    exact Nat.le_add_right _ _
   rw [List.length_append] at le
   refine ⟨by omega,?_⟩
   refine (hn _ _ ⟨rfl,some (.v (.lst r)),?_⟩).1
   rw [e]
   rfl
  ·rintro en m' ⟨rfl,v2,rfl⟩
   rw [List.length_map,List.take_length]
   exact ⟨List.prefix_refl _,q⟩
abbrev fA:Stmt:=top 52
abbrev nN:List Str:=["_law_bag_here","_law_top"]
abbrev fB:List Str:=["_law_bag_here"]
theorem ij:FnScope nN fB (defScope fA):=⟨rfl,rfl,rfl,by decide+kernel,rfl,by decide+kernel,by decide+kernel⟩
theorem mV(G:Gs K mg "_law_factor" fA)(g__law_of:Gd P w K mg base (L2N.CX P w) 2 "_law_of" kh (lift K AW))(g__law_pull:Gd P w K mg base (L2N.CX P w) 1 "_law_pull" br (lift K eT))(g__law_low:Gd P w K mg base (L2N.CX P w) 1 "_law_low" jd (lift K xw)):Gd P w K mg base (L2N.CX P w) 3 "_law_factor" fB (lift K xE):=by
 refine Fo.gd (cO ij (fun ws m Q Qx h=>?_) (fun f cdv A outer s H E hr=>⟨_,(ad (aC (i:=1) ij.nd rfl (.inl rfl) (av g__law_of (hr.mono (by omega)) (aw (L2N.takes_of rfl rfl rfl rfl)) (aa (dv 0) (aa (cf (aa ah (aa ah (aa (zh tD ah) (aa (aM aG ah (av g__law_pull (hr.mono (by omega)) (aw (L2N.takes_of rfl rfl rfl rfl)) (aa (dv 0) (aa ah ac)))) (aa (aM wq (aM wq ah ah) (av g__law_pull (hr.mono (by omega)) (aw (L2N.takes_of rfl rfl rfl rfl)) (aa (dv 0) (aa ah ac)))) ac)))))) ac))))
  (af (aq (av g__law_low (hr.mono (by omega)) (aw (L2N.takes_of rfl rfl rfl rfl)) (aa (dv 1) (aa (av g__law_of (hr.mono (by omega)) (aw (L2N.takes_of rfl rfl rfl rfl)) (aa (dv 0) (aa (cf (aa ah (aa ah (aa ah (aa (aM aG ah (av g__law_pull (hr.mono (by omega)) (aw (L2N.takes_of rfl rfl rfl rfl)) (aa (dv 0) (aa ah ac)))) ac))))) ac))) ac)))))),fun ws m Qd Qx h=>?_⟩) [] []) G (fun _ _ _ _ _ _ us hl=>match us,hl with | [_],_=>rfl)
 ·obtain ⟨_,rfl,_⟩:=h
  rfl
 ·obtain ⟨n,rfl,hm,q⟩:=h
  have ln:=sizeLine_eq
  refine ⟨n,5,rfl,hm,by decide,by decide,fun a a0 a1=>?_⟩
  refine ⟨n,5,rfl,hm,by decide,by decide,fun b b0 b1=>?_⟩
  refine ⟨by show 5≤sizeLine; omega,n,_,[.int 1,.int 1,.int (-1),.int (1+a),.int (0 - 1 - b)],rfl,hm,.inl rfl,by simp,Nat.lt_of_le_of_lt (show 5≤5 by decide) (by decide),fun d hd=>?_⟩
  obtain ⟨t,rfl,t0,t1⟩:∃t:Int,d=.int t∧t≠0∧t.natAbs≤10:=by
   simp only [List.mem_cons,List.not_mem_nil,or_false] at hd
   rcases hd with rfl | rfl | rfl | rfl | rfl
   ·exact ⟨_,rfl,by decide,by decide⟩
   ·exact ⟨_,rfl,by decide,by decide⟩
   ·exact ⟨_,rfl,by decide,by decide⟩
   ·exact ⟨_,rfl,by omega,by omega⟩
   ·exact ⟨_,rfl,by omega,by omega⟩
  refine ⟨n,6,rfl,hm,by decide,by decide,fun c c0 c1=>?_⟩
  refine ⟨by show 4≤sizeLine; omega,n,_,[.int 1,.int 1,.int 2,.int (1+c)],rfl,hm,.inl rfl,by simp,Nat.lt_of_le_of_lt (show 4≤4 by decide) (by decide),fun d hd=>?_⟩
  obtain ⟨e,rfl,e0,e1⟩:∃t:Int,d=.int t∧0<t∧t≤10:=by
   simp only [List.mem_cons,List.not_mem_nil,or_false] at hd
   rcases hd with rfl | rfl | rfl | rfl
   ·exact ⟨_,rfl,by decide,by decide⟩
   ·exact ⟨_,rfl,by decide,by decide⟩
   ·exact ⟨_,rfl,by decide,by decide⟩
   ·exact ⟨_,rfl,by omega,by omega⟩
  have lg:=log2_lt (i:=e) (k:=3) (by omega)
  refine ⟨t,e,rfl,e0,by omega,List.prefix_refl _,q _ ?_⟩
  obtain ⟨k,hk,k0,kg,kt,kb⟩:=xu (t:=t) e0
  refine ⟨by rw [hk]; omega,by rw [hk]; omega,by omega,fun z=>?_,by rw [hk]; exact kg⟩
  have hg:0<Int.gcd t e:=Int.gcd_pos_of_ne_zero_right _ (by omega)
  have e2:nJ t e=(t / ((Int.gcd t e:Nat):Int),e / ((Int.gcd t e:Nat):Int)):=by
   unfold nJ
   rw [if_neg (by omega)]
  rw [e2] at z
  obtain ⟨r,hr⟩:=Int.gcd_dvd_left (a:=t) (b:=e)
  have z:t / ((Int.gcd t e:Nat):Int)=0:=z
  have e3:t / ((Int.gcd t e:Nat):Int)=r:=by
   conv=>lhs; lhs; rw [hr]
   exact Int.mul_ediv_cancel_left _ (by omega)
  rw [e3] at z
  rw [z,Int.mul_zero] at hr
  exact t0 hr
abbrev bJ:Stmt:=top 53
abbrev ff:List Str:=["_law_bag_here","_law_names_here","_law_most","_law_some","_law_name"]
abbrev cV:List Str:=["_law_bag_here","_law_names_here","_law_most"]
abbrev dM:List (Str×Nat):=[("_law_name",4)]
theorem bw:FnScope ff cV (defScope bJ):=⟨rfl,rfl,rfl,by decide+kernel,rfl,by decide+kernel,by decide+kernel⟩
abbrev bK:Stmt:=top 54
abbrev fg:List Str:=["_law_things","_law_thing"]
abbrev cW:List Str:=["_law_things"]
abbrev dN:List (Str×Nat):=[("_law_thing",1)]
theorem cz:FnScope fg cW (defScope bK):=⟨rfl,rfl,rfl,by decide+kernel,rfl,by decide+kernel,by decide+kernel⟩
theorem jn(G:Gs K mg "_law_size_names" bK)(g__law_flat:Gd P w K mg base (L2N.CX P w) 1 "_law_flat" e9 (lift K pG)):Gd P w K mg base (L2N.CX P w) 2 "_law_size_names" cW (lift K AZ):=by
 refine Fo.gd (cO cz (fun ws m Q Qx h=>?_) (fun f cdv A outer s H E hr=>⟨_,(af (aq (av g__law_flat (hr.mono (by omega)) (aw (L2N.takes_of rfl rfl rfl rfl)) (aa (qj (own:=dN) rfl cz.nd (b8 (dv 0)) (blkOk_by (own:=dN) (N:=fg) (sc:=defScope bK) (by decide+kernel)) (fun _ _ _ _ _=>(az (i:=1) cz.nd rfl (.inl rfl))) (fun _ _ _ _ _=>cN) (fun _ _ _ _ _=>(cf (aa (aM aG (dv 1) aj) (aa (aM aG (dv 1) aj) ac))))) ac)))),fun ws m Qd Qx h=>?_⟩) [] []) G (fun _ _ _ _ _ _ us hl=>match us,hl with | [_],_=>rfl)
 ·obtain ⟨_,rfl,_⟩:=h
  rfl
 ·obtain ⟨zs,rfl,hl,hz,q⟩:=h
  have ln:=sizeLine_eq
  have l1:(".w":Str).length=2:=rfl
  have l2:(".h":Str).length=2:=rfl
  refine jC (uo ".w" ".h") (by rw [List.length_map]; show 0+_≤_; omega) (fun d Qt hd hq=>?_) ?_
  ·obtain ⟨z,hz2,rfl⟩:=List.mem_map.mp hd
   have:=hz z hz2
   exact ⟨by omega,by omega,by show 2≤sizeLine; omega,hq⟩
  ·refine ⟨(zs.map fun z=>[D.str (z++".w"),.str (z++".h")]),by rw [List.nil_append,mU],?_,?_⟩
   ·rw [d8,List.length_map,dY]
    omega
   ·rw [d8]
    exact ⟨List.prefix_refl _,q⟩
abbrev bL:Stmt:=top 55
abbrev fh:List Str:=["_law_things","_law_axis","_law_words","_law_thing"]
abbrev cX:List Str:=["_law_things","_law_axis"]
abbrev dO:List (Str×Nat):=[("_law_thing",3)]
theorem bz:FnScope fh cX (defScope bL):=⟨rfl,rfl,rfl,by decide+kernel,rfl,by decide+kernel,by decide+kernel⟩
theorem jo(G:Gs K mg "_law_edge_names" bL)(g__law_flat:Gd P w K mg base (L2N.CX P w) 1 "_law_flat" e9 (lift K pG)):Gd P w K mg base (L2N.CX P w) 2 "_law_edge_names" cX (lift K A0):=by
 refine Fo.gd (cO bz (fun ws m Q Qx h=>?_) (fun f cdv A outer s H E hr=>⟨_,(ad (aC (i:=2) bz.nd rfl (.inr rfl) (bc (cf (aa (cf (aa aj (aa aj ac))) (aa (cf (aa aj (aa aj ac))) ac))) (dv 1)))
  (af (aq (aM aG (cf (aa (bc (cf (aa aj (aa aj ac))) (dv 1)) ac)) (av g__law_flat (hr.mono (by omega)) (aw (L2N.takes_of rfl rfl rfl rfl)) (aa (qj (own:=dO) rfl bz.nd (b8 (dv 0)) (blkOk_by (own:=dO) (N:=fh) (sc:=defScope bL) (by decide+kernel)) (fun _ _ _ _ _=>(az (i:=3) bz.nd rfl (.inl rfl))) (fun _ _ _ _ _=>cN) (fun _ _ _ _ _=>(cf (aa (aM aG (dv 3) (bc (dv 2) ah)) (aa (aM aG (dv 3) (bc (dv 2) ah)) ac))))) ac)))))),fun ws m Qd Qx h=>?_⟩) [] []) G (fun _ _ _ _ _ _ us hl=>match us,hl with | [_,_],_=>rfl)
 ·obtain ⟨_,_,rfl,_⟩:=h
  rfl
 ·obtain ⟨zs,ax,rfl,hax,hl,hz,q⟩:=h
  have ln:=sizeLine_eq
  have hx:ax=0∨ax=1:=by omega
  rcases hx with rfl | rfl
  ·refine ⟨by show 2≤sizeLine; omega,by show 2≤sizeLine; omega,by show 2≤sizeLine; omega,.lst [.str ".left",.str ".right"],rfl,by show 2≤sizeLine; omega,.str "room.w",rfl,by show 1≤sizeLine; omega,?_⟩
   have la:(".left":Str).length≤10:=by decide
   have lb:(".right":Str).length≤10:=by decide
   refine jC (uo ".left" ".right") (by rw [List.length_map]; show 0+_≤_; omega) (fun d Qt hd hq=>?_) ?_
   ·obtain ⟨z,hz2,rfl⟩:=List.mem_map.mp hd
    have:=hz z hz2
    exact ⟨.str ".left",rfl,by omega,.str ".right",rfl,by omega,by show 2≤sizeLine; omega,hq⟩
   ·refine ⟨(zs.map fun z=>[D.str (z++".left"),.str (z++".right")]),by rw [List.nil_append,mU],?_,?_⟩
    ·rw [d8,List.length_map,dY]
     omega
    ·rw [d8]
     refine ⟨?_,List.prefix_refl _,q⟩
     rw [List.length_map,dY]
     show 1+_≤_
     omega
  ·refine ⟨by show 2≤sizeLine; omega,by show 2≤sizeLine; omega,by show 2≤sizeLine; omega,.lst [.str ".top",.str ".bottom"],rfl,by show 2≤sizeLine; omega,.str "room.h",rfl,by show 1≤sizeLine; omega,?_⟩
   have la:(".top":Str).length≤10:=by decide
   have lb:(".bottom":Str).length≤10:=by decide
   refine jC (uo ".top" ".bottom") (by rw [List.length_map]; show 0+_≤_; omega) (fun d Qt hd hq=>?_) ?_
   ·obtain ⟨z,hz2,rfl⟩:=List.mem_map.mp hd
    have:=hz z hz2
    exact ⟨.str ".top",rfl,by omega,.str ".bottom",rfl,by omega,by show 2≤sizeLine; omega,hq⟩
   ·refine ⟨(zs.map fun z=>[D.str (z++".top"),.str (z++".bottom")]),by rw [List.nil_append,mU],?_,?_⟩
    ·rw [d8,List.length_map,dY]
     omega
    ·rw [d8]
     refine ⟨?_,List.prefix_refl _,q⟩
     rw [List.length_map,dY]
     show 1+_≤_
     omega
abbrev bG:Stmt:=top 57
abbrev gD:List Str:=["_law_bag_here","_law_things","_law_names_here"]
abbrev bH:List Str:=["_law_bag_here","_law_things"]
theorem cY:FnScope gD bH (defScope bG):=⟨rfl,rfl,rfl,by decide+kernel,rfl,by decide+kernel,by decide+kernel⟩
def jp(zs:List Str):List Str:=ig 0 zs++ig 1 zs++dX ".w" ".h" zs++[("one":Str)]
theorem xF(zs:List Str):(ig 0 zs).length=1+2 * zs.length∧(ig 1 zs).length=1+2 * zs.length:=by
 constructor
 ·show (dX ".left" ".right" zs).length+1=_
  rw [dY]
  omega
 ·show (dX ".top" ".bottom" zs).length+1=_
  rw [dY]
  omega
theorem xG{zs:List Str}(hz:∀z∈zs,z.length≤100):∀x∈jp zs,x.length≤200:=fun x hx=>by
 have suf:∀a b:Str,a.length≤10→b.length≤10→x∈dX a b zs→x.length≤200:=fun a b la lb h=>by
  obtain ⟨z,h1,h2⟩:=pH h
  have:=hz z h1
  rcases h2 with rfl | rfl <;> (rw [Str.length_append]; omega)
 unfold jp at hx
 rcases List.mem_append.mp hx with hx | hx
 ·rcases List.mem_append.mp hx with hx | hx
  ·rcases List.mem_append.mp hx with hx | hx
   ·rcases List.mem_cons.mp (show x∈("room.w":Str)::dX ".left" ".right" zs from hx) with rfl | hx
    ·decide
    ·exact suf _ _ (by decide) (by decide) hx
   ·rcases List.mem_cons.mp (show x∈("room.h":Str)::dX ".top" ".bottom" zs from hx) with rfl | hx
    ·decide
    ·exact suf _ _ (by decide) (by decide) hx
  ·exact suf _ _ (by decide) (by decide) hx
 ·rw [List.mem_singleton.mp hx]
  decide
end
theorem xH{n:Nat}(h:n≤10 ^ 12):n<10 ^ 100:=by
 have:(10:Nat) ^ 12<10 ^ 100:=Nat.pow_lt_pow_right (by decide) (by decide)
 omega
theorem zS{p:Int×Int}(h:sO p):okF (frD p):=by
 obtain ⟨h1,h2,h3,_⟩:=h
 refine ⟨xH ?_,xH ?_⟩
 ·exact Nat.le_trans h3 (by decide)
 ·exact Nat.le_trans (show p.2.natAbs≤10 by omega) (by decide)
theorem xI{zs:List Str}{k:Nat}{its:List D}(hz:∀z∈zs,z.length≤20000)(h:mR zs k its):∀it∈its,okI it:=fun it hi=>by
 obtain ⟨p,z,rfl,hp,hzz⟩:=h.2.2 it hi
 exact ⟨zS hp,hz z hzz⟩
theorem xJ{zs:List Str}{its:List D}(hz:∀z∈zs,z.length≤20000)(h:mR zs 6 its):okX (.tup its):=⟨Nat.le_trans h.2.1 (by decide),xI hz h⟩
section
variable {P:Program} {w:World} {K:Frag} {mg:Str→Option Value} {base:Heap}
end
abbrev XT:=List ((Int×Int)×Str)
abbrev itD(x:(Int×Int)×Str):D:=.tup [frD x.1,.str x.2]
inductive F2R {α β:Type} (R:α→β→Prop):List α→List β→Prop
 | nil:F2R R [] []
 | cons {a:α} {b:β} {as:List α} {bs:List β}:R a b→F2R R as bs→F2R R (a::as) (b::bs)
theorem F2R.len{α β:Type}{R:α→β→Prop}:∀{as:List α} {bs:List β},F2R R as bs→as.length=bs.length
 | _,_,.nil=>rfl
 | _,_,.cons _ t=>congrArg (·+1) t.len
theorem F2R.right{α β:Type}{R:α→β→Prop}{b:β}:∀{as:List α} {bs:List β},F2R R as bs→b∈bs→∃a∈as,R a b
 | _,_,.nil,h=>by cases h
 | _,_,.cons r t,h=>by
  rcases List.mem_cons.mp h with h | h
  ·rw [h]
   exact ⟨_,List.mem_cons_self,r⟩
  ·obtain ⟨a,ha,q⟩:=t.right h
   exact ⟨a,List.mem_cons_of_mem _ ha,q⟩
theorem F2R.left{α β:Type}{R:α→β→Prop}{a:α}:∀{as:List α} {bs:List β},F2R R as bs→a∈as→∃b∈bs,R a b
 | _,_,.nil,h=>by cases h
 | _,_,.cons r t,h=>by
  rcases List.mem_cons.mp h with h | h
  ·rw [h]
   exact ⟨_,List.mem_cons_self,r⟩
  ·obtain ⟨a,ha,q⟩:=t.left h
   exact ⟨a,List.mem_cons_of_mem _ ha,q⟩
theorem uq{α β:Type}{R:α→β→Prop}{g:DTG}{te:DTE}{en:En}{m0:Me}{e:α→D}{f:β→D}:∀{xs:List α} {acc:List D} {m:Me} {Q:W→Me→Prop},m0<+:m→acc.length+xs.length≤sizeLine→
  (∀a∈xs,∀m,m0<+:m→∀Qt:W→Me→Prop,(∀b m',m<+:m'→R a b→Qt (.v (f b)) m')→g (.v (e a)) en m fun en1 m1=>te en1 m1 Qt noX)→(∀bs m',m0<+:m'→F2R R xs bs→Q (.v (.lst (acc++bs.map f))) m')→lcL g tYs te en (xs.map e) acc m Q
 | [],acc,m,Q,hm,_,_,q=>by
  have z:=q [] m hm .nil
  rw [List.map_nil,List.append_nil] at z
  exact z
 | x::xs,acc,m,Q,hm,hl,h,q=>by
  rw [List.length_cons] at hl
  refine h x List.mem_cons_self m hm _ fun b m' hm' r=>⟨by omega,?_⟩
  refine uq (R:=R) (f:=f) (xs:=xs) (hm.trans hm') (by rw [List.length_append,List.length_singleton]; omega) (fun a ha=>h a (List.mem_cons_of_mem _ ha)) fun bs m'' hm'' rs=>?_
  rw [List.append_assoc]
  exact q (b::bs) m'' hm'' (.cons r rs)
abbrev xD(xs:XT):D:=.tup (xs.map itD)
def rj:SpD:=fun ws m Q _=>∃(n:Nat) (ds:List D),ws=[.loc n,.v (.lst ds)]∧m[n]? =some .bag∧ds.length≤1000∧∀es:List D,es.Perm ds→Q (.v (.lst es)) m
theorem DQ{m m':Me}{n:Nat}{a:MO}(h:m<+:m')(e:m[n]? =some a):m'[n]? =some a:=by
 obtain ⟨t,rfl⟩:=h
 exact oZ e
def unS:D→Str
 | .str x=>x
 | _=>""
theorem BG{zs:List Str}:(zs.map D.str).map unS=zs:=by
 rw [List.map_map]
 exact List.map_id _
theorem xK{zs:List Str}{es:List D}(h:es.Perm (zs.map .str)):∃ys:List Str,es=ys.map .str∧ys.Perm zs:=by
 refine ⟨es.map unS,?_,?_⟩
 ·rw [List.map_map]
  have e:∀d∈es,(D.str ∘ unS) d=d:=fun d hd=>by
   obtain ⟨x,_,rfl⟩:=List.mem_map.mp (h.mem_iff.mp hd)
   rfl
  rw [List.map_congr_left e,List.map_id']
 ·have z:=h.map unS
  rw [BG] at z
  exact z
section
variable {P:Program} {w:World} {K:Frag} {mg:Str→Option Value} {base:Heap}
theorem mW(G:Gs K mg "_law_mixed" gj)(m_len:mg "len"=none)(g__law_pull:Gd P w K mg base (L2N.CX P w) 1 "_law_pull" br (lift K eT)):Gd P w K mg base (L2N.CX P w) 2 "_law_mixed" gl (lift K rj):=by
 refine Fo.gd (cO fy (fun ws m Q Qx h=>?_) (fun f cdv A outer s H E hr=>⟨_,(ad (aC (i:=2) fy.nd rfl (.inl rfl) (l8 ac))
  (ad (i9 (passes_of rfl) rfl (b8 (dv 1)) (az (i:=3) fy.nd rfl (.inl rfl))
   (af (cM (wR (dv 2) (aa (av g__law_pull (hr.mono (by omega)) (aw (L2N.takes_of rfl rfl rfl rfl)) (aa (dv 0) (aa (aM aG (dm m_len (aa (dv 2) ac)) ah) ac))) (aa (dv 3) ac))))))
  (oO 2 (af (aq (dv 2)))))),fun ws m Qd Qx h=>?_⟩) [] []) G (fun _ _ _ _ _ _ us hl=>match us,hl with | [_,_],_=>rfl)
 ·obtain ⟨_,_,rfl,_⟩:=h
  rfl
 ·obtain ⟨n,ds,rfl,hm,hl,q⟩:=h
  have ln:=sizeLine_eq
  refine ⟨Nat.zero_le _,?_⟩
  refine iS (fun i en m'=>∃v3,∃es:List D,en=[some (.loc n),some (.v (.lst ds)),some (.loc m.length),v3]∧m'=m++[.lst es]∧es.Perm (ds.take i)) ⟨none,[],rfl,rfl,.nil⟩ ?_ ?_
  ·rintro j d en m' N' hd ⟨v3,es,rfl,rfl,pe⟩ r1 r2 r3 hn
   have hj:=(List.getElem?_eq_some_iff.mp hd).1
   have el:es.length=j:=by rw [pe.length_eq,List.length_take]; omega
   refine ⟨aQ trivial,?_⟩
   refine ow ?_
   refine ⟨n,(es.length:Int)+1,rfl,oZ hm,by omega,by omega,fun r r0 r1=>?_⟩
   refine aQ ⟨by omega,r0,by omega,?_⟩
   rw [ci]
   refine (hn _ _ ⟨_,_,rfl,rfl,?_⟩).1
   have tk:ds.take (j+1)=ds.take j++[d]:=by
    rw [List.take_add_one,hd]
    rfl
   rw [tk]
   refine List.Perm.trans ?_ (pe.append_right [d])
   have z:(es.take r.toNat++[d]++es.drop r.toNat).Perm (es.take r.toNat++es.drop r.toNat++[d]):=by
    rw [List.append_assoc,List.append_assoc]
    exact List.Perm.append_left _ List.perm_append_comm
   rw [List.take_append_drop] at z
   exact z
  ·rintro en m' ⟨v3,es,rfl,rfl,pe⟩
   dsimp only
   refine qw rfl ?_
   rw [List.take_length] at pe
   exact ⟨List.prefix_append _ _,q es pe⟩
def zT(zs:List Str)(k:Nat)(xs:XT):Prop:=1≤xs.length∧xs.length≤k∧(∀x∈xs,sO x.1∧x.2∈zs)∧(zs.Nodup→(xs.map (·.2)).Nodup)
def ur:SpD:=fun ws m Q _=>∃(n:Nat) (zs:List Str) (k:Nat),ws=[.loc n,.v (.lst (zs.map .str)),.v (.int k)]∧m[n]? =some .bag∧zs≠[]∧zs.length≤1000∧0<k∧k≤100∧∀xs,zT zs k xs→Q (.v (xD xs)) m
theorem rm:∀{ys:List Str} {xs:XT},F2R (fun (z:Str) (x:(Int×Int)×Str)=>x.2=z∧sO x.1) ys xs→xs.map (·.2)=ys
 | _,_,.nil=>rfl
 | _,_,.cons r t=>by rw [List.map_cons,r.1,rm t]
theorem iI(G:Gs K mg "_law_expression" bJ)(g__law_mixed:Gd P w K mg base (L2N.CX P w) 2 "_law_mixed" gl (lift K rj))(g__law_pull:Gd P w K mg base (L2N.CX P w) 1 "_law_pull" br (lift K eT))(m_tuple:mg "tuple"=none)(g__law_factor:Gd P w K mg base (L2N.CX P w) 3 "_law_factor" fB (lift K xE)):Gd P w K mg base (L2N.CX P w) 4 "_law_expression" cV (lift K ur):=by
 refine Fo.gd (cO bw (fun ws m Q Qx h=>?_) (fun f cdv A outer s H E hr=>⟨_,(ad (aC (i:=3) bw.nd rfl (.inl rfl) (cP (av g__law_mixed (hr.mono (by omega)) (aw (L2N.takes_of rfl rfl rfl rfl)) (aa (dv 0) (aa (dv 1) ac))) jz (aZ (aM aG ah (av g__law_pull (hr.mono (by omega)) (aw (L2N.takes_of rfl rfl rfl rfl)) (aa (dv 0) (aa (dv 2) ac)))))))
  (af (aq (oX m_tuple (aa (qj (own:=dM) rfl bw.nd (b8 (dv 3)) (blkOk_by (own:=dM) (N:=ff) (sc:=defScope bJ) (by decide+kernel)) (fun _ _ _ _ _=>(az (i:=4) bw.nd rfl (.inl rfl))) (fun _ _ _ _ _=>cN) (fun _ _ _ _ _=>(bQ (aa (av g__law_factor (hr.mono (by omega)) md (aa (dv 0) ac)) (aa (dv 4) ac))))) ac))))),fun ws m Qd Qx h=>?_⟩) [] []) G (fun _ _ _ _ _ _ us hl=>match us,hl with | [_,_,_],_=>rfl)
 ·obtain ⟨_,_,_,rfl,_⟩:=h
  rfl
 ·obtain ⟨n,zs,k,rfl,hm,hz,hl,k0,k1,q⟩:=h
  have ln:=sizeLine_eq
  refine ⟨n,zs.map .str,rfl,hm,by rw [List.length_map]; omega,fun es pe=>?_⟩
  obtain ⟨ys,rfl,py⟩:=xK pe
  refine ⟨n,k,rfl,hm,by omega,Int.lt_of_lt_of_le (show (k:Int)<101 by omega) (by decide),fun r r0 r1=>?_⟩
  obtain ⟨rn,rfl⟩:∃j:Nat,r=j:=⟨r.toNat,by omega⟩
  have e1:(1:Int)+(rn:Int)=((1+rn:Nat):Int):=by omega
  have ec:kZ (ys.map .str) none (some ((1:Int)+(rn:Int)))=(ys.take (1+rn)).map .str:=by rw [e1,tO,List.map_take]
  have zl:0<zs.length:=List.length_pos_iff.mpr hz
  have yl:ys.length=zs.length:=py.length_eq
  have tl:(ys.take (1+rn)).length=min (1+rn) zs.length:=by rw [List.length_take,yl]
  show lcL (gN 4) tYs _ _ (kZ (ys.map .str) none (some ((1:Int)+(rn:Int)))) [] _ _
  rw [ec]
  refine uq (R:=fun (z:Str) (x:(Int×Int)×Str)=>x.2=z∧sO x.1) (f:=itD) (m0:=m) (List.prefix_refl _) (by rw [List.length_nil,Nat.zero_add,tl]; omega) (fun z hz2 mm hmm Qt hq=>?_) (fun xs m' hm' rs=>?_)
  ·exact ⟨n,rfl,DQ hmm hm,fun p hp=>⟨by show 2≤sizeLine; omega,hq (p,z) mm (List.prefix_refl _) ⟨rfl,hp⟩⟩⟩
  ·have nm:=rm rs
   have xl:xs.length=(ys.take (1+rn)).length:=rs.len.symm
   refine ⟨hm',q xs ⟨by omega,by omega,fun x hx=>?_,fun nd=>?_⟩⟩
   ·obtain ⟨z,hz2,e,lp⟩:=rs.right hx
    refine ⟨lp,?_⟩
    rw [e]
    exact py.mem_iff.mp (List.mem_of_mem_take hz2)
   ·rw [nm]
    exact (List.take_sublist _ _).nodup (py.nodup_iff.mpr nd)
end
structure SuScope (N P:List Str) (sc:Scope):Prop where
 kind:sc.kind=.function
 co:sc.isCoroutine=false
 gen:sc.isGenerator=false
 nd:N.Nodup
 pre:N.take P.length=P
 par:∀x∈P,sc.names.lookup x=some .local
 nocell:∀y∈sc.names,y.2≠ .cell
 free:∀y∈sc.names,y.2=.free→y.1="__class__"
 sup:sc.names.lookup ("super":Str)=some .globalImplicit
 cls:sc.names.lookup ("__class__":Str)=some .free
section
variable {CX:CXT} {P:Program} {w:World} {K:Frag} {mg:Str→Option Value} {base:Heap} {N ps:List Str} {qual:Str} {scope:Scope} {f cc:Addr} {cd:Value} {A:Around} {outer:List Env} {s:Shared} {H:Hp} {E:XK} {us:List Value} {vs:List V}
end
structure PAt (X:Cx) (body:List Stmt) (st:Stmt) (t:TS):Prop where
 run:∀(pins:List (Addr×Obj)) (s:Shared) (σ:L2.St) (H:Hp) (D:Ends),Inv X pins σ H s→t D σ H→_root_.PySem.wpAt (model X.prog X.w) X.A (.func body X.env) (exec st X.env) (SP X pins D) X.xe s
structure FunS (K:Frag) (file:Str) (x qual:Str) (params:Arguments) (body:List Stmt) (scope:Scope) (D:Addr) (f cda cc:Addr) (fd:FuncData):Prop where
 ex:∃(oc:Value) (od:Option Addr) (kV doc pm:Value) (an:Option Addr) (ct:Value) (osl:Array (Option Value)),
  fd=PySem.W.ksFn x qual params body scope .none kV doc pm an (.ref cda) ct cc∧K.lookup f=some ⟨oc,od,.func fd,osl⟩
 code:PySem.W.codeIn K (.ref cda) qual=true
 cell:∃cl cld csl,K.lookup cc=some ⟨cl,cld,.cell (some (.ref D)),csl⟩
 file:∃ccl cdd vs ccs tf,K.lookup cda=some ⟨ccl,cdd,.fields vs,ccs⟩∧vs[2]? =some (.str file tf)
 cls:∃cdD,PySem.W.clsIn K D=some cdD
 kp:PySem.W.keepIn K (.ref f)=true
theorem FunS.bindsN{K:Frag}{file x qual:Str}{params:Arguments}{body:List Stmt}{scope:Scope}{D f cda cc:Addr}{fd:FuncData}{ps:List Str}(F:FunS K file x qual params body scope D f cda cc fd)
  (h:∀(kV doc pm:Value) (an:Option Addr) (ct:Value) (us:List Value),us.length=ps.length→bindArgs (PySem.W.ksFn x qual params body scope .none kV doc pm an (.ref cda) ct cc) ⟨us,[]⟩=pure (ps.zip us)):Binds K fd ps []:=by
 obtain ⟨oc,od,kV,doc,pm,an,ct,osl,rfl,lk⟩:=F.ex
 exact .all (h kV doc pm an ct)
structure SupM (K:Frag) (C D:Addr) (m:Str) (f2:Addr):Prop where
 st:PySem.W.nsIn K PySem.cStatics "thirdparty.any"=some none
 sub:PySem.W.mroIn K C (.ref D)=some true
 at_:PySem.W.ks_superIn K C D m=some (some (.ref f2))
 fn:PySem.W.fnIn K f2=true
 ty:PySem.W.typeIn K (.ref f2)=some (.type "function")
section
open PySem.W
variable {CX:CXT} {P:Program} {w:World} {K:Frag} {mg:Str→Option Value} {base:Heap} {N ps:List Str} {name qual file:Str} {params:Arguments} {body:List Stmt} {scope:Scope} {C D f f2 cda cc:Addr} {A:Around} {outer:List Env} {s0:Shared} {H0:Hp} {E0 E:XK} {fd fd2:FuncData} {ps2:List Str} {sp2:Sp} {k:Nat} {m:Str} {ar:Arg}
end
section
variable {K:Frag} {B:Hp} {μ:List Addr}
theorem RWf.look{f:Str}{y:W}:∀{vs:List (Str×V)} {ws:List (Str×W)},RWf K B μ vs ws→ws.lookup f=some y→∃u,vs.lookup f=some u∧RW K B μ u y
 | _,_,.nil,h=>by cases h
 | _,_,.cons (k:=g) (v:=v) (vs:=vs) r t,h=>by
  rw [List.lookup_cons] at h ⊢
  by_cases c:(f == g)=true
  ·rw [c] at h ⊢
   cases h
   exact ⟨_,rfl,r⟩
  ·have c:(f == g)=false:=by simpa using c
   rw [c] at h ⊢
   exact RWf.look t h
theorem RWf.look_none{f:Str}:∀{vs:List (Str×V)} {ws:List (Str×W)},RWf K B μ vs ws→ws.lookup f=none→vs.lookup f=none
 | _,_,.nil,h=>rfl
 | _,_,.cons (k:=g) (v:=v) (vs:=vs) r t,h=>by
  rw [List.lookup_cons] at h ⊢
  by_cases c:(f == g)=true
  ·rw [c] at h
   cases h
  ·have c:(f == g)=false:=by simpa using c
   rw [c] at h ⊢
   exact RWf.look_none t h
end
structure GmD (P:Program) (w:World) (K:Frag) (mg:Str→Option Value) (base:Heap) (k:Nat) (C:Addr) (m:Str) (dv:List D) (sp:SpD):Prop where
 cls:Cls K C
 ex:∃f fd ps dvs ds,Meth K C m f∧Vals dvs ds∧(∀B:Hp,RvL K B dvs dv)∧Binds K fd ps ds∧FnOk P w K mg base (L2N.CX P w) k f fd ps (lift K sp)
theorem xL{K:Frag}{B:Hp}{μ:List Addr}:∀{vs:List V} {ds:List D},RvL K B vs ds→RWs K B μ vs (ds.map .v)
 | _,_,.nil=>.nil
 | _,_,.cons r t=>.cons r (xL t)
theorem RWs.app{K:Frag}{B:Hp}{μ:List Addr}:∀{vs us:List V} {xs ys:List W},RWs K B μ vs xs→RWs K B μ us ys→RWs K B μ (vs++us) (xs++ys)
 | _,_,_,_,.nil,h=>h
 | _,_,_,_,.cons r t,h=>.cons r (RWs.app t h)
section
variable {X:Cx} {E:XK} {x:Str} {C:Addr} {k:Nat} {sp:SpD} {e o:Expr} {es:List Expr} {ta:DTA} {p pos apos:Pos}
def DR(C:Addr)(sp:SpD)(ta:DTA):DTE:=fun en m Q Qx=>ta en m (fun xs m1=>sp (.loc m1.length::xs) (m1++[.ins C []]) (fun r m2=>r=.v .non∧Q (.loc m1.length) m2) Qx) Qx
theorem C4(G:GmC X.prog X.w X.K X.mg X.base k x C sp)(hr:Room (k+1) X.A)(hx:Passes (L2N.CX X.prog X.w) X E)(ha:DA X E (e::es) ta)(hg:Gl X x:=by rfl)(hdb:(x == ("__debug__":Str))=false:=by decide)
  (he:starEach (e::es) X.env=(false,eval e X.env)::starEach es X.env:=by rfl) (hpl:(backTo pos (starEach es X.env)).any (·.1)=false:=by rfl):DE X E (.Call (.Name x p) (e::es) [] pos) (DR C sp ta):=by
 obtain ⟨t1,p1,k1⟩:=ha.ex
 obtain ⟨f,fd,ps,hm,M,hb,F⟩:=G.ex
 refine ⟨_,pe_make M F hr hg hm hb .nil hx p1 hdb he hpl,fun B μ en m σ H Q Qx QV R hx' T kk=>?_⟩
 refine k1 B μ en m σ H _ Qx _ R hx' T fun B1 μ1 m1 H1 xs vs s1 R1 r h=>?_
 intro a dx na nd da
 rw [List.append_nil]
 have M1:=R1.mem
 obtain ⟨nbd,nld⟩:=M1.none nd
 have kp0:∀b o,b≠dx→H1 b=some o→upd H1 dx (.own a) b=some o:=fun b o c e=>by rw [upd_ne c]; exact e
 have s0:Stp B1 μ1 m1 H1 B1 μ1 m1 (upd H1 dx (.own a)):=Stp.refl.touch nd kp0
 have M0:=M1.touch nbd nld kp0
 have na0:upd H1 dx (.own a) a=none:=by rw [upd_ne da.symm]; exact na
 have kp:∀b o,b≠a→upd H1 dx (.own a) b=some o→upd (upd H1 dx (.own a)) a (.ins C dx []) b=some o:=fun b o c e=>by rw [upd_ne c]; exact e
 have s2:=Stp.push M0 na0 (m:=.ins C []) kp
 have M2:=M0.push na0 (m:=.ins C []) (fun b o e=>kp b o (ne_of_none (M0.le b o e) na0) (M0.le b o e)) kp ⟨dx,[],upd_same,.nil⟩
 have s01:=s0.trans M0 s2 M1.le
 have ha:(μ1++[a])[m1.length]? =some a:=by rw [←M1.len]; simp
 have stA:=s1.trans M1 s01 R.mem.le
 refine ⟨B1,μ1++[a],m1++[.ins C []],.loc m1.length::xs,_,Qx,M2,.cons ⟨a,rfl,ha⟩ (r.to (Same.refl _) (List.prefix_append _ _)),h,hx'.step stA M2 R.mem.le,fun B' μ' m' H' y v s' M' ry q=>?_⟩
 obtain ⟨rfl,q⟩:=q
 cases (show Rv X.K B' v .non from ry)
 have st:=stA.trans M2 s' R.mem.le
 exact ⟨rfl,kk B' μ' m' H' (.loc m1.length) _ st (R.stp st M') ⟨a,rfl,de s'.pre ha⟩ q⟩
def vH(K:Frag)(f:Str)(te:DTE):DTE:=fun en m Q Qx=>te en m (fun x m1=>∃n C fs y,x=.loc n∧m1[n]? =some (.ins C fs)∧Cls K C∧NoAttr K C f∧fs.lookup f=some y∧Q y m1) Qx
theorem C5{f:Str}{e:Expr}{te:DTE}{pos:Pos}(he:DE X E e te)(hb:attributeBase e f X.env (eval e X.env)=eval e X.env:=by rfl):DE X E (.Attribute e f pos) (vH X.K f te):=by
 obtain ⟨t1,p1,k1⟩:=he.ex
 refine ⟨_,pe_fld p1 hb,fun B μ en m σ H Q Qx QV R hx T kk=>?_⟩
 refine k1 B μ en m σ H _ Qx _ R hx T fun B1 μ1 m1 H1 x v s1 R1 r q=>?_
 obtain ⟨n,C,fs,y,rfl,hm,cl,na,hl,q⟩:=q
 obtain ⟨a,rfl,ha⟩:=r
 obtain ⟨dx,vs,hv,rf⟩:=R1.mem.at_ n a _ ha hm rfl
 obtain ⟨u,hu,ru⟩:=RWf.look rf hl
 exact ⟨_,C,_,_,u,rfl,hv,cl,na,hu,kk B1 μ1 m1 H1 y u s1 R1 ru q⟩
theorem aR(K:Frag)(i:Nat){x f:Str}{p pos:Pos}(hN:X.N[i]? =some x:=by rfl)(hv:Vis X.env.scope x:=by first | exact Or.inl rfl | exact Or.inr (Or.inl rfl) | exact Or.inr (Or.inr rfl))(hd:(x == ("__debug__":Str))=false:=by decide)(hcd:(x == ("__classdict__":Str))=false:=by decide)
  (hb:attributeBase (.Name x p) f X.env (eval (.Name x p) X.env)=eval (.Name x p) X.env:=by rfl) (hK:X.K=K:=by rfl):DE X E (.Attribute (.Name x p) f pos) (vH K f (tV i)):=hK ▸C5 (dv i hN hv hd hcd) hb
def fi(C:Addr)(mn:Str)(dv:List D)(sp:SpD)(to:DTE)(ta:DTA):DTE:=fun en m Q Qx=>to en m (fun x m1=>∃n fs,x=.loc n∧m1[n]? =some (.ins C fs)∧fs.lookup mn=none∧ta en m1 (fun xs m2=>sp (x::(xs++dv.map .v)) m2 Q Qx) Qx) Qx
theorem di{mn:Str}{dv:List D}{to:DTE}{pl:Sem Bool}(G:GmD X.prog X.w X.K X.mg X.base k C mn dv sp)(hr:Room k X.A)(hx:Passes (L2N.CX X.prog X.w) X E)(ho:DE X E o to)(ha:DA X E (e::es) ta)
  (hst:starEach (e::es) X.env=(false,eval e X.env)::starEach es X.env:=by rfl) (hpl:(backTo pos (starEach es X.env)).any (·.1)=false:=by rfl)
  (ht:eval (.Call (.Attribute o mn apos) (e::es) [] pos) X.env=(do
   let ov ←eval o X.env
   standAt apos.atName
   let (f,first) ←holding [ov] (getMethod ov mn pl)
   callWith pos f first (backTo pos (starEach (e::es) X.env)) (backToKw pos (keywordEach [] X.env))):=by rfl):DE X E (.Call (.Attribute o mn apos) (e::es) [] pos) (fi C mn dv sp to ta):=by
 obtain ⟨t1,p1,k1⟩:=ho.ex
 obtain ⟨t2,p2,k2⟩:=ha.ex
 obtain ⟨f,fd,ps,dvs,ds,hm,hd,hdv,hb,F⟩:=G.ex
 refine ⟨_,pe_meth p1 G.cls hm F hr hb hd hx p2 hst hpl ht,fun B μ en m σ H Q Qx QV R hx' T kk=>?_⟩
 refine k1 B μ en m σ H _ Qx _ R hx' T fun B1 μ1 m1 H1 y v s1 R1 r q=>?_
 obtain ⟨n,fs,rfl,hmn,nl,q⟩:=q
 obtain ⟨a,rfl,han⟩:=r
 obtain ⟨dx,vs,hv,rf⟩:=R1.mem.at_ n a _ han hmn rfl
 refine ⟨a,dx,vs,rfl,hv,RWf.look_none rf nl,?_⟩
 refine k2 B1 μ1 en m1 σ H1 _ Qx _ R1 (hx'.step s1 R1.mem R.mem.le) q fun B2 μ2 m2 H2 xs us s2 R2 r2 q2=>?_
 have s12:=s1.trans R1.mem s2 R.mem.le
 have r3:RWs X.K B2 μ2 (.ref a::(us++dvs)) (.loc n::(xs++dv.map .v)):=.cons ⟨a,rfl,de s2.pre han⟩ (RWs.app r2 (xL (hdv B2)))
 refine ⟨B2,μ2,m2,_,_,Qx,R2.mem,r3,q2,hx'.step s12 R2.mem R.mem.le,fun B3 μ3 m3 H3 z u s3 M3 rz qz=>?_⟩
 have st:=s12.trans R2.mem s3 R.mem.le
 exact kk B3 μ3 m3 H3 z u st (R.stp st M3) rz qz
theorem GmM.d{P:Program}{w:World}{K:Frag}{mg:Str→Option Value}{base:Heap}{mn:Str}(G:GmM P w K mg base k C mn sp):GmD P w K mg base k C mn [] sp:=
 ⟨G.cls,let ⟨f,fd,ps,a,b,c⟩:=G.ex; ⟨f,fd,ps,[],[],a,.nil,fun _=>.nil,b,c⟩⟩
end
section
variable {P:Program} {w:World} {K:Frag} {mg:Str→Option Value} {base:Heap} {name qual file:Str} {st st0:Stmt} {rest:List Stmt} {N ps:List Str} {k:Nat} {sp:SpD} {D f cda cc:Addr} {fd:FuncData}
end
theorem pJ{m:Me}{n:Nat}{C:Addr}{fs:List (Str×W)}{Q:Addr→List (Str×W)→Prop}(h:m[n]? =some (.ins C fs))(q:Q C fs):eU m n Q:=by
 unfold eU
 rw [h]
 exact q
theorem BH{m:Me}{n:Nat}{ds:List D}{Q:List D→Prop}(h:m[n]? =some (.lst ds))(q:Q ds):gU m n Q:=by
 unfold gU
 rw [h]
 exact q
section
variable {X:Cx} {E:XK}
theorem lO{o:Expr}{mn:Str}{dv:List D}{to:DTE}{pl:Sem Bool}{apos pos:Pos}{C:Addr}{k:Nat}{sp:SpD}(G:GmD X.prog X.w X.K X.mg X.base k C mn dv sp)(hr:Room k X.A)(hx:Passes (L2N.CX X.prog X.w) X E)(ho:DE X E o to)
  (ht:eval (.Call (.Attribute o mn apos) [] [] pos) X.env=(do
   let ov ←eval o X.env
   standAt apos.atName
   let (f,first) ←holding [ov] (getMethod ov mn pl)
   callWith pos f first (backTo pos (starEach [] X.env)) (backToKw pos (keywordEach [] X.env))):=by rfl):DE X E (.Call (.Attribute o mn apos) [] [] pos) (fi C mn dv sp to tN):=by
 obtain ⟨t1,p1,k1⟩:=ho.ex
 obtain ⟨f,fd,ps,dvs,ds,hm,hd,hdv,hb,F⟩:=G.ex
 refine ⟨_,pe_meth0 p1 G.cls hm F hr hb hd hx ht,fun B μ en m σ H Q Qx QV R hx' T kk=>?_⟩
 refine k1 B μ en m σ H _ Qx _ R hx' T fun B1 μ1 m1 H1 y v s1 R1 r q=>?_
 obtain ⟨n,fs,rfl,hmn,nl,q⟩:=q
 obtain ⟨a,rfl,han⟩:=r
 obtain ⟨dx,vs,hv,rf⟩:=R1.mem.at_ n a _ han hmn rfl
 refine ⟨a,dx,vs,rfl,hv,RWf.look_none rf nl,?_⟩
 have r3:RWs X.K B1 μ1 (.ref a::([]++dvs)) (.loc n::([]++dv.map .v)):=.cons ⟨a,rfl,han⟩ (xL (hdv B1))
 refine ⟨B1,μ1,m1,_,_,Qx,R1.mem,r3,q,hx'.step s1 R1.mem R.mem.le,fun B3 μ3 m3 H3 z u s3 M3 rz qz=>?_⟩
 have st:=s1.trans R1.mem s3 R.mem.le
 exact kk B3 μ3 m3 H3 z u st (R.stp st M3) rz qz
end
def xM(fs:List (Str×W)):Prop:=∀p∈fs,∃d,p.2=.v d
theorem RWf.ofV{K:Frag}{B:Hp}{μ μ':List Addr}{vs:List (Str×V)}{fs:List (Str×W)}(h:xM fs)(r:RWf K B μ' vs fs):RWf K B μ vs fs:=by
 induction r with
 | nil=>exact .nil
 | cons r t ih=>
  obtain ⟨d,e⟩:=h _ List.mem_cons_self
  dsimp only at e
  subst e
  exact .cons r (ih fun p hp=>h p (List.mem_cons_of_mem _ hp))
theorem MemOk.drop3{K:Frag}{B B':Hp}{μ μ':List Addr}{mem mem1 more:List MO}{H H':Hp}(h0:MemOk K B μ mem H)(p:μ<+:μ')(hl:mem1.length=mem.length)(hi:∀(n:Nat) (C:Addr) (fs:List (Str×W)),mem1[n]? =some (.ins C fs)→mem[n]? =some (.ins C fs)∨xM fs)(le:Le B' H')(h:MemOk K B' μ' (mem1++more) H'):MemOk K B' μ mem1 H':=by
 have up:∀{n:Nat} {m:MO},mem1[n]? =some m→(mem1++more)[n]? =some m:=fun {n m} e=>by
  rw [List.getElem?_append_left (List.getElem?_eq_some_iff.mp e).1]
  exact e
 have bk:∀{n:Nat} {a:Addr},n<μ.length→μ'[n]? =some a→μ[n]? =some a:=fun {n a} l e=>by
  obtain ⟨t,rfl⟩:=p
  rw [List.getElem?_append_left l] at e
  exact e
 refine ⟨le,h0.len.trans hl.symm,fun a l=>?_,fun n a m e1 e2 e3=>?_,fun n k a m m' e1 e2 e3 e4 l1 l2=>?_,h.ntb⟩
 ·obtain ⟨n,m,e1,e2,e3⟩:=l
  exact h.off a ⟨n,m,de p e1,up e2,e3⟩
 ·have q:=h.at_ n a m (de p e1) (up e2) e3
  cases m with
  | lst ds=>exact q
  | dic ds=>exact q
  | bag=>exact q
  | gone=>trivial
  | tab _ _=>exact q
  | ins C fs=>
   rcases hi n C fs e2 with y | y
   ·have q0:=h0.at_ n a _ e1 y e3
    obtain ⟨dx0,vs0,_,r0⟩:=q0
    obtain ⟨dx,vs,hh,r⟩:=q
    exact ⟨dx,vs,hh,RWf.back bk r0 r⟩
   ·obtain ⟨dx,vs,hh,r⟩:=q
    exact ⟨dx,vs,hh,r.ofV y⟩
 ·exact h.inj n k a m m' (de p e1) (de p e2) (up e3) (up e4) l1 l2
theorem Stp.drop3{B B':Hp}{μ μ':List Addr}{mem mem1 more:List MO}{H H':Hp}(s:Stp B μ mem H B' μ' (mem1++more) H'):Stp B μ mem H B' μ mem1 H':=
 ⟨s.same,List.prefix_refl _,s.out,fun a o n e x b=>⟨(s.hid a o n e x b).1,fun ⟨i,m,e1,e2,e3⟩=>(s.hid a o n e x b).2 ⟨i,m,de s.pre e1,by
  rw [List.getElem?_append_left (List.getElem?_eq_some_iff.mp e2).1]
  exact e2,e3⟩⟩⟩
def KeptV(m m1:Me):Prop:=m1.length=m.length∧∀(n:Nat) (C:Addr) (fs:List (Str×W)),m1[n]? =some (.ins C fs)→m[n]? =some (.ins C fs)∨xM fs
theorem KeptV.refl(m:Me):KeptV m m:=⟨rfl,fun _ _ _ h=>.inl h⟩
theorem KeptV.set{m:Me}{l:Nat}{C:Addr}{fs:List (Str×W)}(h:xM fs):KeptV m (m.set l (.ins C fs)):=⟨by rw [List.length_set],fun n C' fs' e=>by
 by_cases c:l=n
 ·subst c
  have hl:=(List.getElem?_eq_some_iff.mp e).1
  rw [List.length_set] at hl
  rw [List.getElem?_set_self hl] at e
  cases e
  exact .inr h
 ·rw [List.getElem?_set_ne c] at e
  exact .inl e⟩
def rtV(m:Me)(Q:W→Me→Prop):W→Me→Prop
 | .v d,m'=>∃m1 more,m'=m1++more∧KeptV m m1∧Q (.v d) m1
 | .loc _,_=>False
def xcV(m:Me)(Qx:QX):QX:=fun er m'=>∃m1 more,m'=m1++more∧KeptV m m1∧Qx er m1
def vI(m:Me)(Q:W→Me→Prop)(Qx:QX):Dn:=⟨fun _ m'=>rtV m Q (.v .non) m',rtV m Q,fun _ _=>False,fun _ _=>False,xcV m Qx⟩
section
variable {P:Program} {w:World} {K:Frag} {mg:Str→Option Value} {base:Heap} {name qual x:Str} {st:Stmt} {N ps:List Str} {k:Nat} {sp:SpD} {f:Addr} {fd:FuncData}
theorem SS.defv{X:Cx}{E:XK}{t:TS}{T:DTS}(h:SS X E t T){vs:List V}{H:Hp}{Q:VK}(hT:∀ws m Qd Qx,sp ws m Qd Qx→T (bZ N ws) m (vI m Qd Qx))(q:lift X.K sp vs H Q E):t { nx:=fun _ H'=>Q .non H',rt:=Q } (L2.start N vs) H:=by
 obtain ⟨B,μ,m,ws,Qd,Qx,M,r,hs,hx,hq⟩:=q
 have fin:∀B' μ' m' H' x v,Stp B μ m H B' μ' m' H'→MemOk X.K B' μ' m' H'→RW X.K B' μ' v x→rtV m Qd x m'→Q v H':=fun B' μ' m' H' x v s M' r q=>by
  cases x with
  | loc n=>exact q.elim
  | v d=>
   obtain ⟨m1,more,rfl,⟨kl,ki⟩,q⟩:=q
   exact hq B' μ m1 H' (.v d) v s.drop3 (M.drop3 s.pre kl ki M'.le M') r q
 refine h B μ (bZ N ws) m (L2.start N vs) H (vI m Qd Qx) _ (ef M r) (fun B' μ' m' H' er dd fvs s M' hd rf q=>?_) (hT ws m Qd Qx hs) ⟨fun B' μ' en' m' σ' H' s R' q=>?_,fin,fun _ _ _ _ _ _ _ _ q=>q.elim,fun _ _ _ _ _ _ _ _ q=>q.elim⟩
 ·obtain ⟨m1,more,rfl,⟨kl,ki⟩,q⟩:=q
  exact hx B' μ m1 H' er dd fvs s.drop3 (M.drop3 s.pre kl ki M'.le M') hd rf q
 ·exact fin B' μ' m' H' (.v .non) .non s R'.mem (RW.d .non) q
theorem DU{dvs:List V}{kws:List (Str×V)}(D:FunD K name qual (defArgs st) (defBody st) (defScope st) dvs kws f fd)(S:FnScope N ps (defScope st))(ar:∀ws m Q Qx,sp ws m Q Qx→ws.length=ps.length)
  (hbody:∀(cdv:Value) (A:Around) (outer:List Env) (s:Shared) (H:Hp) (E:XK),Room k (A.deeper (envOfC qual (defScope st) s.heap.objs.size f cdv))→
   ∃T,DSs (cxOf (L2N.CX P w) P w K mg base N qual (defScope st) f cdv A outer s H E) E (defBody st) T∧∀ws m Qd Qx,sp ws m Qd Qx→T (bZ N ws) m (vI m Qd Qx)):FnOk P w K mg base (L2N.CX P w) (k+1) f fd ps (lift K sp):=by
 refine D.ok S (fun vs H Q E ⟨B,μ,m,ws,Qd,Qx,M,r,hs,_⟩=>by rw [r.len]; exact ar _ _ _ _ hs) fun cdv A outer s H vs Q E hr h=>?_
 obtain ⟨T,hd,hT⟩:=hbody cdv A outer s H E hr
 obtain ⟨t,hp,hs⟩:=hd.ex
 exact ⟨t,hp,hs.defv hT h⟩
end
def chV(x:Str):List V:=x.cps.toList.map fun c=>.str ⟨#[c]⟩
theorem BI{K:Frag}{B:Hp}{x:Str}(h:okS x=true):RvL K B (chV x) (chD x):=by
 have h:=aX.mp h
 unfold chV chD
 generalize x.cps.toList=l at h
 induction l with
 | nil=>exact .nil
 | cons c l ih=>
  refine .cons (.str (aX.mpr fun c' hc'=>?_)) (ih fun c' hc'=>h c' (List.mem_cons_of_mem _ hc'))
  have e:c'=c:=by simpa using hc'
  rw [e]
  exact h c List.mem_cons_self
theorem xN{x:Str}{acc:Array Value}(h:PySem.ItemsOf (PySem.SignAt x) acc x.cps.size):Vals (chV x) acc.toList:=by
 refine vals_of_idx _ _ (by unfold chV; rw [List.length_map,Array.length_toList,Array.length_toList,h.1]) fun j u e=>?_
 rw [Array.getElem?_toList] at e
 obtain ⟨c,t,hc,rfl⟩:=h.2 j u e
 refine ⟨.str ⟨#[c]⟩,?_,t,rfl⟩
 unfold chV
 rw [List.getElem?_map,Array.getElem?_toList,hc]
 rfl
section
variable {X:Cx} {E:XK} {pins:List (Addr×Obj)} {σ:L2.St} {H:Hp} {s:Shared} {e:Expr} {es:List Expr} {te:TE} {t:TA} {p:Pos}
theorem xO{x:Str}{tk:Tok}{E:Value→Shared→Prop}{Q:List Value→Shared→Prop}(hd:X.A.handled=none)(I:Inv X pins σ H s)(hx:x.length≤sizeLine)(hQ:∀us s',Inv X pins σ H s'→Vals (chV x) us→Q us s'):PySem.W.StarOf (model X.prog X.w) X.A E (.str x tk) Q s:=by
 have z:wpAny (model X.prog X.w) X.A (collect (.str x tk)) Q E s:=by
  refine PySem.wpAny_collect_str hd x tk (fun s' acc hk g1 g2 g3 hi=>?_) hx
  obtain ⟨h',g',d',t',o'⟩:=s'
  cases g1
  cases g2
  cases g3
  exact hQ _ _ (I.kept (t':=t') hk) (xN hi)
 unfold PySem.W.StarOf notIterableAtAll
 exact wpAny_bind (wpAny_specialOf (T:="str") (v:=.str x tk) rfl PySem.F.slot_str_iter.lookup (wpAny_pure ⟨rfl,z⟩))
def BJ(te:TE)(t:TA):TA:=fun σ H Q=>te σ H fun x H1=>∃z:Str,x=V.str z∧z.length≤sizeLine∧t σ H1 fun ys H2=>Q (chV z++ys) H2
theorem xP(hc:X.calm=true)(he:PE X e te)(hr:PA X es t)(hs:starEach (.Starred e p::es) X.env=(true,eval e X.env)::starEach es X.env):PA X (.Starred e p::es) (BJ te t):=by
 refine ⟨fun pos pins s σ H Q I h=>?_⟩
 refine PySem.W.items_star (thn (he.run pins s σ H _ I h) fun v s1 ⟨y,H1,I1,ry,z,ey,hz,q⟩=>?_) hs
 subst ey
 obtain ⟨tk,rfl⟩:=ry
 refine xO (I1.ok.hd hc) I1 hz fun us s2 I2 rv=>?_
 exact thn (hr.run pos pins s2 σ H1 _ I2 q) fun ws s3 ⟨vs,H3,I3,r3,q3⟩=>⟨chV z++vs,H3,I3,rv.append r3,q3⟩
def DV(te:DTE)(ta:DTA):DTA:=fun en m Q Qx=>te en m (fun x m1=>∃z:Str,x=.v (.str z)∧z.length≤sizeLine∧ta en m1 (fun xs m2=>Q ((chD z).map .v++xs) m2) Qx) Qx
theorem xQ{te:DTE}{ta:DTA}(hc:X.calm=true)(he:DE X E e te)(ha:DA X E es ta)(hs:starEach (.Starred e p::es) X.env=(true,eval e X.env)::starEach es X.env:=by rfl):DA X E (.Starred e p::es) (DV te ta):=by
 obtain ⟨t1,p1,k1⟩:=he.ex
 obtain ⟨t2,p2,k2⟩:=ha.ex
 refine ⟨_,xP hc p1 p2 hs,fun B μ en m σ H Q Qx QV R hx T k=>?_⟩
 refine k1 B μ en m σ H _ Qx _ R hx T fun B1 μ1 m1 H1 x v s1 R1 r1 T1=>?_
 obtain ⟨z,rfl,hz,q2⟩:=T1
 cases (show Rv X.K B1 v (.str z) from r1) with
 | str ok=>
  refine ⟨z,rfl,hz,?_⟩
  refine k2 B1 μ1 en m1 σ H1 _ Qx _ R1 (hx.step s1 R1.mem R.mem.le) q2 fun B2 μ2 m2 H2 xs us s2 R2 r2 T2=>?_
  exact k B2 μ2 m2 H2 _ _ (s1.trans R1.mem s2 R.mem.le) R2 ((BI ok).ws' r2) T2
end
inductive Rr (α:Type) where
 | er (b:Nat)
 | ok (v:α) (e:Nat)
namespace Rr
def bind{α β:Type}:Rr α→(α→Nat→Rr β)→Rr β
 | .er b,_=>.er b
 | .ok v e,f=>f v e
def map{α β:Type}(g:α→β)(r:Rr α):Rr β:=r.bind fun v e=>.ok (g v) e
def In{α:Type}(a n:Nat):Rr α→Prop
 | .er b=>b≤n
 | .ok _ e=>a≤e∧e≤n
theorem In.bind{α β:Type}{a n:Nat}{r:Rr α}{f:α→Nat→Rr β}(h:r.In a n)(k:∀v e,r=.ok v e→a≤e→e≤n→(f v e).In e n):(r.bind f).In a n:=by
 cases r with
 | er b=>exact h
 | ok v e=>
  have z:=k v e rfl h.1 h.2
  show (f v e).In a n
  cases hf:f v e with
  | er b=>rw [hf] at z; exact z
  | ok v' e'=>rw [hf] at z; exact ⟨Nat.le_trans h.1 z.1,z.2⟩
end Rr
def jq(c:Nat):Bool:=decide (97≤c∧c≤122)
def mX(l:List Nat):Nat→Nat→Nat
 | 0,e=>e
 | f+1,e=>if decide (e<l.length)&&jq (l.getD e 0) then mX l f (e+1) else e
def bq(l:List Nat)(a:Nat):Nat:=mX l (l.length+1 - a) a
theorem ut{l:List Nat}:∀{f e:Nat},e≤l.length→e≤mX l f e∧mX l f e≤l.length
 | 0,e,h=>⟨Nat.le_refl _,h⟩
 | f+1,e,h=>by
  unfold mX
  split
  ·rename_i c
   have c:e<l.length:=by
    have:=(Bool.and_eq_true _ _ ▸c).1
    exact of_decide_eq_true this
   have z:=ut (l:=l) (f:=f) (e:=e+1) c
   exact ⟨by omega,z.2⟩
  ·exact ⟨Nat.le_refl _,h⟩
theorem lQ{l:List Nat}{a:Nat}(h:a≤l.length):a≤bq l a∧bq l a≤l.length:=ut h
abbrev wdz(z:Str)(a e:Nat):Str:=Txt.slice z (some (a:Int)) (some (e:Int))
abbrev tl'(z:Str):List Nat:=z.cps.toList
def cA:List Nat→Str→Nat→Rr Unit
 | [],_,a=>.ok () a
 | c::w,z,a=>if (tl' z)[a]? =some c then cA w z (a+1) else .er a
theorem d0:∀{w:List Nat} {z:Str} {a:Nat},a≤z.length→(cA w z a).In a z.length
 | [],_,_,h=>⟨Nat.le_refl _,h⟩
 | c::w,z,a,h=>by
  unfold cA
  split
  ·rename_i e
   have l:a+1≤z.length:=(List.getElem?_eq_some_iff.mp e).1
   have z:=d0 (w:=w) l
   cases hr:cA w _ (a+1) with
   | er b=>rw [hr] at z; exact z
   | ok v e=>rw [hr] at z; exact ⟨Nat.le_trans (Nat.le_succ a) z.1,z.2⟩
  ·exact h
def ahe(z:Str)(w:Str)(a:Nat):Bool:=Txt.startswith3 z w (a:Int)
def rp(z:Str):Nat:=z.length+1
theorem Rr.In.from{α:Type}{a b n:Nat}{r:Rr α}(h:a≤b)(q:r.In b n):r.In a n:=by
 cases r with
 | er b=>exact q
 | ok v e=>exact ⟨Nat.le_trans h q.1,q.2⟩
open TL in
section
variable {P:Program} {w:World} {K:Frag} {mg:Str→Option Value} {base:Heap}
abbrev mY:Nat:=20000
abbrev bI(C:Addr)(a:Nat):Er:=⟨C,erF "InvalidText" [(("at":Str),.int a)]⟩
abbrev fC:Stmt:=top 14
abbrev nO:List Str:=["text","at","end"]
abbrev fD:List Str:=["text","at"]
theorem eL:FnScope nO fD (defScope fC):=⟨rfl,rfl,rfl,by decide+kernel,rfl,by decide+kernel,by decide+kernel⟩
def xR(C:Addr):SpD:=fun ws m Q Qx=>∃(z:Str) (a:Nat),ws=[.v (.str z),.v (.int (a:Nat))]∧z.length≤20000∧a≤z.length∧(a7 (tl z) a=a→Qx (bI C a) m)∧(a7 (tl z) a≠a→Q (.v (.tup [.int (eH (tl z) a (a7 (tl z) a):Nat),.int (a7 (tl z) a:Nat)])) m)
theorem uu{c:Nat}:(kc ⟨#[c]⟩ "0123456789")=decide (48≤c∧c≤57):=by
 have z:kc ⟨#[c]⟩ "0123456789"=decide (c∈("0123456789":Str).cps.toList):=StrLaws.found_one _ _
 rw [z]
 have e:("0123456789":Str).cps.toList=[48,49,50,51,52,53,54,55,56,57]:=by decide+kernel
 rw [e]
 refine decide_eq_decide.mpr ⟨fun h=>?_,fun h=>?_⟩
 ·simp only [List.mem_cons,List.not_mem_nil,or_false] at h
  omega
 ·simp only [List.mem_cons,List.not_mem_nil,or_false]
  omega
theorem uv{z:Str}{a e:Nat}:(Txt.slice z (some (a:Int)) (some (e:Int)) == ("0":Str))=decide (bO (tl z) a e=[48]):=by
 rw [lM,df]
 rfl
theorem zU{z:Str}{a e:Nat}(h:Rd (tl z) a e)(hne:e≠a)(ha:a≤z.length):PySem.intText? (Txt.slice z (some (a:Int)) (some (e:Int)))=some ((eH (tl z) a e:Nat):Int):=by
 have l1:=h.lenE ha
 have l2:=mH h.le l1
 have:=h.most
 have:=h.le
 have e1:=df z a e
 have r:=intText_digits (x:=Txt.slice z (some (a:Int)) (some (e:Int))) (by rw [e1]; exact h.dg) (by rw [e1]; intro y; have y:bO (tl z) a e=[]:=y; rw [y,List.length_nil] at l2; omega) (by show (Txt.slice z (some (a:Int)) (some (e:Int))).cps.toList.length≤_; rw [e1]; show (bO (tl z) a e).length≤_; omega)
 rw [e1] at r
 exact r
theorem mZ{C:Addr}(G:Gs K mg "read_digits" fC){u:Value}(k_MOST:mg "MOST_DIGITS"=some u)(r_MOST:RelV (.int 12) u)(m_len:mg "len"=none)(m_int:mg "int"=none)(c_IT:mg "InvalidText"=some (.ref C))(M:OexM P w K mg base 1 C (cb C 1 fun vs=>[(("at":Str),vs.headD .non),(("code":Str),V.str "InvalidText")])):Gd P w K mg base (L2N.CX P w) 3 "read_digits" fD (lift K (xR C)):=by
 refine Fo.gd (cO eL (fun ws m Q Qx h=>?_) (fun f cdv A outer s H E hr=>⟨_,(ad (aC (i:=2) eL.nd rfl (.inl rfl) (dv 1))
  (ad (gS (passes_of rfl) (DW.dt (i8 (ay mh (dv 2) (dm m_len (aa (dv 0) ac)) (nomark _)) (i8 (ay mh (dv 2) (aM aG (dv 1) (j6 k_MOST r_MOST (fun _=>.int 12))) (nomark _)) (i8 (ay (qk (u65 hr)) (bc (dv 0) (dv 2)) aj (by rfl)) (lA (ay (gZ (u64 hr)) (cP (dv 0) (aZ (dv 1)) (aZ (dv 2))) aj (nomark _)))))))
   (af (wH (i:=2) eL.nd rfl (.inl rfl) ah wI)))
  (ad (aW (ay (fX (u64 hr)) (dv 2) (dv 1) (nomark _))
   (af (bU (f:="at") M (hr.mono (by omega)) c_IT rfl (L2N.takes_of rfl rfl rfl rfl) (aa (dv 1) ac)))
   aD)
  (af (aq (bQ (aa (tz m_int (aa (cP (dv 0) (aZ (dv 1)) (aZ (dv 2))) ac)) (aa (dv 2) ac)))))))),fun ws m Qd Qx h=>?_⟩) [] []) G (fun _ _ _ _ _ _ us hl=>match us,hl with | [_,_],_=>rfl)
 ·obtain ⟨_,_,rfl,_⟩:=h
  rfl
 ·obtain ⟨z,a,rfl,hz,ha,qx,q⟩:=h
  have ln:=sizeLine_eq
  have zl:z.length=(tl z).length:=rfl
  refine jD (fun f en m'=>m'=m∧∃e:Nat,en=[some (.v (.str z)),some (.v (.int (a:Nat))),some (.v (.int (e:Nat)))]∧Rd (tl z) a e∧f+e=a+13∧nI (tl z) a f e=a7 (tl z) a) 13 ⟨rfl,a,rfl,Rd.zero _ _,by omega,rfl⟩ ?_
  rintro f en m' N' ⟨rfl,e,rfl,hr,hf,he⟩ r1 r2 r3 hn
  have le:=hr.lenE ha
  have ms:=hr.most
  obtain ⟨f,rfl⟩:∃k,f=k+1:=⟨f - 1,by omega⟩
  -- the end of the loop
  have fin:goes (tl z) a e=false→fv (sIf (tBl (tO2 (oL (eqD id)) (tV 2) (tV 1))) (lD C "InvalidText" "at" (tCn (tV 1) tN)) sNx) (lY (tTu (tCn (tCa (c1 Bh) (tCn (Be (tV 0) (wz (tV 1)) (wz (tV 2))) tN)) (tCn (tV 2) tN)))) [some (.v (.str z)),some (.v (.int (a:Nat))),some (.v (.int (e:Nat)))] m' (oN m' Qd Qx):=fun g=>by
   have hE:e=a7 (tl z) a:=by
    unfold nI at he
    rw [if_neg (by rw [g]; decide)] at he
    exact he
   refine ⟨rfl,rfl,Nat.zero_le _,Nat.zero_le _,aN (fun c=>?_) (fun c=>?_)⟩
   ·have c:e=a:=by
     have c:((e:Int))=(a:Int):=eq_of_beq c
     omega
    exact ⟨List.prefix_refl _,qx (by rw [←hE]; exact c)⟩
   ·have c:e≠a:=fun y=>by
     subst y
     have c:(((e:Nat):Int) == (e:Int))=false:=c
     simp at c
    rw [←hE] at q
    refine ⟨by omega,_,zU hr c ha,?_,?_,List.prefix_refl _,q c⟩
    ·have z1:(tl (Txt.slice z (some (a:Int)) (some (e:Int)))).length=e - a:=by
      rw [show tl (Txt.slice z (some (a:Int)) (some (e:Int)))=bO (tl z) a e from df z a e]
      exact mH hr.le le
     show (tl (Txt.slice z (some (a:Int)) (some (e:Int)))).length≤_
     omega
    ·show 2≤sizeLine
     omega
  have no:∀{p:Prop} [Decidable p],¬p→decide p=false:=fun h=>decide_eq_false h
  refine ⟨by omega,aN (fun c1=>?_) (fun c1=>?_)⟩
  ·have c1:(e:Int)<(z.length:Int):=of_decide_eq_true c1
   refine aN (fun c2=>?_) (fun c2=>?_)
   ·have c2:(e:Int)<(a:Int)+12:=of_decide_eq_true c2
    have hk:e<(tl z).length:=by omega
    have eD:(tl z).getD e 0=(tl z)[e]:=by rw [List.getD_eq_getElem?_getD,List.getElem?_eq_getElem hk]; rfl
    refine ⟨by omega,(tl z)[e],atI_nat (List.getElem?_eq_getElem hk),?_⟩
    rw [←eD]
    refine aN (fun c3=>?_) (fun c3=>?_)
    ·have c3:kc ⟨#[(tl z).getD e 0]⟩ "0123456789"=true:=c3
     rw [uu] at c3
     refine ⟨by omega,rfl,rfl,Nat.zero_le _,Nat.zero_le _,aN (fun c4=>?_) (fun c4=>?_)⟩
     ·have c4:(!(Txt.slice z (some (a:Int)) (some (e:Int)) == ("0":Str)))=true:=c4
      rw [uv] at c4
      have g:goes (tl z) a e=true:=by
       unfold goes
       rw [decide_eq_true (by omega),decide_eq_true (by omega),c3,c4]
       rfl
      refine (hn f _ _ (by omega) ⟨rfl,e+1,rfl,hr.more g,by omega,?_⟩).1
      unfold nI at he
      rw [if_pos g] at he
      exact he
     ·have c4:(!(Txt.slice z (some (a:Int)) (some (e:Int)) == ("0":Str)))=false:=c4
      rw [uv] at c4
      refine fin ?_
      unfold goes
      rw [c4]
      simp
    ·have c3:kc ⟨#[(tl z).getD e 0]⟩ "0123456789"=false:=c3
     rw [uu] at c3
     refine fin ?_
     unfold goes
     rw [c3]
     simp
   ·have c2:¬(e:Int)<(a:Int)+12:=of_decide_eq_false c2
    refine fin ?_
    unfold goes
    rw [no (p:=e<a+12) (by omega)]
    simp
  ·have c1:¬(e:Int)<(z.length:Int):=of_decide_eq_false c1
   refine fin ?_
   unfold goes
   rw [no (p:=e<(tl z).length) (by omega)]
   rfl
abbrev dF:Stmt:=top 15
abbrev li:List Str:=["text","at","top","end","bottom","last"]
abbrev dG:List Str:=["text","at"]
theorem bo:FnScope li dG (defScope dF):=⟨rfl,rfl,rfl,by decide+kernel,rfl,by decide+kernel,by decide+kernel⟩
def xS(C:Addr):SpD:=fun ws m Q Qx=>∃(z:Str) (a:Nat),ws=[.v (.str z),.v (.int (a:Nat))]∧z.length≤20000∧a≤z.length∧match mI (tl z) a with
 | .er b=>Qx (bI C b) m
 | .ok v e=>Q (.v (.tup [frD v,.int (e:Nat)])) m
theorem kQ{z:Str}{a:Nat}:(Txt.slice z (some (a:Int)) (some ((a:Int)+1)) == ("/":Str))=decide (bO (tl z) a (a+1)=[47]):=by
 have e:(a:Int)+1=((a+1:Nat):Int):=by omega
 rw [e,lM,df]
 rfl
theorem ky{C:Addr}(G:Gs K mg "read_positive" dF)(g_read_digits:Gd P w K mg base (L2N.CX P w) 3 "read_digits" fD (lift K (xR C)))(g_common_factor:Gd P w K mg base (L2N.CX P w) 1 "common_factor" cp (lift K sG))(c_IT:mg "InvalidText"=some (.ref C))(M:OexM P w K mg base 1 C (cb C 1 fun vs=>[(("at":Str),vs.headD .non),(("code":Str),V.str "InvalidText")])):Gd P w K mg base (L2N.CX P w) 4 "read_positive" dG (lift K (xS C)):=by
 refine Fo.gd (cO bo (fun ws m Q Qx h=>?_) (fun f cdv A outer s H E hr=>⟨_,(ad (lZ (av g_read_digits (hr.mono (by omega)) (aw (L2N.takes_of rfl rfl rfl rfl)) (aa (dv 0) (aa (dv 1) ac))) (j9 rfl (aS (az (i:=2) bo.nd rfl (.inl rfl)) (aS (az (i:=3) bo.nd rfl (.inl rfl)) eR))))
  (ad (aW (ay (gZ (u64 hr)) (cP (dv 0) (aZ (dv 3)) (aZ (aM aG (dv 3) ah))) aj (nomark _))
   (af (aq (bQ (aa (bQ (aa (dv 2) (aa ah ac))) (aa (dv 3) ac)))))
   aD)
  (ad (lZ (av g_read_digits (hr.mono (by omega)) (aw (L2N.takes_of rfl rfl rfl rfl)) (aa (dv 0) (aa (aM aG (dv 3) ah) ac))) (j9 rfl (aS (az (i:=4) bo.nd rfl (.inl rfl)) (aS (az (i:=5) bo.nd rfl (.inl rfl)) eR))))
  (ad (aW (DW.dt (dH (ay mh (dv 4) ah (nomark _)) (du (ay (gZ (u64 hr)) (av g_common_factor (hr.mono (by omega)) (aw (L2N.takes_of rfl rfl rfl rfl)) (aa (dv 2) (aa (dv 4) ac))) ah (nomark _)))))
   (af (bU (f:="at") M (hr.mono (by omega)) c_IT rfl (L2N.takes_of rfl rfl rfl rfl) (aa (aM aG (dv 3) ah) ac)))
   aD)
  (af (aq (bQ (aa (bQ (aa (dv 2) (aa (dv 4) ac))) (aa (dv 5) ac))))))))),fun ws m Qd Qx h=>?_⟩) [] []) G (fun _ _ _ _ _ _ us hl=>match us,hl with | [_,_],_=>rfl)
 ·obtain ⟨_,_,rfl,_⟩:=h
  rfl
 ·obtain ⟨z,a,rfl,hz,ha,q⟩:=h
  have ln:=sizeLine_eq
  have zl:z.length=(tl z).length:=rfl
  have r1:=lN (tl z) a
  have l1:=r1.lenE ha
  refine ⟨z,a,rfl,hz,ha,fun h0=>⟨List.prefix_refl _,?_⟩,fun h0=>?_⟩
  ·unfold mI at q
   rw [if_pos h0] at q
   exact q
  unfold mI at q
  rw [if_neg h0] at q
  generalize a7 (tl z) a=e1 at q r1 l1 h0 ⊢
  refine ⟨rfl,by omega,rfl,rfl,Nat.zero_le _,Nat.zero_le _,aN (fun c=>?_) (fun c=>?_)⟩
  ·have c:(!(Txt.slice z (some (e1:Int)) (some ((e1:Int)+1)) == ("/":Str)))=true:=c
   rw [kQ] at c
   rw [if_pos (by simpa using c)] at q
   exact ⟨by show 2≤sizeLine; omega,by show 2≤sizeLine; omega,List.prefix_refl _,q⟩
  ·have c:(!(Txt.slice z (some (e1:Int)) (some ((e1:Int)+1)) == ("/":Str)))=false:=c
   rw [kQ] at c
   have c:bO (tl z) e1 (e1+1)=[47]:=by simpa using c
   rw [if_neg (fun y=>y c)] at q
   have l2:e1+1≤(tl z).length:=by
    have y:(bO (tl z) e1 (e1+1)).length=1:=by rw [c]; rfl
    unfold bO at y
    rw [List.length_take,List.length_drop] at y
    omega
   refine ⟨z,e1+1,rfl,hz,l2,fun h1=>⟨List.prefix_refl _,?_⟩,fun h1=>?_⟩
   ·rw [if_pos h1] at q
    exact q
   rw [if_neg h1] at q
   generalize a7 (tl z) (e1+1)=e2 at q h1 ⊢
   refine ⟨rfl,?_⟩
   refine aN (fun c2=>?_) (fun c2=>?_)
   ·have c2:((eH (tl z) (e1+1) e2:Nat):Int)<2:=of_decide_eq_true c2
    rw [if_pos (.inl (by omega))] at q
    exact iteT ⟨List.prefix_refl _,q⟩
   ·have c2:¬((eH (tl z) (e1+1) e2:Nat):Int)<2:=of_decide_eq_false c2
    refine ⟨_,_,rfl,rfl,rfl,Nat.zero_le _,Nat.zero_le _,aN (fun c3=>?_) (fun c3=>?_)⟩
    ·have c3:(!((Nat.gcd (eH (tl z) a e1) (eH (tl z) (e1+1) e2):Nat):Int) == 1)=true:=c3
     have c3:Nat.gcd (eH (tl z) a e1) (eH (tl z) (e1+1) e2)≠1:=by
      intro y
      rw [y] at c3
      cases c3
     rw [if_pos (.inr c3)] at q
     exact ⟨List.prefix_refl _,q⟩
    ·have c3:(!((Nat.gcd (eH (tl z) a e1) (eH (tl z) (e1+1) e2):Nat):Int) == 1)=false:=c3
     have c3:Nat.gcd (eH (tl z) a e1) (eH (tl z) (e1+1) e2)=1:=by
      have c3:(((Nat.gcd (eH (tl z) a e1) (eH (tl z) (e1+1) e2):Nat):Int) == 1)=true:=by simpa using c3
      have c3:=eq_of_beq c3
      omega
     rw [if_neg (fun y=>y.elim (fun y=>by omega) (fun y=>y c3))] at q
     exact ⟨by show 2≤sizeLine; omega,by show 2≤sizeLine; omega,List.prefix_refl _,q⟩
end
section
variable {X:Cx} {o:Expr} {f:Str} {pos:Pos}
def DX(K:PySem.W.Frag)(to:TE)(f:Str):TG:=fun v σ H Q=>to σ H fun x H1=>∃a C dx fs,x=.ref a∧H1 a=some (.ins C dx fs)∧Cls K C∧NoAttr K C f∧fs.length<1000∧Q σ (upd H1 a (.ins C dx (putF f v fs)))
theorem BK{to:TE}(ho:PE X o to):PG X (.Attribute o f pos) (DX X.K to f):=by
 refine ⟨fun pins s σ H v u Q I r h=>?_⟩
 have ha:assign (.Attribute o f pos) X.env u=(do
   let ov ←holding [u] (eval o X.env)
   standAt pos.atName
   holding [u,ov] (setAttr ov f u)
   release [u,ov] []):=by rfl
 rw [ha]
 refine wpAny_bind (wpAny_holding (thn (ho.run pins s σ H _ I h) fun ov s1 ⟨x,H1,I1,rx,a,C,dx,fs,ex,ea,c,n,l,q⟩=>?_))
 subst ex
 obtain rfl:ov=Value.ref a:=rx
 refine wpAny_bind (wpAny_standAt (wpAny_bind (wpAny_holding (setattr_ok I1 ea c n l r fun s3 I3=>?_))))
 exact wpAny_release ⟨σ,_,I3,q⟩
end
section
variable {X:Cx} {E:XK}
def gFd(K:Frag)(f:Str)(to:DTE):DTG:=fun y en m Q=>to en m (fun x m1=>match x with
 | .loc n=>eU m1 n fun C fs=>Cls K C∧NoAttr K C f∧fs.length<1000∧Q en (m1.set n (.ins C (ke f y fs)))
 | _=>False) noX
theorem BL{f:Str}{o:Expr}{to:DTE}{pos:Pos}(ho:DE X E0 o to):DG X (.Attribute o f pos) [] (gFd X.K f to):=by
 obtain ⟨t1,p1,k1⟩:=ho.ex
 refine ⟨_,BK p1,fun B μ en m σ H y w Q QV R r T k=>?_⟩
 refine k1 B μ en m σ H _ noX _ R ExOf.no T fun B1 μ1 m1 H1 x v s1 R1 r1 q=>?_
 cases x with
 | v d=>exact q.elim
 | loc n=>
  have q:eU m1 n _:=q
  unfold eU at q
  split at q
  ·rename_i C fs hm
   obtain ⟨cl,na,hl,q⟩:=q
   obtain ⟨a,rfl,ha⟩:=r1
   obtain ⟨dx,vs,hv,rf⟩:=R1.mem.at_ n a _ ha hm rfl
   have ry:RW X.K B1 μ1 w y:=r.to s1.same s1.pre
   have kp:∀b o,b≠a→H1 b=some o→upd H1 a (.ins C dx (putF f w vs)) b=some o:=fun b o c e=>by rw [upd_ne c]; exact e
   have sS:=Stp.store (H':=upd H1 a (.ins C dx (putF f w vs))) (m':=.ins C (ke f y fs)) (B:=B1) ha hm rfl kp
   have mS:=R1.mem.store (m':=.ins C (ke f y fs)) ha hm rfl rfl kp ⟨dx,_,upd_same,RWf.put ry rf⟩
   have st:=s1.trans R1.mem sS R.mem.le
   exact ⟨a,C,dx,vs,rfl,hv,cl,na,by rw [RWf.len rf]; exact hl,k _ _ _ _ _ _ st (R.stp st mS) (.refl _) q⟩
  ·exact q.elim
def xU(K:Frag)(f:Str)(to te:DTE):DTS:=fun en m N=>to en m (fun x m1=>match x with
 | .loc n=>eU m1 n fun C fs=>Cls K C∧NoAttr K C f∧∃i,fs.lookup f=some (.v (.int i))∧te en m1 (fun y m2=>∃j,y=.v (.int j)∧eU m2 n fun C' fs'=>C'=C∧fs'.length<1000∧N.nx en (m2.set n (.ins C (ke f (.v (.int (i+j))) fs')))) N.xc
 | _=>False) N.xc
theorem pK{f:Str}{o e:Expr}{to te:DTE}{tpos pos:Pos}(ho:DE X E o to)(he:DE X E e te):DS X E (.AugAssign (.Attribute o f tpos) .Add e pos) (xU X.K f to te):=by
 obtain ⟨t1,p1,k1⟩:=ho.ex
 obtain ⟨t2,p2,k2⟩:=he.ex
 refine ⟨_,ps_fldaug p1 p2 in_add,fun B μ en m σ H N D R hx T ee=>?_⟩
 refine k1 B μ en m σ H _ _ _ R hx T fun B1 μ1 m1 H1 x v s1 R1 r1 T1=>?_
 cases x with
 | v d=>exact T1.elim
 | loc n=>
  have T1:eU m1 n _:=T1
  unfold eU at T1
  split at T1
  ·rename_i C fs hm
   obtain ⟨cl,na,i,hi,T1⟩:=T1
   obtain ⟨a,rfl,ha⟩:=r1
   obtain ⟨dx,vs,hv,rf⟩:=R1.mem.at_ n a _ ha hm rfl
   obtain ⟨vi,hvi,ri⟩:=RWf.look rf hi
   cases (show Rv X.K B1 vi (.int i) from ri)
   refine ⟨a,C,dx,vs,_,rfl,hv,cl,na,hvi,?_⟩
   refine k2 B1 μ1 en m1 σ H1 _ _ _ R1 (hx.step s1 R1.mem R.mem.le) T1 fun B2 μ2 m2 H2 y w s2 R2 r2 T2=>?_
   obtain ⟨j,rfl,T2⟩:=T2
   have T2:eU m2 n _:=T2
   unfold eU at T2
   split at T2
   ·rename_i C' fs' hm2
    obtain ⟨rfl,hl,q⟩:=T2
    cases (show Rv X.K B2 w (.int j) from r2)
    have ha2:=de s2.pre ha
    obtain ⟨dx',vs',hv',rf'⟩:=R2.mem.at_ n a _ ha2 hm2 rfl
    have kp:∀b o,b≠a→H2 b=some o→upd H2 a (.ins C' dx' (putF f (.int (i+j)) vs')) b=some o:=fun b o c e=>by rw [upd_ne c]; exact e
    have sS:=Stp.store (H':=upd H2 a (.ins C' dx' (putF f (.int (i+j)) vs'))) (m':=.ins C' (ke f (.v (.int (i+j))) fs')) (B:=B2) ha2 hm2 rfl kp
    have mS:=R2.mem.store (m':=.ins C' (ke f (.v (.int (i+j))) fs')) ha2 hm2 rfl rfl kp ⟨dx',_,upd_same,RWf.put (RW.d (.int (i+j))) rf'⟩
    have st:=(s1.trans R1.mem s2 R.mem.le).trans R2.mem sS R.mem.le
    exact ⟨i,j,rfl,rfl,dx',vs',hv',by rw [RWf.len rf']; exact hl,ee.nx _ _ _ _ _ _ st (R.stp st mS) q⟩
   ·exact T2.elim
  ·exact T1.elim
def BM:DMt:=fun x xs m Q=>match x,xs with
 | .v (.str a),[.v (.str b),.v (.int i)]=>Q (.bl (Txt.startswith3 a b i)) m
 | _,_=>False
theorem zV:SM X (fun x xs H Q=>∃(a b:Str) (i:Int),x=.str a∧xs=[.str b,.int i]∧Q (.bl (Txt.startswith3 a b i)) H) BM:=by
 intro B μ m H x xs v vs Q QV M rx rs q k
 unfold BM at q
 split at q
 ·rename_i x xs a b i
  cases (show Rv X.K B v (.str a) from rx)
  cases rs with
  | cons r1 t=>
   cases t with
   | cons r2 t=>
    cases t
    cases (show Rv X.K B _ (.str b) from r1)
    cases (show Rv X.K B _ (.int i) from r2)
    exact ⟨a,b,i,rfl,rfl,k B m H (.bl _) _ .refl M (.bl _) q⟩
 ·exact q.elim
theorem nQ{o e e2:Expr}{to:DTE}{ta:DTA}{apos cpos:Pos}(ho:DE X E o to)(ha:DA X E [e,e2] ta)
  (hbase:attributeBase o "startswith" X.env (eval o X.env)=eval o X.env:=by rfl)
  (hfew:((backTo cpos (starEach [e,e2] X.env)).all (fun x=> !x.1)&&(backToKw cpos (keywordEach [] X.env)).all (fun x=>x.1.isSome)
   &&decide ([e,e2].length+([]:List Keyword).length+(if ([]:List Keyword).isEmpty then 0 else 1)<30))=true:=by rfl)
  (hline:(apos.endLine == cpos.line)=true:=by rfl) (hs:starEach [e,e2] X.env=(false,eval e X.env)::starEach [e2] X.env:=by rfl) (hplain:(backTo cpos (starEach [e2] X.env)).any (·.1)=false:=by rfl):
  DE X E (.Call (.Attribute o "startswith" apos) [e,e2] [] cpos) (tMe qr BM to ta):=
 rW PySem.F.plainAttrs_str PySem.F.slot_str_startswith PySem.F.type_str_startswith mt_startswith3 zV jA ho ha hbase hfew hline hs hplain
end
open TL
def rdF(z:Str)(a:Nat):List (Str×W):=[("text",.v (.str z)),("at",.v (.int (a:Nat)))]
def rdN:List Str:=["text","at"]
theorem xV(z:Str)(a:Nat):xM (rdF z a):=fun p hp=>by
 simp only [rdF,List.mem_cons,List.not_mem_nil,or_false] at hp
 rcases hp with rfl | rfl <;> exact ⟨_,rfl⟩
structure RdA (C:Addr) (m:Me) (n:Nat) (z:Str) (a:Nat):Prop where
 at_:m[n]? =some (.ins C (rdF z a))
 len:z.length≤mY
 le:a≤z.length
theorem RdA.sz{C:Addr}{m:Me}{n:Nat}{z:Str}{a:Nat}(h:RdA C m n z a):z.length≤sizeLine:=Nat.le_trans h.len (by decide)
theorem RdA.lt{C:Addr}{m:Me}{n:Nat}{z:Str}{a:Nat}(h:RdA C m n z a):n<m.length:=(List.getElem?_eq_some_iff.mp h.at_).1
theorem RdA.set{C:Addr}{m:Me}{n:Nat}{z:Str}{a e:Nat}(h:RdA C m n z a)(he:e≤z.length):RdA C (m.set n (.ins C (rdF z e))) n z e:=⟨List.getElem?_set_self h.lt,h.len,he⟩
theorem RdA.app{C:Addr}{m:Me}{n:Nat}{z:Str}{a:Nat}(h:RdA C m n z a)(t:Me):RdA C (m++t) n z a:=⟨oZ h.at_,h.len,h.le⟩
theorem RdA.same{C:Addr}{m:Me}{n:Nat}{z:Str}{a:Nat}(h:RdA C m n z a):m.set n (.ins C (rdF z a))=m:=by
 apply List.ext_getElem?
 intro i
 by_cases c:n=i
 ·subst c
  rw [List.getElem?_set_self h.lt,h.at_]
 ·rw [List.getElem?_set_ne c]
theorem C6{m t:Me}{n:Nat}{x y:MO}(h:n<m.length):(m.set n y++t).set n x=m.set n x++t:=by
 rw [List.set_append_left _ _ (by rw [List.length_set]; exact h),List.set_set]
def rdQ{α:Type}(T C:Addr)(n:Nat)(z:Str)(g:α→D)(m:Me)(Q:W→Me→Prop)(Qx:QX):Rr α→Prop
 | .er b=>∀i:Nat,Qx (bI T b) (m.set n (.ins C (rdF z i)))
 | .ok v e=>Q (.v (g v)) (m.set n (.ins C (rdF z e)))
section
variable {α β:Type} {T C:Addr} {n:Nat} {z:Str} {g:β→D} {g':α→D} {m t:Me} {Q Q':W→Me→Prop} {Qx Qx':QX} {r:Rr α} {f:α→Nat→Rr β} {y:MO}
theorem rdQ.seq0(q:rdQ T C n z g m Q Qx (r.bind f))(hx:∀b i,Qx (bI T b) (m.set n (.ins C (rdF z i)))→Qx' (bI T b) (m.set n (.ins C (rdF z i))))(hk:∀v e,r=.ok v e→rdQ T C n z g m Q Qx (f v e)→Q' (.v (g' v)) (m.set n (.ins C (rdF z e)))):rdQ T C n z g' m Q' Qx' r:=by
 cases r with
 | er b=>exact fun i=>hx b i (q i)
 | ok v e=>exact hk v e rfl q
theorem rdQ.seq1(q:rdQ T C n z g m Q Qx (r.bind f))(hx:∀b i,Qx (bI T b) (m.set n (.ins C (rdF z i)))→Qx' (bI T b) (m.set n (.ins C (rdF z i))))(hk:∀v e,r=.ok v e→rdQ T C n z g m Q Qx (f v e)→Q' (.v (g' v)) (m.set n (.ins C (rdF z e)))):rdQ T C n z g' (m.set n y) Q' Qx' r:=by
 cases r with
 | er b=>exact fun i=>by rw [List.set_set]; exact hx b i (q i)
 | ok v e=>show Q' _ _; rw [List.set_set]; exact hk v e rfl q
end
def eO(C:Addr)(n:Nat)(z:Str)(m t:Me)(e:Nat)(ds:List D):Me:=m.set n (.ins C (rdF z e))++(t++[MO.lst ds])
section
variable {C:Addr} {n:Nat} {z:Str} {m t:Me} {e e':Nat} {ds ds':List D}
theorem pL:(eO C n z m t e ds)[m.length+t.length]? =some (.lst ds):=by
 unfold eO
 rw [List.getElem?_append_right (by rw [List.length_set]; omega),List.length_set,List.getElem?_append_right (by omega),show m.length+t.length - m.length - t.length=0 by omega]
 rfl
theorem xW:(eO C n z m t e ds).set (m.length+t.length) (.lst ds')=eO C n z m t e ds':=by
 unfold eO
 rw [List.set_append_right _ _ (by rw [List.length_set]; omega),List.length_set,List.set_append_right _ _ (by omega),show m.length+t.length - m.length - t.length=0 by omega]
 rfl
theorem vJ:(eO C n z m t e ds).set (m.length+t.length) .gone=m.set n (.ins C (rdF z e))++(t++[MO.gone]):=by
 unfold eO
 rw [List.set_append_right _ _ (by rw [List.length_set]; omega),List.length_set,List.set_append_right _ _ (by omega),show m.length+t.length - m.length - t.length=0 by omega]
 rfl
theorem pM(h:n<m.length):(eO C n z m t e ds).set n (.ins C (rdF z e'))=eO C n z m t e' ds:=C6 h
theorem pN{a:Nat}(h:RdA C m n z a)(he:e≤z.length):RdA C (eO C n z m t e ds) n z e:=(h.set he).app _
end
section
variable {α β:Type} {T C:Addr} {n:Nat} {z:Str} {g':α→D} {m t:Me} {ds:List D} {Q':W→Me→Prop} {Qx':QX} {r:Rr α} {e0:Nat}
theorem rdQ.at2(hn:n<m.length)(hx:∀b i,r=.er b→Qx' (bI T b) (eO C n z m t i ds))(hk:∀v e,r=.ok v e→Q' (.v (g' v)) (eO C n z m t e ds)):rdQ T C n z g' (eO C n z m t e0 ds) Q' Qx' r:=by
 cases r with
 | er b=>exact fun i=>by rw [pM hn]; exact hx b i rfl
 | ok v e=>show Q' _ _; rw [pM hn]; exact hk v e rfl
end
theorem BN{i L:Nat}{u:DTS}{en:En}{m:Me}{ds:List D}{N:Dn}(h:En.get en i=some (.loc L))(hm:m[L]? =some (.lst ds))(k:u (en.map (sbs L (.lst ds))) (m.set L .gone) N):sFz i u en m N:=by
 unfold sFz
 rw [h]
 exact BH hm k
theorem kz{z:Str}{a c:Nat}:(Txt.slice z (some (a:Int)) (some ((a:Int)+1)) == (⟨#[c]⟩:Str))=decide ((tl z)[a]? =some c):=by
 have e:(a:Int)+1=((a+1:Nat):Int):=by omega
 rw [e,lM,df]
 refine decide_eq_decide.mpr ?_
 show bO (tl z) a (a+1)=[c]↔_
 unfold bO
 rw [show a+1 - a=1 by omega]
 generalize tl z=l
 rw [List.take_one,List.head?_drop]
 cases l[a]? with
 | none=>simp
 | some d=>simp
theorem pO{c:Nat}:(kc ⟨#[c]⟩ "abcdefghijklmnopqrstuvwxyz")=jq c:=by
 have z:kc ⟨#[c]⟩ "abcdefghijklmnopqrstuvwxyz"=decide (c∈("abcdefghijklmnopqrstuvwxyz":Str).cps.toList):=StrLaws.found_one _ _
 rw [z]
 have e:("abcdefghijklmnopqrstuvwxyz":Str).cps.toList=[97,98,99,100,101,102,103,104,105,106,107,108,109,110,111,112,113,114,115,116,117,118,119,120,121,122]:=by decide+kernel
 rw [e]
 unfold jq
 refine decide_eq_decide.mpr ⟨fun h=>?_,fun h=>?_⟩
 ·simp only [List.mem_cons,List.not_mem_nil,or_false] at h
  omega
 ·simp only [List.mem_cons,List.not_mem_nil,or_false]
  omega
section
variable {P:Program} {w:World} {K:Frag} {mg:Str→Option Value} {base:Heap} {T C:Addr} {q:Str} {f:Addr} {fd:FuncData}
abbrev cZ:Stmt:=inClass (top 36) 1
abbrev m8:List Str:=["self","word"]
abbrev m9:List Str:=["self","word"]
theorem lj:FnScope m8 m9 (defScope cZ):=⟨rfl,rfl,rfl,by decide+kernel,rfl,by decide+kernel,by decide+kernel⟩
def kR(C:Addr):SpD:=fun ws m Q _=>∃n z a x,ws=[.loc n,.v (.str x)]∧RdA C m n z a∧Q (.v (.bl (ahe z x a))) m
theorem xX(FD:FunD K "ahead" q (defArgs cZ) (defBody cZ) (defScope cZ) [] [] f fd)(cl:Cls K C)(na:∀x∈rdN,NoAttr K C x):
  FnOk P w K mg base (L2N.CX P w) 1 f fd ["self","word"] (lift K (kR C)):=by
 refine vj FD lj (fun ws m Q Qx h=>?_) (fun cdv A outer s H E hr=>⟨_,(af (aq (nQ (aR K 0) (aa (dv 1) (aa (aR K 0) ac))))),fun ws m Qd Qx h=>?_⟩)
 ·obtain ⟨n,z,a,x,rfl,_⟩:=h
  rfl
 obtain ⟨n,z,a,x,rfl,hm,qf⟩:=h
 have n1:NoAttr K C "text":=na _ (by simp [rdN])
 have n2:NoAttr K C "at":=na _ (by simp [rdN])
 have zs:z.length≤sizeLine:=hm.sz
 exact ⟨n,C,_,_,rfl,hm.at_,cl,n1,rfl,trivial,n,C,_,_,rfl,hm.at_,cl,n2,rfl,qf⟩
abbrev dj:Stmt:=inClass (top 36) 2
abbrev nR:List Str:=["self","word","letter"]
abbrev nS:List Str:=["self","word"]
theorem ik:FnScope nR nS (defScope dj):=⟨rfl,rfl,rfl,by decide+kernel,rfl,by decide+kernel,by decide+kernel⟩
def oB(T C:Addr):SpD:=fun ws m Q Qx=>∃n z a x,ws=[.loc n,.v (.str x)]∧RdA C m n z a∧rdQ T C n z (fun _=>.non) m Q Qx (cA (tl x) z a)
theorem zW(FD:FunD K "take" q (defArgs dj) (defBody dj) (defScope dj) [] [] f fd)(cl:Cls K C)(na:∀x∈rdN,NoAttr K C x)(c_IT:mg "InvalidText"=some (.ref T))(M:OexM P w K mg base 1 T (cb T 1 fun vs=>[(("at":Str),vs.headD .non),(("code":Str),V.str "InvalidText")])):
  FnOk P w K mg base (L2N.CX P w) 3 f fd ["self","word"] (lift K (oB T C)):=by
 refine vj FD ik (fun ws m Q Qx h=>?_) (fun cdv A outer s H E hr=>⟨_,(af (i9 (passes_of rfl) rfl (b8 (dv 1)) (az (i:=2) ik.nd rfl (.inl rfl))
   (ad (aW (ay (gZ (u64 hr)) (cP (aR K 0) (aZ (aR K 0)) (aZ (aM aG (aR K 0) ah))) (dv 2) (nomark _))
    (af (bU (f:="at") M (hr.mono (by omega)) c_IT rfl (L2N.takes_of rfl rfl rfl rfl) (aa (aR K 0) ac)))
    aD)
   (af (pK (dv 0) ah))))),fun ws m Qd Qx h=>?_⟩)
 ·obtain ⟨n,z,a,x,rfl,_⟩:=h
  rfl
 obtain ⟨n,z,a,x,rfl,hm,qf⟩:=h
 have n1:NoAttr K C "text":=na _ (by simp [rdN])
 have n2:NoAttr K C "at":=na _ (by simp [rdN])
 have zs:z.length≤sizeLine:=hm.sz
 have hl:=hm.lt
 have ln:=sizeLine_eq
 show bY (gN 2) _ (chD x) _ m _
 refine iS (fun j en m'=>(∃y,en=[some (.loc n),some (.v (.str x)),y])∧RdA C m' n z (a+j)∧(∀u:MO,m'.set n u=m.set n u)∧cA (tl x) z a=cA ((tl x).drop j) z (a+j)) ⟨⟨_,rfl⟩,hm,fun _=>rfl,rfl⟩ (fun j d en m' N' hd hi r1 r2 r3 hn'=>?_) (fun en m' hi=>?_)
 ·obtain ⟨⟨y,rfl⟩,hm',hu,he⟩:=hi
  have hj:j<(tl x).length:=by
   have:=(List.getElem?_eq_some_iff.mp hd).1
   unfold chD at this
   rwa [List.length_map] at this
  have ed:d=.str ⟨#[(tl x)[j]]⟩:=by
   have z:(chD x)[j]? =some (D.str ⟨#[(tl x)[j]]⟩):=by
    unfold chD
    rw [List.getElem?_map,List.getElem?_eq_getElem hj]
    rfl
   rw [hd] at z
   exact Option.some.inj z
  subst ed
  rw [List.drop_eq_getElem_cons hj] at he
  have le:=hm'.le
  refine ⟨n,C,_,_,rfl,hm'.at_,cl,n1,rfl,n,C,_,_,rfl,hm'.at_,cl,n2,rfl,n,C,_,_,rfl,hm'.at_,cl,n2,rfl,zs,rfl,rfl,Nat.zero_le _,Nat.zero_le _,aN (fun c=>?_) (fun c=>?_)⟩
  ·have c:(!(Txt.slice z (some ((a+j:Nat):Int)) (some (((a+j:Nat):Int)+1)) == (⟨#[(tl x)[j]]⟩:Str)))=true:=c
   rw [kz] at c
   have he:cA (tl x) z a=.er (a+j):=by
    rw [he]
    show (if (tl z)[a+j]? =some (tl x)[j] then _ else _)=_
    rw [if_neg (by simpa using c)]
   rw [he] at qf
   refine ⟨n,C,_,_,rfl,hm'.at_,cl,n2,rfl,?_⟩
   show N'.xc _ _
   rw [r2]
   have y:=qf (a+j)
   rw [←hu,hm'.same] at y
   exact y
  ·have c:(!(Txt.slice z (some ((a+j:Nat):Int)) (some (((a+j:Nat):Int)+1)) == (⟨#[(tl x)[j]]⟩:Str)))=false:=c
   rw [kz] at c
   have c:(tl z)[a+j]? =some (tl x)[j]:=by simpa using c
   have he:cA (tl x) z a=cA ((tl x).drop (j+1)) z (a+j+1):=by
    rw [he]
    show (if (tl z)[a+j]? =some (tl x)[j] then _ else _)=_
    rw [if_pos c]
   have l1:a+(j+1)≤z.length:=(List.getElem?_eq_some_iff.mp c).1
   refine pJ hm'.at_ ⟨cl,n2,_,rfl,_,rfl,pJ hm'.at_ ⟨rfl,by show 2<1000; decide,?_⟩⟩
   show N'.nx _ _
   have s2:=hm'.set l1
   exact (hn' _ _ ⟨⟨_,rfl⟩,s2,fun u=>by rw [←hu]; exact List.set_set ..,he⟩).1
 ·obtain ⟨⟨y,rfl⟩,hm',hu,he⟩:=hi
  have e:(chD x).length=(tl x).length:=by unfold chD; rw [List.length_map]
  rw [e,List.drop_length] at he
  rw [he] at qf
  have y:Qd (.v .non) (m.set n (.ins C (rdF z (a+(tl x).length)))):=qf
  rw [e] at hm'
  rw [←hu,hm'.same] at y
  exact y
abbrev bW:Stmt:=inClass (top 36) 3
abbrev kA:List Str:=["self","begin"]
abbrev kB:List Str:=["self"]
theorem fj:FnScope kA kB (defScope bW):=⟨rfl,rfl,rfl,by decide+kernel,rfl,by decide+kernel,by decide+kernel⟩
def uw(C:Addr):SpD:=fun ws m Q _=>∃n z a,ws=[.loc n]∧RdA C m n z a∧Q (.v (.str (wdz z a (bq (tl z) a)))) (m.set n (.ins C (rdF z (bq (tl z) a))))
theorem sP(FD:FunD K "letters" q (defArgs bW) (defBody bW) (defScope bW) [] [] f fd)(cl:Cls K C)(na:∀x∈rdN,NoAttr K C x)(m_len:mg "len"=none){u:Value}(c_L:mg "LETTERS"=some u)(r_L:RelV (.str "abcdefghijklmnopqrstuvwxyz") u):
  FnOk P w K mg base (L2N.CX P w) 2 f fd ["self"] (lift K (uw C)):=by
 refine vj FD fj (fun ws m Q Qx h=>?_) (fun cdv A outer s H E hr=>⟨_,(ad (aC (i:=1) fj.nd rfl (.inl rfl) (aR K 0))
  (ad (gS (passes_of rfl) (DW.dt (i8 (ay mh (aR K 0) (dm m_len (aa (aR K 0) ac)) (nomark _)) (lA (ay (qk (u65 hr)) (bc (aR K 0) (aR K 0)) (j6 c_L r_L (fun _=>.str (by decide+kernel))) (by rfl)))))
   (af (pK (dv 0) ah)))
  (af (aq (cP (aR K 0) (aZ (dv 1)) (aZ (aR K 0))))))),fun ws m Qd Qx h=>?_⟩)
 ·obtain ⟨n,z,a,rfl,_⟩:=h
  rfl
 obtain ⟨n,z,a,rfl,hm,qf⟩:=h
 have n1:NoAttr K C "text":=na _ (by simp [rdN])
 have n2:NoAttr K C "at":=na _ (by simp [rdN])
 have zs:z.length≤sizeLine:=hm.sz
 have ln:=sizeLine_eq
 have zl:z.length=(tl z).length:=rfl
 refine ⟨n,C,_,_,rfl,hm.at_,cl,n2,rfl,?_⟩
 refine jD (fun f en m'=>∃e:Nat,en=[some (.loc n),some (.v (.int (a:Nat)))]∧RdA C m' n z e∧(∀u:MO,m'.set n u=m.set n u)∧f+e=z.length+1∧mX (tl z) f e=bq (tl z) a) (z.length+1 - a) ⟨a,rfl,hm,fun _=>rfl,by have:=hm.le; omega,rfl⟩ ?_
 rintro f en m' N' ⟨e,rfl,hm',hu,hf,he⟩ r1 r2 r3 hn
 have le:=hm'.le
 obtain ⟨f,rfl⟩:∃k,f=k+1:=⟨f - 1,by omega⟩
 have fin:(decide (e<(tl z).length)&&jq ((tl z).getD e 0))=false→lY (Be (vH K "text" (tV 0)) (wz (tV 1)) (wz (vH K "at" (tV 0)))) [some (.loc n),some (.v (.int (a:Nat)))] m' (uZ Qd Qx):=fun g=>by
  unfold mX at he
  rw [if_neg (by rw [g]; decide)] at he
  rw [←he] at qf
  rw [←hu,hm'.same] at qf
  exact ⟨n,C,_,_,rfl,hm'.at_,cl,n1,rfl,n,C,_,_,rfl,hm'.at_,cl,n2,rfl,zs,qf⟩
 refine ⟨n,C,_,_,rfl,hm'.at_,cl,n2,rfl,n,C,_,_,rfl,hm'.at_,cl,n1,rfl,zs,aN (fun c1=>?_) (fun c1=>?_)⟩
 ·have c1:(e:Int)<(z.length:Int):=of_decide_eq_true c1
  have hk:e<(tl z).length:=by omega
  have eD:(tl z).getD e 0=(tl z)[e]:=by rw [List.getD_eq_getElem?_getD,List.getElem?_eq_getElem hk]; rfl
  refine ⟨n,C,_,_,rfl,hm'.at_,cl,n1,rfl,n,C,_,_,rfl,hm'.at_,cl,n2,rfl,zs,(tl z)[e],atI_nat (List.getElem?_eq_getElem hk),?_⟩
  rw [←eD]
  refine aN (fun c3=>?_) (fun c3=>?_)
  ·have c3:kc ⟨#[(tl z).getD e 0]⟩ "abcdefghijklmnopqrstuvwxyz"=true:=c3
   rw [pO] at c3
   refine pJ hm'.at_ ⟨cl,n2,_,rfl,_,rfl,pJ hm'.at_ ⟨rfl,by show 2<1000; decide,?_⟩⟩
   unfold mX at he
   rw [if_pos (by rw [c3,decide_eq_true hk]; rfl)] at he
   exact (hn f _ _ (by omega) ⟨e+1,rfl,hm'.set (by omega),fun u=>by rw [←hu]; exact List.set_set ..,by omega,he⟩).1
  ·have c3:kc ⟨#[(tl z).getD e 0]⟩ "abcdefghijklmnopqrstuvwxyz"=false:=c3
   rw [pO] at c3
   exact fin (by rw [c3,Bool.and_false])
 ·have c1:¬(e:Int)<(z.length:Int):=of_decide_eq_false c1
  exact fin (by rw [decide_eq_false (by omega),Bool.false_and])
abbrev cr:Stmt:=inClass (top 36) 5
abbrev lm:List Str:=["self"]
abbrev lr:List Str:=["self"]
theorem kF:FnScope lm lr (defScope cr):=⟨rfl,rfl,rfl,by decide+kernel,rfl,by decide+kernel,by decide+kernel⟩
def A1(T C:Addr):SpD:=fun ws m Q Qx=>∃n z a,ws=[.loc n]∧RdA C m n z a∧(a=z.length→Q (.v .non) m)∧(a≠z.length→Qx (bI T a) m)
theorem vK(FD:FunD K "finish" q (defArgs cr) (defBody cr) (defScope cr) [] [] f fd)(cl:Cls K C)(na:∀x∈rdN,NoAttr K C x)(m_len:mg "len"=none)(c_IT:mg "InvalidText"=some (.ref T))(M:OexM P w K mg base 1 T (cb T 1 fun vs=>[(("at":Str),vs.headD .non),(("code":Str),V.str "InvalidText")])):
  FnOk P w K mg base (L2N.CX P w) 3 f fd ["self"] (lift K (A1 T C)):=by
 refine vj FD kF (fun ws m Q Qx h=>?_) (fun cdv A outer s H E hr=>⟨_,(af (aW (ay (gZ (u64 hr)) (aR K 0) (dm m_len (aa (aR K 0) ac)) (nomark _))
   (af (bU (f:="at") M (hr.mono (by omega)) c_IT rfl (L2N.takes_of rfl rfl rfl rfl) (aa (aR K 0) ac)))
   aD)),fun ws m Qd Qx h=>?_⟩)
 ·obtain ⟨n,z,a,rfl,_⟩:=h
  rfl
 obtain ⟨n,z,a,rfl,hm,q1,q2⟩:=h
 have n1:NoAttr K C "text":=na _ (by simp [rdN])
 have n2:NoAttr K C "at":=na _ (by simp [rdN])
 have zs:z.length≤sizeLine:=hm.sz
 have ln:=sizeLine_eq
 have le:=hm.len
 refine ⟨n,C,_,_,rfl,hm.at_,cl,n2,rfl,n,C,_,_,rfl,hm.at_,cl,n1,rfl,zs,rfl,rfl,Nat.zero_le _,Nat.zero_le _,aN (fun c=>?_) (fun c=>?_)⟩
 ·have c:(!((a:Int) == (z.length:Int)))=true:=c
  exact ⟨n,C,_,_,rfl,hm.at_,cl,n2,rfl,q2 fun e=>by rw [e] at c; simp at c⟩
 ·have c:(!((a:Int) == (z.length:Int)))=false:=c
  exact q1 (by
   have c:(a:Int)=(z.length:Int):=by simpa using c
   omega)
end
open TL NumText
section
variable {l s r:List Nat} {a:Nat}
theorem c9{c:Nat}(h:l.drop a=c::s):a<l.length∧l[a]? =some c∧l.getD a 0=c∧l.drop (a+1)=s:=by
 have lt:a<l.length:=by
  by_cases z:a<l.length
  ·exact z
  ·rw [List.drop_of_length_le (by omega)] at h
   cases h
 rw [List.drop_eq_getElem_cons lt] at h
 injection h with h1 h2
 exact ⟨lt,by rw [List.getElem?_eq_getElem lt,h1],by rw [List.getD_eq_getElem?_getD,List.getElem?_eq_getElem lt,h1]; rfl,h2⟩
theorem gm(h:l.drop a=s++r):l.drop (a+s.length)=r:=by
 rw [←List.drop_drop,h,List.drop_left]
theorem iV(h:l.drop a=s++r)(ha:a≤l.length):a+s.length≤l.length:=by
 have z:=congrArg List.length h
 rw [List.length_drop,List.length_append] at z
 omega
def NoL(r:List Nat):Prop:=∀c t,r=c::t→jq c=false
def NoD(r:List Nat):Prop:=∀c t,r=c::t→¬(48≤c∧c≤57)
theorem ux:∀{s:List Nat} {f a:Nat},l.drop a=s++r→(∀c∈s,jq c=true)→NoL r→s.length<f→mX l f a=a+s.length
 | [],f+1,a,h,_,hr,_=>by
  have h:l.drop a=r:=h
  unfold mX
  rw [if_neg]
  ·rfl
  intro z
  obtain ⟨z1,z2⟩:=Bool.and_eq_true_iff.mp z
  have z1:=of_decide_eq_true z1
  rw [List.drop_eq_getElem_cons z1] at h
  have y:=hr _ _ h.symm
  rw [List.getD_eq_getElem?_getD,List.getElem?_eq_getElem z1] at z2
  rw [show jq l[a]=true from z2] at y
  cases y
 | c::s,f+1,a,h,hs,hr,hf=>by
  obtain ⟨lt,_,gd,dr⟩:=c9 h
  unfold mX
  rw [gd,hs c List.mem_cons_self,decide_eq_true lt,if_pos (show (true&&true)=true from rfl)]
  rw [ux dr (fun c hc=>hs c (List.mem_cons_of_mem _ hc)) hr (by simpa using hf),List.length_cons]
  omega
theorem uy(h:l.drop a=s++r)(ha:a≤l.length)(hs:∀c∈s,jq c=true)(hr:NoL r):bq l a=a+s.length:=
 ux h hs hr (by have:=iV h ha; omega)
end
theorem iF{x y:Str}(h:tl x=tl y):x=y:=by
 cases x with | mk a=>cases y with | mk b=>exact congrArg Str.mk (Array.toList_inj.mp h)
section
variable {z x:Str} {r:List Nat} {a:Nat}
theorem xY(h:(tl z).drop a=tl x++r):wdz z a (a+(tl x).length)=x:=by
 refine iF ?_
 show (Txt.slice z _ _).cps.toList=_
 rw [df]
 unfold bO
 rw [show a+(tl x).length - a=(tl x).length by omega]
 show ((tl z).drop a).take _=_
 rw [h,List.take_left]
theorem jR:∀{w:List Nat} {a:Nat},(tl z).drop a=w++r→cA w z a=.ok () (a+w.length)
 | [],_,_=>rfl
 | c::w,a,h=>by
  obtain ⟨_,e,_,dr⟩:=c9 h
  unfold cA
  rw [if_pos (show (tl' z)[a]? =some c from e),jR dr,List.length_cons]
  congr 1
  omega
theorem pQ(ha:a≤z.length):ahe z x a=(decide (a+x.length≤z.length)&&decide (((tl z).drop a).take x.length=tl x)):=by
 have e:fromIndex z.length (a:Int)=a:=by
  unfold fromIndex
  rw [if_neg (by omega)]
  omega
 show (decide (fromIndex z.length (a:Int)+x.length≤z.length)&&Builtin.Str.subAt z x (fromIndex z.length (a:Int)))=_
 rw [e]
 congr 1
 unfold Builtin.Str.subAt
 have y:(z.cps.extract a (a+x.length)).toList=((tl z).drop a).take x.length:=by
  rw [Array.toList_extract]
  simp [List.extract_eq_drop_take]
 rw [←y]
 by_cases c:z.cps.extract a (a+x.length)=x.cps
 ·rw [c,decide_eq_true rfl]
  exact beq_self_eq_true _
 ·rw [decide_eq_false fun k=>c (Array.toList_inj.mp k)]
  exact beq_eq_false_iff_ne.mpr c
theorem lR(h:(tl z).drop a=tl x++r)(ha:a≤z.length):ahe z x a=true:=by
 have l:a+(tl x).length≤(tl z).length:=iV h ha
 rw [pQ ha,decide_eq_true (show a+x.length≤z.length from l),h,decide_eq_true]
 ·rfl
 ·exact List.take_left
theorem pR{c:Nat}(hx:tl x=[c])(h:(tl z).drop a=r)(hr:∀t,r≠c::t)(ha:a≤z.length):ahe z x a=false:=by
 have x1:x.length=1:=show (tl x).length=1 by rw [hx]; rfl
 rw [pQ ha,h,hx,x1]
 have:decide (List.take 1 r=[c])=false:=by
  refine decide_eq_false fun k=>?_
  cases r with
  | nil=>cases k
  | cons d t=>
   have k: [d]=[c]:=k
   cases k
   exact hr t rfl
 rw [this,Bool.and_false]
theorem uA{l d:List Nat}(hd:AllDigits d)(hz:d=[48]∨∀c r,d=c::r→49≤c)(h12:d.length≤12)(hr:NoD r):∀{t s:List Nat} {f a:Nat},d=s++t→l.drop a=d++r→a≤l.length→t.length<f→nI l a f (a+s.length)=a+d.length
 | [],s,f+1,a,e,h,ha,_=>by
  rw [List.append_nil] at e
  subst e
  unfold nI
  rw [if_neg]
  intro g
  unfold goes at g
  simp only [Bool.and_eq_true,decide_eq_true_eq] at g
  obtain ⟨g1,_,g3,_⟩:=g
  have dr:=gm h
  rw [List.drop_eq_getElem_cons g1] at dr
  rw [List.getD_eq_getElem?_getD,List.getElem?_eq_getElem g1] at g3
  exact hr _ _ dr.symm g3
 | c::t,s,f+1,a,e,h,ha,hf=>by
  have h2:l.drop (a+s.length)=c::(t++r):=by
   refine gm (s:=s) ?_
   rw [h,e,List.append_assoc]
   rfl
  obtain ⟨lt,_,gd,_⟩:=c9 h2
  have sb:bO l a (a+s.length)=s:=by
   unfold bO
   rw [h,e,List.append_assoc,show a+s.length - a=s.length by omega,List.take_left]
  have ld:d.length=s.length+(t.length+1):=by rw [e,List.length_append]; rfl
  have g:goes l a (a+s.length)=true:=by
   unfold goes
   rw [gd,sb,decide_eq_true lt,decide_eq_true (by omega),decide_eq_true (hd c (by rw [e]; simp))]
   have:s≠[48]:=fun k=>by
    subst k
    rcases hz with y | y
    ·rw [y] at e
     cases e
    ·have:=y 48 (c::t) e
     omega
   rw [decide_eq_false this]
   rfl
  unfold nI
  rw [if_pos g]
  have ih:=uA hd hz h12 hr (t:=t) (s:=s++[c]) (f:=f) (a:=a) (by rw [e,List.append_assoc]; rfl) h ha (by simpa using hf)
  rw [List.length_append,←Nat.add_assoc] at ih
  exact ih
theorem il(n:Nat):AllDigits (numL n):=by
 induction n using Nat.strongRecOn with
 | _ n ih=>
  by_cases h:n<10
  ·rw [numL_lt h]
   intro c hc
   rw [List.mem_singleton.mp hc]
   omega
  ·rw [numL_step (by omega)]
   intro c hc
   rcases List.mem_append.mp hc with hc | hc
   ·exact ih (n / 10) (by omega) c hc
   ·rw [List.mem_singleton.mp hc]
    omega
end
def Stp1(r:List Nat):Prop:=∃t,r=41::t∨r=44::t
theorem Stp1.noL{r:List Nat}(h:Stp1 r):NoL r:=by
 obtain ⟨t,rfl | rfl⟩:=h <;> (intro c t e; injection e with e1 e2; subst e1; decide)
def more(xs:List (List Nat×D)):List Nat:=xs.flatMap fun p=>44::32::p.1
def rsR:Rs→Rr (Int×Int)
 | .er b=>.er b
 | .ok v e=>.ok v e
def xZ(z:Str)(a:Nat):Rr (Int×Int):=rsR (mI (tl' z) a)
def dgA(z:Str)(a:Nat):Bool:=match (tl' z)[a]? with
 | some c=>decide (48≤c∧c≤57)
 | none=>false
def sQ(s:Int)(v:Int×Int)(x:Str):D:=.tup [.tup [.int (s * v.1),.int v.2],.str x]
def jr(x y:Str):Str:=((Str.empty++x)++".")++y
def nU(z:Str)(s:Int)(v:Int×Int)(a:Nat):Rr D:=(cA (tl' ".") z (bq (tl' z) a)).bind fun _ b=>
 if cG false (jr (wdz z a (bq (tl' z) a)) (wdz z b (bq (tl' z) b)))=true then .ok (sQ s v (jr (wdz z a (bq (tl' z) a)) (wdz z b (bq (tl' z) b)))) (bq (tl' z) b) else .er a
def gp(z:Str)(s:Int)(a:Nat):Rr D:=
 if dgA z a=true then (if ahe z "0" a=true then .er a else (xZ z a).bind fun v e=>
  if ahe z "*" e=false then .ok (sQ s v "one") e else if (v == (1,1))=true then .er e else (cA (tl' "*") z e).bind fun _ b=>nU z s v b)
 else nU z s (1,1) a
theorem zX{l:List Nat}{a:Nat}(h:a≤l.length):(rsR (mI l a)).In a l.length:=by
 have r1:=lN l a
 have l1:=r1.lenE h
 unfold mI
 split
 ·exact h
 ·rename_i h1
  split
  ·exact ⟨r1.le,l1⟩
  ·rename_i h2
   have h2:bO l (a7 l a) (a7 l a+1)=[47]:=Classical.not_not.mp h2
   have l2:a7 l a+1≤l.length:=by
    have z:=congrArg List.length h2
    unfold bO at z
    rw [List.length_take,List.length_drop] at z
    have z:min (a7 l a+1 - a7 l a) (l.length - a7 l a)=1:=z
    omega
   have r2:=lN l (a7 l a+1)
   have l3:=r2.lenE l2
   split
   ·exact l2
   ·split
    ·exact l2
    ·exact ⟨by have:=r1.le; have:=r2.le; omega,l3⟩
theorem uB{z:Str}{a:Nat}(h:a≤z.length):(xZ z a).In a z.length:=zX (l:=tl' z) h
theorem uD{z:Str}{s:Int}{v:Int×Int}{a:Nat}(h:a≤z.length):(nU z s v a).In a z.length:=by
 have l1:=lQ (l:=tl' z) h
 refine Rr.In.from l1.1 ((d0 l1.2).bind fun _ b _ _ hb=>?_)
 have l2:=lQ (l:=tl' z) hb
 split
 ·exact l2
 ·exact h
theorem lS{z:Str}{s:Int}{a:Nat}(h:a≤z.length):(gp z s a).In a z.length:=by
 unfold gp
 split
 ·split
  ·exact h
  ·refine (uB h).bind fun v e _ _ h1=>?_
   split
   ·exact ⟨Nat.le_refl _,h1⟩
   ·split
    ·exact h1
    ·exact (d0 h1).bind fun _ b _ _ h2=>uD h2
 ·exact uD h
def gF(z:Str):Nat→Nat→Rr (List D)
 | 0,a=>.er a
 | f+1,a=>if (ahe z " +" a||ahe z " -" a)=true then (cA (tl' " ") z (a+2)).bind fun _ b=>(gp z (if ahe z " +" a=true then 1 else -1) b).bind fun v b=>(gF z f b).bind fun vs b=>.ok (v::vs) b
  else .ok [] a
theorem x0{z x:Str}{a:Nat}(ha:a≤z.length)(h:ahe z x a=true):a+x.length≤z.length:=by
 rw [pQ ha] at h
 exact of_decide_eq_true (Bool.and_eq_true_iff.mp h).1
theorem sR{z:Str}{a:Nat}(ha:a≤z.length)(h:(ahe z " +" a||ahe z " -" a)=true):a+2≤z.length:=by
 rcases Bool.or_eq_true_iff.mp h with h | h
 ·exact x0 ha h
 ·exact x0 ha h
theorem uF{z:Str}:∀{f a:Nat},a≤z.length→(gF z f a).In a z.length
 | 0,_,h=>h
 | f+1,a,h=>by
  unfold gF
  split
  ·rename_i c
   exact Rr.In.from (by omega) ((d0 (sR h c)).bind fun _ _ _ _ h1=>(lS h1).bind fun _ _ _ _ h2=>(uF h2).bind fun _ _ _ _ h3=>⟨Nat.le_refl _,h3⟩)
  ·exact ⟨Nat.le_refl _,h⟩
def pS(z:Str)(a:Nat):Rr D:=(if ahe z "-" a=true then cA (tl' "-") z a else .ok () a).bind fun _ b=>
 (gp z (if ahe z "-" a=true then -1 else 1) b).bind fun v b=>(gF z (rp z) b).bind fun vs b=>.ok (.tup (v::vs)) b
theorem zY{z:Str}{a:Nat}(h:a≤z.length):(pS z a).In a z.length:=by
 refine Rr.In.bind ?_ fun _ _ _ _ h1=>(lS h1).bind fun _ _ _ _ h2=>(uF h2).bind fun _ _ _ _ h3=>⟨Nat.le_refl _,h3⟩
 split
 ·exact d0 h
 ·exact ⟨Nat.le_refl _,h⟩
theorem C7{cs:List Nat}(h:NumText.AllDigits cs):NumText.digitsVal cs<10 ^ cs.length:=by
 have go:∀(cs:List Nat) (a:Nat),(∀c∈cs,48≤c∧c≤57)→cs.foldl (fun acc c=>acc * 10+(c - 48)) a<(a+1) * 10 ^ cs.length:=fun cs=>by
  induction cs with
  | nil=>intro a _; simp
  | cons c cs ih=>
   intro a h
   have hc:=h c List.mem_cons_self
   rw [List.foldl_cons,List.length_cons]
   refine Nat.lt_of_lt_of_le (ih _ fun d hd=>h d (List.mem_cons_of_mem _ hd)) ?_
   rw [Nat.pow_succ,Nat.mul_comm (10 ^ cs.length) 10,←Nat.mul_assoc]
   exact Nat.mul_le_mul_right _ (by omega)
 have z:=go cs 0 h
 rw [Nat.zero_add,Nat.one_mul] at z
 exact z
theorem pU(l:List Nat)(a:Nat):eH l a (a7 l a)<10 ^ 12:=by
 have r:=lN l a
 refine Nat.lt_of_lt_of_le (C7 r.dg) (Nat.pow_le_pow_right (by decide) ?_)
 unfold bO
 rw [List.length_take]
 have:=r.most
 omega
theorem zZ{l:List Nat}{a e:Nat}{v:Int×Int}(h:mI l a=.ok v e):v.1.natAbs<10 ^ 12∧v.2.natAbs<10 ^ 12:=by
 unfold mI at h
 split at h
 ·cases h
 ·split at h
  ·cases h
   exact ⟨by have:=pU l a; rw [Int.natAbs_natCast]; exact this,by show (1:Int).natAbs<_; decide⟩
  ·split at h
   ·cases h
   ·split at h
    ·cases h
    ·cases h
     exact ⟨by have:=pU l a; rw [Int.natAbs_natCast]; exact this,by have:=pU l (a7 l a+1); rw [Int.natAbs_natCast]; exact this⟩
theorem x8{s i:Int}(hs:s=1∨s= -1)(hi:i.natAbs<10 ^ 12):CMulW s i:=by
 unfold CMulW
 have h1:s.natAbs.log2=0:=by rcases hs with rfl | rfl <;> rfl
 have h2:=log2_lt hi
 omega
open TL
theorem rq(s p:List Nat):∀{l:List (List Nat)},l≠[]→joinL s (p::l)=p++(s++joinL s l)
 | [],h=>absurd rfl h
 | _::_,_=>rfl
theorem x9(c:Nat):∀(l acc:List Nat),spl [c] 0 acc l≠[]
 | [],acc=>by intro h; cases h
 | x::l,acc=>by
  show (if pre [c] (x::l)=true then acc::spl [c] 0 [] l else spl [c] 0 (acc++[x]) l)≠[]
  split
  ·intro h; cases h
  ·exact x9 c l _
theorem pV(c:Nat):∀(l acc:List Nat),joinL [c] (spl [c] 0 acc l)=acc++l
 | [],acc=>by
  show acc=_
  rw [List.append_nil]
 | x::l,acc=>by
  show joinL [c] (if pre [c] (x::l)=true then acc::spl [c] 0 [] l else spl [c] 0 (acc++[x]) l)=_
  have e1:pre [c] (x::l)=decide (x=c):=by
   show ([x] == [c])=_
   by_cases h:x=c
   ·subst h; simp
   ·simp [h]
  rw [e1]
  by_cases h:x=c
  ·rw [decide_eq_true h,if_pos rfl,rq _ _ (x9 c l []),pV c l []]
   subst h
   rfl
  ·rw [decide_eq_false h,if_neg (by simp),pV c l (acc++[x]),List.append_assoc]
   rfl
theorem vL{x a b:Str}(h:aA x=[a,b]):tl x=tl a++46::tl b:=by
 have z:=pV 46 (tl x) []
 rw [←jQ,h] at z
 have z:tl a++([46]++tl b)=[]++tl x:=z
 rw [List.nil_append] at z
 rw [←z]
 rfl
theorem BO{x:Str}(h:thS x=true):(∀c∈tl x,jq c=true)∧1≤(tl x).length∧(tl x).length≤4:=by
 unfold thS at h
 obtain ⟨h1,h⟩:=Bool.and_eq_true_iff.mp h
 obtain ⟨h2,h⟩:=Bool.and_eq_true_iff.mp h
 obtain ⟨_,h⟩:=Bool.and_eq_true_iff.mp h
 have h1:1≤(x.length:Int):=of_decide_eq_true h1
 have h2:(x.length:Int)≤4:=of_decide_eq_true h2
 have e:(tl x).length=x.length:=rfl
 refine ⟨fun c hc=>?_,by omega,by omega⟩
 have z:=List.all_eq_true.mp h (.str ⟨#[c]⟩) (by
  unfold chD
  exact List.mem_map.mpr ⟨c,hc,rfl⟩)
 have z:kc ⟨#[c]⟩ xx=true:=z
 rw [←pO]
 exact z
theorem yb{l:List Str}{x:Str}(h:inL (l.map .str) x=true):x∈l:=by
 unfold inL at h
 obtain ⟨y,hy,e⟩:=List.any_eq_true.mp h
 obtain ⟨z,hz,rfl⟩:=List.mem_map.mp hy
 have e:(z == x)=true:=e
 rw [←eq_of_beq e]
 exact hz
theorem jS{x:Str}(h:cG false x=true):x="one"∨∃a b:Str,tl x=tl a++46::tl b∧(∀c∈tl a,jq c=true)∧(∀c∈tl b,jq c=true)∧1≤(tl a).length∧(tl a).length≤4∧1≤(tl b).length∧(tl b).length≤6:=by
 unfold cG at h
 rcases Bool.or_eq_true_iff.mp h with h | h
 ·exact .inl (eq_of_beq h)
 refine .inr ?_
 rcases Bool.or_eq_true_iff.mp h with h | h
 ·have h:inL (([("room.w":Str),"room.h"]:List Str).map .str) x=true:=h
  have h:=yb h
  simp only [List.mem_cons,List.not_mem_nil,or_false] at h
  rcases h with rfl | rfl
  ·exact ⟨"room","w",by decide+kernel,by decide+kernel,by decide+kernel,by decide+kernel,by decide+kernel,by decide+kernel,by decide+kernel⟩
  ·exact ⟨"room","h",by decide+kernel,by decide+kernel,by decide+kernel,by decide+kernel,by decide+kernel,by decide+kernel,by decide+kernel⟩
 ·rw [if_neg (by decide)] at h
  unfold cw at h
  split at h
  ·rename_i a b hp
   obtain ⟨h1,h2⟩:=Bool.and_eq_true_iff.mp h
   obtain ⟨t1,t2,t3⟩:=BO h1
   have h2:inL (([("w":Str),"h","left","right","top","bottom"]:List Str).map .str) b=true:=h2
   have h2:=yb h2
   simp only [List.mem_cons,List.not_mem_nil,or_false] at h2
   refine ⟨a,b,vL hp,t1,?_,t2,t3,?_⟩
   ·rcases h2 with rfl | rfl | rfl | rfl | rfl | rfl <;> decide+kernel
   ·rcases h2 with rfl | rfl | rfl | rfl | rfl | rfl <;> decide+kernel
  ·cases h
theorem ng{x:Str}(h:cG false x=true):(tl x).length≤11:=by
 rcases jS h with rfl | ⟨a,b,e,_,_,_,h2,_,h4⟩
 ·decide+kernel
 ·rw [e,List.length_append,List.length_cons]
  omega
def ofL(l:List Nat):Str:=⟨l.toArray⟩
theorem BP(l:List Nat):tl (ofL l)=l:=rfl
theorem cB{x:Str}{l:List Nat}(h:tl x=l):x=ofL l:=iF (h.trans (BP l).symm)
def gM(a b:Int)(x:Str):List Nat:=if (x == "one")=true then tl (frT ((a.natAbs:Nat),b)) else if (((a.natAbs:Nat):Int) == 1&&b == 1)=true then tl x else tl (frT ((a.natAbs:Nat),b))++42::tl x
def itW:D→List Nat
 | .tup [.tup [.int a,.int b],.str x]=>gM a b x
 | _=>[]
def itN:D→Bool
 | .tup [.tup [.int a,_],_]=>decide (a<0)
 | _=>false
def sgL(d:D):Nat:=if itN d=true then 45 else 43
def itM(d:D):List Nat:=32::sgL d::32::itW d
def itH(d:D):List Nat:=if itN d=true then 45::itW d else itW d
def cI:List D→List Nat
 | []=>[]
 | d::ds=>itH d++ds.flatMap itM
def bX(its:List D):Str:=ofL (cI its)
def fxT:List D→List D
 | []=>[]
 | d::ds=>.str (ofL (itH d))::ds.map fun d=>.str (ofL (itM d))
def fxS:List D→List Str
 | []=>[]
 | d::ds=>ofL (itH d)::ds.map fun d=>ofL (itM d)
theorem pW:∀its,fxT its=(fxS its).map .str
 | []=>rfl
 | d::ds=>by
  show _::_=_::List.map _ (List.map _ ds)
  rw [List.map_map]
  rfl
theorem z7(its:List D):Txt.join "" (fxS its)=bX its:=by
 refine iF ?_
 show (Txt.join "" (fxS its)).cps.toList=cI its
 rw [mE]
 cases its with
 | nil=>rfl
 | cons d ds=>
  show itH d++(ds.map fun d=>ofL (itM d)).flatMap _=itH d++ds.flatMap itM
  congr 1
  induction ds with
  | nil=>rfl
  | cons y ys ih=>rw [List.map_cons,List.flatMap_cons,List.flatMap_cons,ih]; rfl
theorem yc{d:D}:∀{its:List D},its≠[]→fxT (its++[d])=fxT its++[.str (ofL (itM d))]
 | [],h=>absurd rfl h
 | x::xs,_=>by
  show _::(xs++[d]).map _=_
  rw [List.map_append]
  rfl
theorem eM{d:D}(h:a9 false d=true):∃(a b:Int) (x:Str),d=.tup [frD (a,b),.str x]∧0<b∧Int.gcd a b=1∧0<a.natAbs∧a.natAbs<10 ^ 6∧b<10 ^ 6∧cG false x=true:=by
 obtain ⟨f,x,rfl,hk,hf,hn⟩:=ul h
 clear hk h
 unfold fO at hf
 split at hf
 ·rename_i a b
  obtain ⟨h1,h2⟩:=Bool.and_eq_true_iff.mp hf
  obtain ⟨h3,h4⟩:=Bool.and_eq_true_iff.mp h2
  obtain ⟨h5,h6⟩:=Bool.and_eq_true_iff.mp h4
  obtain ⟨h7,h8⟩:=Bool.and_eq_true_iff.mp (show (decide (b>0)&&((Int.gcd a b:Nat):Int) == 1)=true from h1)
  have h7:b>0:=of_decide_eq_true h7
  have h8:((Int.gcd a b:Nat):Int)=1:=by simpa using h8
  have h3:0<((a.natAbs:Nat):Int):=of_decide_eq_true h3
  have h5:((a.natAbs:Nat):Int)<lh:=of_decide_eq_true h5
  have h6:b<lh:=of_decide_eq_true h6
  exact ⟨a,b,x,rfl,h7,by omega,by omega,by have:lh=1000000:=rfl; omega,by have:lh=1000000:=rfl; omega,hn⟩
 ·cases hf
theorem lU{d:D}(h:a9 false d=true):(itW d).length≤26:=by
 obtain ⟨a,b,x,rfl,h1,_,h3,h4,h5,h6⟩:=eM h
 have n:=ng h6
 have z:=zM (t:=((a.natAbs:Nat):Int)) (k:=b.toNat) (j:=6) (by decide) (by rw [Int.natAbs_natCast]; exact h4) (by omega)
 rw [Int.toNat_of_nonneg (by omega)] at z
 have z:(tl (frT (((a.natAbs:Nat):Int),b))).length≤14:=z
 show (gM a b x).length≤26
 unfold gM
 split
 ·omega
 ·split
  ·omega
  ·rw [List.length_append,List.length_cons]
   omega
theorem fP{its:List D}(h:aE false (.tup its)=true):(cI its).length≤180:=by
 unfold aE at h
 obtain ⟨_,h⟩:=Bool.and_eq_true_iff.mp h
 obtain ⟨h2,h⟩:=Bool.and_eq_true_iff.mp h
 obtain ⟨h3,_⟩:=Bool.and_eq_true_iff.mp h
 have h2:(its.length:Int)≤6:=of_decide_eq_true h2
 have h3:=List.all_eq_true.mp h3
 cases its with
 | nil=>exact Nat.zero_le _
 | cons d ds=>
  rw [List.length_cons] at h2
  have w:=lU (h3 d List.mem_cons_self)
  have t:∀l:List D,(∀x∈l,a9 false x=true)→(l.flatMap itM).length≤29 * l.length:=fun l hl=>by
   induction l with
   | nil=>exact Nat.zero_le _
   | cons y ys ih=>
    have w:=lU (hl y List.mem_cons_self)
    have:=ih fun x hx=>hl x (List.mem_cons_of_mem _ hx)
    rw [List.flatMap_cons,List.length_append,List.length_cons]
    show (32::sgL y::32::itW y).length+_≤_
    rw [List.length_cons,List.length_cons,List.length_cons]
    omega
  have t:=t ds fun x hx=>h3 x (List.mem_cons_of_mem _ hx)
  have hh:(itH d).length≤27:=by
   unfold itH
   split
   ·rw [List.length_cons]; omega
   ·omega
  show (itH d++ds.flatMap itM).length≤_
  rw [List.length_append]
  omega
theorem im{d:D}(h:aE false d=true):∃its,d=.tup its∧1≤its.length∧its.length≤6∧(∀x∈its,a9 false x=true):=by
 cases d with
 | tup its=>
  unfold aE at h
  obtain ⟨h1,h⟩:=Bool.and_eq_true_iff.mp h
  obtain ⟨h2,h⟩:=Bool.and_eq_true_iff.mp h
  obtain ⟨h3,_⟩:=Bool.and_eq_true_iff.mp h
  have h1:1≤(its.length:Int):=of_decide_eq_true h1
  have h2:(its.length:Int)≤6:=of_decide_eq_true h2
  exact ⟨its,rfl,by omega,by omega,List.all_eq_true.mp h3⟩
 | _=>cases h
open TL
theorem pX:∀{w:List Nat} {z:Str} {a e:Nat} {u:Unit},cA w z a=.ok u e→e=a+w.length
 | [],_,_,_,_,h=>by cases h; rfl
 | c::w,z,a,e,u,h=>by
  unfold cA at h
  split at h
  ·have:=pX h
   rw [List.length_cons]
   omega
  ·cases h
section
variable {P:Program} {w:World} {K:Frag} {mg:Str→Option Value} {base:Heap} {T C:Addr} {q:Str} {f:Addr} {fd:FuncData}
end
open TL
def eD(d:D):D:=d
theorem yd{z:Str}{a:Nat}:((chD "0123456789").any fun y=>deq y (.str (Txt.slice z (some (a:Int)) (some ((a:Int)+1)))))=dgA z a:=by
 have e:("0123456789":Str).cps.toList=[48,49,50,51,52,53,54,55,56,57]:=by decide+kernel
 have one:∀c,deq (.str ⟨#[c]⟩) (.str (Txt.slice z (some (a:Int)) (some ((a:Int)+1))))=decide ((tl z)[a]? =some c):=fun c=>by
  rw [←kz]
  exact Bool.beq_comm
 unfold chD
 rw [e,List.any_map]
 simp only [Function.comp_def,one,List.any_cons,List.any_nil,Bool.or_false]
 unfold dgA
 cases h:(tl z)[a]? with
 | none=>simp
 | some d=>
  simp only [Option.some.injEq]
  by_cases h1:48≤d∧d≤57
  ·rw [decide_eq_true h1]
   have:d=48∨d=49∨d=50∨d=51∨d=52∨d=53∨d=54∨d=55∨d=56∨d=57:=by omega
   rcases this with h | h | h | h | h | h | h | h | h | h <;> subst h <;> rfl
  ·rw [decide_eq_false h1]
   have:d≠48∧d≠49∧d≠50∧d≠51∧d≠52∧d≠53∧d≠54∧d≠55∧d≠56∧d≠57:=by omega
   simp [this]
theorem uG{z:Str}{a e:Nat}(h:a≤e)(l:e≤z.length):(wdz z a e).length=e - a:=by
 have e1:tl (wdz z a e)=bO (tl z) a e:=df z a e
 show (tl (wdz z a e)).length=_
 rw [e1]
 exact mH h l
theorem ye{x y:Str}:(jr x y).length=x.length+1+y.length:=by
 unfold jr
 rw [Str.length_append,Str.length_append,Str.length_append]
 show 0+x.length+1+y.length=_
 omega
theorem rr{x:Str}:aE false (.tup [.tup [frD (1,1),.str x]])=cG false x:=by
 have f1:fO (frD (1,1))=true:=by decide+kernel
 show (true&&(true&&((a9 false (.tup [frD (1,1),.str x])&&true)&&true)))=_
 show (true&&(true&&(((fO (frD (1,1))&&cG false x)&&true)&&true)))=_
 rw [f1]
 simp
theorem z8{x:Str}(h:x.length≤20000):okX (.tup [.tup [frD (1,1),.str x]]):=by
 refine ⟨by show 1≤20; decide,fun it hi=>?_⟩
 rw [List.mem_singleton.mp hi]
 exact ⟨⟨by decide,by decide⟩,h⟩
section
variable {P:Program} {w:World} {K:Frag} {mg:Str→Option Value} {base:Heap} {T C:Addr} {q:Str} {f:Addr} {fd:FuncData}
abbrev dk:Stmt:=inClass (top 36) 10
abbrev nV:List Str:=["self","sign","factor","begin","name"]
abbrev nW:List Str:=["self","sign"]
theorem bp:FnScope nV nW (defScope dk):=⟨rfl,rfl,rfl,by decide+kernel,rfl,by decide+kernel,by decide+kernel⟩
def rA(T C:Addr):SpD:=fun ws m Q Qx=>∃n z a,∃s:Int,ws=[.loc n,.v (.int s)]∧(s=1∨s= -1)∧RdA C m n z a∧rdQ T C n z eD m Q Qx (gp z s a)
theorem Aa(FD:FunD K "item" q (defArgs dk) (defBody dk) (defScope dk) [] [] f fd)(cl:Cls K C)(na:∀x∈rdN,NoAttr K C x){uO uC:Value}(c_O:mg "ONE"=some uO)(k_O:eu K 3 uO (frD (1,1))=true)(c_C:mg "CONSTANT"=some uC)(k_C:eu K 3 uC (.str km)=true)
  (g_read_positive:Gd P w K mg base (L2N.CX P w) 4 "read_positive" dG (lift K (xS T))) (gd_is_expression:Gdd P w K mg base (L2N.CX P w) 4 "is_expression" bB [.bl false] (lift K rg)∧∀B,RvL K B [V.bl false] [.bl false]) (gH:GmD P w K mg base 1 C "ahead" [] (kR C)) (gL:GmD P w K mg base 2 C "letters" [] (uw C)) (gT:GmD P w K mg base 3 C "take" [] (oB T C)) (c_IT:mg "InvalidText"=some (.ref T)) (M:OexM P w K mg base 1 T (cb T 1 fun vs=>[(("at":Str),vs.headD .non),(("code":Str),V.str "InvalidText")])):
  FnOk P w K mg base (L2N.CX P w) 5 f fd ["self","sign"] (lift K (rA T C)):=by
 refine vj FD bp (fun ws m Q Qx h=>?_) (fun cdv A outer s H E hr=>⟨_,(ad (aC (i:=2) bp.nd rfl (.inl rfl) (eA c_O k_O))
  (ad (aW (ay (qk (u65 hr)) (cP (aR K 0) (aZ (aR K 0)) (aZ (aM aG (aR K 0) ah))) (cf (xQ rfl aj ac)) (by rfl))
   (ad (aW (aP (di gH (hr.mono (by omega)) (aw (L2N.takes_of rfl rfl rfl rfl)) (dv 0) (aa aj ac)))
    (af (bU (f:="at") M (hr.mono (by omega)) c_IT rfl (L2N.takes_of rfl rfl rfl rfl) (aa (aR K 0) ac)))
    aD)
   (ad (lZ (av g_read_positive (hr.mono (by omega)) (aw (L2N.takes_of rfl rfl rfl rfl)) (aa (aR K 0) (aa (aR K 0) ac))) (j9 (n:=2) rfl (aS (az (i:=2) bp.nd rfl (.inl rfl)) (aS (BL (dv 0)) eR))))
   (ad (aW (bF (aP (di gH (hr.mono (by omega)) (aw (L2N.takes_of rfl rfl rfl rfl)) (dv 0) (aa aj ac))))
    (af (aq (bQ (aa (bQ (aa (aM wG (dv 1) (bc (dv 2) ah)) (aa (bc (dv 2) ah) ac))) (aa (eA c_C k_C) ac)))))
    aD)
   (ad (aW (ay (fX (u64 hr)) (dv 2) (eA c_O k_O) (nomark _))
    (af (bU (f:="at") M (hr.mono (by omega)) c_IT rfl (L2N.takes_of rfl rfl rfl rfl) (aa (aR K 0) ac)))
    aD)
   (af (cM (di gT (hr.mono (by omega)) (aw (L2N.takes_of rfl rfl rfl rfl)) (dv 0) (aa aj ac))))))))
   aD)
  (ad (aC (i:=3) bp.nd rfl (.inl rfl) (aR K 0))
  (ad (aC (i:=4) bp.nd rfl (.inl rfl) (lO gL (hr.mono (by omega)) (aw (L2N.takes_of rfl rfl rfl rfl)) (dv 0)))
  (ad (cM (di gT (hr.mono (by omega)) (aw (L2N.takes_of rfl rfl rfl rfl)) (dv 0) (aa aj ac)))
  (ad (aC (i:=4) bp.nd rfl (.inl rfl) (g9 (.cons (jB (dv 4)) (.cons aj (.cons (jB (lO gL (hr.mono (by omega)) (aw (L2N.takes_of rfl rfl rfl rfl)) (dv 0))) .nil)))))
  (ad (aW (bF (aP (o4 gd_is_expression (hr.mono (by omega)) (aw (L2N.takes_of rfl rfl rfl rfl)) (aa (bQ (aa (bQ (aa (eA c_O k_O) (aa (dv 4) ac))) ac)) ac))))
   (af (bU (f:="at") M (hr.mono (by omega)) c_IT rfl (L2N.takes_of rfl rfl rfl rfl) (aa (dv 3) ac)))
   aD)
  (af (aq (bQ (aa (bQ (aa (aM wG (dv 1) (bc (dv 2) ah)) (aa (bc (dv 2) ah) ac))) (aa (dv 4) ac)))))))))))),fun ws m Qd Qx h=>?_⟩)
 ·obtain ⟨n,z,a,s,rfl,_⟩:=h
  rfl
 obtain ⟨n,z,a,s,rfl,hs,hm,qf⟩:=h
 have n1:NoAttr K C "text":=na _ (by simp [rdN])
 have n2:NoAttr K C "at":=na _ (by simp [rdN])
 have zs:z.length≤sizeLine:=hm.sz
 have hl:=hm.lt
 have ln:=sizeLine_eq
 have fin:∀(d:D) (e:Nat),rdQ T C n z eD m Qd Qx (.ok d e)→Qd (.v d) (m.set n (.ins C (rdF z e))):=fun d e q=>q
 have tail:∀(v:Int×Int) (b:Nat),b≤z.length→v.1.natAbs<10 ^ 12→rdQ T C n z eD m Qd Qx (nU z s v b)→
   fv (j8 3 (vH K "at" (tV 0))) (fv (j8 4 (fi C "letters" [] (uw C) (tV 0) tN)) (fv (iO (fi C "take" [] (oB T C) (tV 0) (tCn (tK (D.str ".")) tN))) (fv (j8 4 (oa [tFm (tV 4),tK (D.str "."),tFm (fi C "letters" [] (uw C) (tV 0) tN)])) (fv (sIf (wn (tBl (l9 (fun ws=>rg (ws++List.map W.v [D.bl false])) (tCn (tTu (tCn (tTu (tCn (tK (frD (1,1))) (tCn (tV 4) tN))) tN)) tN)))) (lD T "InvalidText" "at" (tCn (tV 3) tN)) sNx) (lY (tTu (tCn (tTu (tCn (tO2 (oL Bd) (tV 1) (tO2 (oL ixD) (tV 2) (tK (D.int 0)))) (tCn (tO2 (oL ixD) (tV 2) (tK (D.int 1))) tN))) (tCn (tV 4) tN))))))))
    [some (.loc n),some (.v (.int s)),some (.v (frD v)),none,none] (m.set n (.ins C (rdF z b))) (uZ Qd Qx):=fun v b hb hv q=>by
  have m1:=hm.set hb
  have le:=lQ (l:=tl z) hb
  have m2:=hm.set le.2
  refine ⟨n,C,_,_,rfl,m1.at_,cl,n2,rfl,n,_,rfl,m1.at_,rfl,n,z,b,rfl,m1,?_⟩
  rw [List.set_set]
  refine ⟨n,_,rfl,m2.at_,rfl,n,z,bq (tl z) b,".",rfl,m2,?_⟩
  have q:rdQ T C n z eD m Qd Qx ((cA (tl ".") z (bq (tl z) b)).bind _):=q
  refine rdQ.seq1 q (fun b i q=>q) fun _ e he q=>?_
  have ie:=d0 (w:=tl ".") le.2
  rw [he] at ie
  have m3:=hm.set ie.2
  have le2:=lQ (l:=tl z) ie.2
  have ee:=pX he
  have w1:(tl ".").length=1:=rfl
  have zl:z.length≤20000:=hm.len
  have l1:=uG le.1 le.2
  have l2:=uG le2.1 le2.2
  have zz:bq (tl z) e≤z.length:=le2.2
  have e0:(Str.empty++wdz z b (bq (tl z) b)).length=(wdz z b (bq (tl z) b)).length:=by
   rw [Str.length_append]
   show 0+_=_
   omega
  have e1:((Str.empty++wdz z b (bq (tl z) b))++".").length=(wdz z b (bq (tl z) b)).length+1:=by
   rw [Str.length_append,e0]
   rfl
  have lt:=ye (x:=wdz z b (bq (tl z) b)) (y:=wdz z e (bq (tl z) e))
  refine ⟨by omega,by rw [e0]; omega,by rw [e1]; omega,n,_,rfl,m3.at_,rfl,n,z,e,rfl,m3,?_⟩
  rw [List.set_set]
  refine ⟨by omega,by show (jr _ _).length≤_; omega,?_⟩
  refine ⟨by show 2≤sizeLine; omega,by show 1≤sizeLine; omega,_,false,rfl,z8 (x:=jr (wdz z b (bq (tl z) b)) (wdz z e (bq (tl z) e))) (by omega),aN (fun c=>?_) (fun c=>?_)⟩
  ·have c:(!aE false (.tup [.tup [frD (1,1),.str (jr (wdz z b (bq (tl z) b)) (wdz z e (bq (tl z) e)))]]))=true:=c
   rw [rr] at c
   have hn:cG false (jr (wdz z b (bq (tl z) b)) (wdz z e (bq (tl z) e)))=false:=by simpa using c
   rw [if_neg (by rw [hn]; decide)] at q
   exact q (bq (tl z) e)
  ·have c:(!aE false (.tup [.tup [frD (1,1),.str (jr (wdz z b (bq (tl z) b)) (wdz z e (bq (tl z) e)))]]))=false:=c
   rw [rr] at c
   have hn:cG false (jr (wdz z b (bq (tl z) b)) (wdz z e (bq (tl z) e)))=true:=by simpa using c
   rw [if_pos hn] at q
   exact ⟨.int v.1,rfl,x8 hs hv,.int v.2,rfl,by show 2≤sizeLine; omega,by show 2≤sizeLine; omega,q⟩
 refine ⟨n,C,_,_,rfl,hm.at_,cl,n1,rfl,n,C,_,_,rfl,hm.at_,cl,n2,rfl,n,C,_,_,rfl,hm.at_,cl,n2,rfl,zs,_,rfl,by decide,?_⟩
 unfold gp at qf
 refine ⟨by decide,rfl,rfl,Nat.zero_le _,by decide,aN (fun c=>?_) (fun c=>?_)⟩
 rotate_left
 ·have c:((chD "0123456789").any fun y=>deq y (.str (Txt.slice z (some (a:Int)) (some ((a:Int)+1)))))=false:=c
  rw [yd] at c
  have hd:=c
  rw [if_neg (by rw [hd]; decide)] at qf
  have t:=tail (1,1) a hm.le (by decide) qf
  rw [hm.same] at t
  exact t
 ·have c:((chD "0123456789").any fun y=>deq y (.str (Txt.slice z (some (a:Int)) (some ((a:Int)+1)))))=true:=c
  rw [yd] at c
  have hd:=c
  rw [if_pos hd] at qf
  refine ⟨n,_,rfl,hm.at_,rfl,n,z,a,"0",rfl,hm,?_⟩
  cases h0:ahe z "0" a with
  | true=>
   rw [if_pos h0] at qf
   have y:=qf a
   rw [hm.same] at y
   exact ⟨n,C,_,_,rfl,hm.at_,cl,n2,rfl,y⟩
  | false=>
   rw [if_neg (by rw [h0]; decide)] at qf
   refine ⟨n,C,_,_,rfl,hm.at_,cl,n1,rfl,n,C,_,_,rfl,hm.at_,cl,n2,rfl,z,a,rfl,hm.len,hm.le,?_⟩
   have ip:=uB hm.le
   unfold xZ at qf ip
   cases hp:mI (tl z) a with
   | er b=>
    rw [hp] at qf
    have y:=qf a
    rw [hm.same] at y
    exact y
   | ok v e=>
    rw [hp] at qf ip
    have m1:=hm.set ip.2
    obtain ⟨v1,v2⟩:=zZ hp
    refine ⟨rfl,pJ hm.at_ ⟨cl,n2,by show 2<1000; decide,?_⟩⟩
    refine ⟨n,_,rfl,m1.at_,rfl,n,z,e,"*",rfl,m1,?_⟩
    have qf:rdQ T C n z eD m Qd Qx (if ahe z "*" e=false then .ok (sQ s v "one") e else if (v == (1,1))=true then .er e else (cA (tl "*") z e).bind fun _ b=>nU z s v b):=qf
    cases hs2:ahe z "*" e with
    | false=>
     rw [if_pos hs2] at qf
     exact ⟨.int v.1,rfl,x8 hs v1,.int v.2,rfl,by show 2≤sizeLine; decide,by show 2≤sizeLine; decide,qf⟩
    | true=>
     rw [if_neg (by rw [hs2]; decide)] at qf
     have ev:(v == (1,1))=(v.1 == 1&&(v.2 == 1&&true)):=by
      rw [Bool.and_true]
      rfl
     refine ⟨rfl,rfl,by show 1≤64; decide,by show 1≤64; decide,aN (fun c=>?_) (fun c=>?_)⟩
     ·have c:(v.1 == 1&&(v.2 == 1&&true))=true:=c
      rw [←ev] at c
      rw [if_pos c] at qf
      exact ⟨n,C,_,_,rfl,m1.at_,cl,n2,rfl,qf e⟩
     ·have c:(v.1 == 1&&(v.2 == 1&&true))=false:=c
      rw [←ev] at c
      rw [if_neg (by rw [c]; decide)] at qf
      refine ⟨n,_,rfl,m1.at_,rfl,n,z,e,"*",rfl,m1,?_⟩
      refine rdQ.seq1 qf (fun b i q=>q) fun _ b hb q=>?_
      have ib:=d0 (w:=tl "*") ip.2
      rw [hb] at ib
      exact tail v b ib.2 v1 q
end
open TL
def yg(T:Addr)(mem:Nat→List D→Me)(en:Int→En)(N:Dn)(ds:List D):Rr (List D)→Prop
 | .er b=>∀i ds',N.xc (bI T b) (mem i ds')
 | .ok vs e=>∀s,N.nx (en s) (mem e (ds++vs))
theorem yh{T:Addr}{z:Str}{mem:Nat→List D→Me}{c:DTT}{tb:DTS}{N:Dn}{en:Int→En}
  (hc:∀s e ds Qb Qx,e≤z.length→Qb (ahe z " +" e||ahe z " -" e) (mem e ds)→c (en s) (mem e ds) Qb Qx)
  (hb:∀s e ds (N':Dn),(s:Int)=s→e≤z.length→ds.length≤e+12→(ahe z " +" e||ahe z " -" e)=true→(∀b i,cA (tl " ") z (e+2)=.er b→N'.xc (bI T b) (mem i ds))→(∀e1,cA (tl " ") z (e+2)=.ok () e1→e1≤z.length→
   (∀b i,gp z (if ahe z " +" e=true then 1 else -1) e1=.er b→N'.xc (bI T b) (mem i ds))∧(∀v e2,gp z (if ahe z " +" e=true then 1 else -1) e1=.ok v e2→∀s',N'.nx (en s') (mem e2 (ds++[v]))))→tb (en s) (mem e ds) N'):
  ∀f s e ds,e≤z.length→z.length<f+e→ds.length≤e+12→yg T mem en N ds (gF z f e)→sWh c tb (en s) (mem e ds) N:=fun f s e ds he hf hd q=>by
 refine jD (fun f en' m'=>∃s e ds,en'=en s∧m'=mem e ds∧e≤z.length∧z.length<f+e∧ds.length≤e+12∧yg T mem en N ds (gF z f e)) f ⟨s,e,ds,rfl,rfl,he,hf,hd,q⟩ ?_
 rintro f en' m' N' ⟨s,e,ds,rfl,rfl,he,hf,hd,q⟩ r1 r2 r3 hn
 obtain ⟨f,rfl⟩:∃k,f=k+1:=⟨f - 1,by omega⟩
 refine hc s e ds _ _ he ?_
 unfold gF at q
 cases h:(ahe z " +" e||ahe z " -" e) with
 | false=>
  rw [if_neg (by rw [h]; decide)] at q
  have q:N.nx (en s) (mem e (ds++[])):=q s
  rw [List.append_nil] at q
  exact q
 | true=>
  rw [if_pos h] at q
  have l0:=sR he h
  show tb (en s) (mem e ds) N'
  refine hb s e ds N' rfl he hd h (fun b i h1=>?_) fun e1 h1 l1=>⟨fun b i h2=>?_,fun v e2 h2 s'=>?_⟩
  ·rw [show cA (tl' " ") z (e+2)=.er b from h1] at q
   rw [r2]
   exact q i ds
  ·rw [show cA (tl' " ") z (e+2)=.ok () e1 from h1] at q
   have q:yg T mem en N ds ((gp z (if ahe z " +" e=true then 1 else -1) e1).bind _):=q
   rw [h2] at q
   rw [r2]
   exact q i ds
  ·rw [show cA (tl' " ") z (e+2)=.ok () e1 from h1] at q
   have q:yg T mem en N ds ((gp z (if ahe z " +" e=true then 1 else -1) e1).bind _):=q
   rw [h2] at q
   have q:yg T mem en N ds ((gF z f e2).bind fun vs a=>.ok (v::vs) a):=q
   have i2:=lS (s:=if ahe z " +" e=true then 1 else -1) l1
   rw [h2] at i2
   have e12:=pX h1
   have i21:e1≤e2:=i2.1
   refine (hn f (en s') (mem e2 (ds++[v])) (by omega) ⟨s',e2,ds++[v],rfl,rfl,i2.2,by omega,by rw [List.length_append]; show ds.length+1≤_; omega,?_⟩).1
   cases h3:gF z f e2 with
   | er b=>
    rw [h3] at q
    exact q
   | ok vs e3=>
    rw [h3] at q
    intro s2
    have q:N.nx (en s2) (mem e3 (ds++(v::vs))):=q s2
    show N.nx (en s2) (mem e3 ((ds++[v])++vs))
    rw [List.append_assoc]
    exact q
section
variable {P:Program} {w:World} {K:Frag} {mg:Str→Option Value} {base:Heap} {T C:Addr} {q:Str} {f:Addr} {fd:FuncData}
abbrev bd:Stmt:=inClass (top 36) 11
abbrev iJ:List Str:=["self","sign","found"]
abbrev iK:List Str:=["self"]
theorem a5:FnScope iJ iK (defScope bd):=⟨rfl,rfl,rfl,by decide+kernel,rfl,by decide+kernel,by decide+kernel⟩
def A2(T C:Addr):SpD:=fun ws m Q Qx=>∃n z a,ws=[.loc n]∧RdA C m n z a∧rdQ T C n z eD m Q Qx (pS z a)
theorem nX(FD:FunD K "expression" q (defArgs bd) (defBody bd) (defScope bd) [] [] f fd)(cl:Cls K C)(na:∀x∈rdN,NoAttr K C x)(m_tuple:mg "tuple"=none)
  (gH:GmD P w K mg base 1 C "ahead" [] (kR C)) (gT:GmD P w K mg base 3 C "take" [] (oB T C)) (gI:GmD P w K mg base 5 C "item" [] (rA T C)):
  FnOk P w K mg base (L2N.CX P w) 6 f fd ["self"] (lift K (A2 T C)):=by
 refine DU FD a5 (fun ws m Q Qx h=>?_) (fun cdv A outer s H E hr=>⟨_,(ad (aC (i:=1) a5.nd rfl (.inl rfl) (j7 (aP (di gH (hr.mono (by omega)) (aw (L2N.takes_of rfl rfl rfl rfl)) (dv 0) (aa aj ac))) (zh tD ah) ah))
  (ad (aW (ay mh (dv 1) ah (nomark _))
   (af (cM (di gT (hr.mono (by omega)) (aw (L2N.takes_of rfl rfl rfl rfl)) (dv 0) (aa aj ac))))
   aD)
  (ad (aC (i:=2) a5.nd rfl (.inl rfl) (l8 (aa (di gI (hr.mono (by omega)) (aw (L2N.takes_of rfl rfl rfl rfl)) (dv 0) (aa (dv 1) ac)) ac)))
  (ad (gS (passes_of rfl) (DW.dt (dH (aP (di gH (hr.mono (by omega)) (aw (L2N.takes_of rfl rfl rfl rfl)) (dv 0) (aa aj ac))) (du (aP (di gH (hr.mono (by omega)) (aw (L2N.takes_of rfl rfl rfl rfl)) (dv 0) (aa aj ac))))))
   (ad (aC (i:=1) a5.nd rfl (.inl rfl) (j7 (aP (di gH (hr.mono (by omega)) (aw (L2N.takes_of rfl rfl rfl rfl)) (dv 0) (aa aj ac))) ah (zh tD ah)))
   (ad (pK (dv 0) ah)
   (ad (cM (di gT (hr.mono (by omega)) (aw (L2N.takes_of rfl rfl rfl rfl)) (dv 0) (aa aj ac)))
   (af (cM (tv (dv 2) (aa (di gI (hr.mono (by omega)) (aw (L2N.takes_of rfl rfl rfl rfl)) (dv 0) (aa (dv 1) ac)) ac))))))))
  (oO 2 (af (aq (oX m_tuple (aa (dv 2) ac))))))))),fun ws m Qd Qx h=>?_⟩)
 ·obtain ⟨n,z,a,rfl,_⟩:=h
  rfl
 obtain ⟨n,z,a,rfl,hm,qf⟩:=h
 have n2:NoAttr K C "at":=na _ (by simp [rdN])
 have ln:=sizeLine_eq
 have hl:=hm.lt
 have zl:z.length≤20000:=hm.len
 have done:∀(d:D) (e:Nat) (t:Me),rdQ T C n z eD m Qd Qx (.ok d e)→rtV m Qd (.v d) (m.set n (.ins C (rdF z e))++t):=fun d e t q=>⟨_,t,rfl,KeptV.set (xV _ _),q⟩
 have bad:∀(b j:Nat) (t:Me),rdQ T C n z eD m Qd Qx (.er b)→xcV m Qx (bI T b) (m.set n (.ins C (rdF z j))++t):=fun b j t q=>⟨_,t,rfl,KeptV.set (xV _ _),q j⟩
 have bad0:∀(b j:Nat),Qx (bI T b) (m.set n (.ins C (rdF z j)))→xcV m Qx (bI T b) (m.set n (.ins C (rdF z j))):=fun b j q=>⟨_,[],(List.append_nil _).symm,KeptV.set (xV _ _),q⟩
 have rest:∀(s:Int) (b:Nat),(s=1∨s= -1)→b≤z.length→rdQ T C n z eD m Qd Qx ((gp z s b).bind fun v b=>(gF z (rp z) b).bind fun vs b=>.ok (.tup (v::vs)) b)→
   fv (j8 2 (Cl (tCn (fi C "item" [] (rA T C) (tV 0) (tCn (tV 1) tN)) tN))) (fv (sWh (Ch (tBl (fi C "ahead" [] (kR C) (tV 0) (tCn (tK (D.str " +")) tN))) (tBl (fi C "ahead" [] (kR C) (tV 0) (tCn (tK (D.str " -")) tN)))) (fv (j8 1 (rV (tBl (fi C "ahead" [] (kR C) (tV 0) (tCn (tK (D.str " +")) tN))) (tK (D.int 1)) (CA Bm (tK (D.int 1))))) (fv (xU K "at" (tV 0) (tK (D.int 2))) (fv (iO (fi C "take" [] (oB T C) (tV 0) (tCn (tK (D.str " ")) tN))) (iO (tMe me mf (tV 2) (tCn (fi C "item" [] (rA T C) (tV 0) (tCn (tV 1) tN)) tN))))))) (sFz 2 (lY (tCa (c1 wA) (tCn (tV 2) tN)))))
    [some (.loc n),some (.v (.int s)),none] (m.set n (.ins C (rdF z b))) (vI m Qd Qx):=fun s b hs hb q=>by
  have m1:=hm.set hb
  refine ⟨n,_,rfl,m1.at_,rfl,n,z,b,s,rfl,hs,m1,?_⟩
  refine rdQ.seq1 q bad0 fun v e he q=>?_
  have ie:=lS (s:=s) hb
  rw [he] at ie
  refine ⟨by show 1≤sizeLine; omega,?_⟩
  have len1:(m.set n (.ins C (rdF z e))).length=m.length:=List.length_set
  rw [len1]
  show fv (sWh _ _) _ [some (.loc n),some (.v (.int s)),some (.loc m.length)] (eO C n z m [] e [v]) (vI m Qd Qx)
  refine yh (T:=T) (z:=z) (mem:=eO C n z m []) (en:=fun s=>[some (.loc n),some (.v (.int s)),some (.loc m.length)]) (fun s e ds Qb Qx le q=>?_) (fun s e ds N' _ le hd ha hx hk=>?_) (rp z) s e [v] ie.2 (by unfold rp; omega) (by show 1≤_; omega) ?_
  ·have R:=pN (t:=[]) (ds:=ds) hm le
   refine ⟨n,_,rfl,R.at_,rfl,n,z,e," +",rfl,R,?_⟩
   cases h1:ahe z " +" e with
   | true=>
    rw [h1] at q
    exact q
   | false=>
    rw [h1] at q
    exact ⟨n,_,rfl,R.at_,rfl,n,z,e," -",rfl,R,q⟩
  ·have R:=pN (t:=[]) (ds:=ds) hm le
   have l0:=sR le ha
   have R0:=pN (t:=[]) (ds:=ds) hm l0
   refine ⟨n,_,rfl,R.at_,rfl,n,z,e," +",rfl,R,?_⟩
   have body:∀sg:Int,(sg=1∨sg= -1)→sg=(if ahe z " +" e=true then 1 else -1)→
     fv (xU K "at" (tV 0) (tK (D.int 2))) (fv (iO (fi C "take" [] (oB T C) (tV 0) (tCn (tK (D.str " ")) tN))) (iO (tMe me mf (tV 2) (tCn (fi C "item" [] (rA T C) (tV 0) (tCn (tV 1) tN)) tN)))) [some (.loc n),some (.v (.int sg)),some (.loc m.length)] (eO C n z m [] e ds) N':=fun sg hsg es=>by
    refine pJ R.at_ ⟨cl,n2,_,rfl,_,rfl,pJ R.at_ ⟨rfl,by show 2<1000; decide,?_⟩⟩
    rw [show (eO C n z m [] e ds).set n (.ins C (ke "at" (.v (.int ((e:Int)+2))) (rdF z e)))=eO C n z m [] (e+2) ds from pM hl]
    refine ⟨n,_,rfl,R0.at_,rfl,n,z,e+2," ",rfl,R0,?_⟩
    refine rdQ.at2 hl (fun b j hb=>hx b j hb) fun _ e1 h1=>?_
    have l1:=d0 (w:=tl " ") l0
    rw [h1] at l1
    obtain ⟨hx2,hk2⟩:=hk e1 h1 l1.2
    have R2:=pN (t:=[]) (ds:=ds) hm l1.2
    rw [←es] at hx2 hk2
    refine ⟨BH (pL (t:=[])) trivial,n,_,rfl,R2.at_,rfl,n,z,e1,sg,rfl,hsg,R2,?_⟩
    refine rdQ.at2 hl (fun b j hb=>hx2 b j hb) fun v e2 h2=>?_
    refine BH (pL (t:=[])) ⟨by omega,?_⟩
    rw [show (eO C n z m [] e2 ds).set m.length (.lst (ds++[eD v]))=eO C n z m [] e2 (ds++[v]) from xW (t:=[])]
    exact hk2 v e2 h2 sg
   cases h1:ahe z " +" e with
   | true=>exact body 1 (.inl rfl) (by rw [h1]; rfl)
   | false=>exact body (-1) (.inr rfl) (by rw [h1]; rfl)
  ·cases h2:gF z (rp z) e with
   | er b'=>
    rw [h2] at q
    exact fun j ds'=>bad b' j _ q
   | ok vs e2=>
    rw [h2] at q
    intro s'
    show sFz 2 (lY (tCa (c1 wA) (tCn (tV 2) tN))) [some (.loc n),some (.v (.int s')),some (.loc m.length)] (eO C n z m [] e2 ([v]++vs)) (vI m Qd Qx)
    refine BN (L:=m.length) rfl (pL (t:=[])) ?_
    rw [show (eO C n z m [] e2 ([v]++vs)).set m.length .gone=_ from vJ (t:=[])]
    dsimp only [List.map]
    rw [jE]
    exact done _ _ _ q
 refine ⟨n,_,rfl,hm.at_,rfl,n,z,a,"-",rfl,hm,?_⟩
 unfold pS at qf
 cases h0:ahe z "-" a with
 | true=>
  rw [if_pos h0,if_pos h0] at qf
  refine ⟨n,_,rfl,hm.at_,rfl,n,z,a,"-",rfl,hm,?_⟩
  refine rdQ.seq0 qf bad0 fun _ b hb q=>?_
  have ib:=d0 (w:=tl "-") hm.le
  rw [hb] at ib
  exact rest (-1) b (.inr rfl) ib.2 q
 | false=>
  rw [if_neg (by rw [h0]; decide),if_neg (by rw [h0]; decide)] at qf
  have z:=rest 1 a (.inl rfl) hm.le qf
  rw [hm.same] at z
  exact z
end
open TL
section
variable {P:Program} {w:World} {K:Frag} {mg:Str→Option Value} {base:Heap} {T C:Addr} {q:Str} {f:Addr} {fd:FuncData}
abbrev bM:Stmt:=inClass (top 36) 0
abbrev jT:List Str:=["self","text"]
abbrev jU:List Str:=["self","text"]
theorem jt:FnScope jT jU (defScope bM):=⟨rfl,rfl,rfl,by decide+kernel,rfl,by decide+kernel,by decide+kernel⟩
def yi(C:Addr):SpD:=fun ws m Q _=>∃n z,ws=[.loc n,.v (.str z)]∧m[n]? =some (.ins C [])∧Q (.v .non) (m.set n (.ins C (rdF z 0)))
theorem BQ(FD:FunD K "__init__" q (defArgs bM) (defBody bM) (defScope bM) [] [] f fd)(cl:Cls K C)(na:∀x∈rdN,NoAttr K C x):
  FnOk P w K mg base (L2N.CX P w) 1 f fd ["self","text"] (lift K (yi C)):=by
 refine vj FD jt (fun ws m Q Qx h=>?_) (fun cdv A outer s H E hr=>⟨_,(ad (wT (dv 0) (dv 1))
  (af (wT (dv 0) ah))),fun ws m Qd Qx h=>?_⟩)
 ·obtain ⟨n,z,rfl,_⟩:=h
  rfl
 obtain ⟨n,z,rfl,hn,qf⟩:=h
 have n1:NoAttr K C "text":=na _ (by simp [rdN])
 have n2:NoAttr K C "at":=na _ (by simp [rdN])
 have ln:=(List.getElem?_eq_some_iff.mp hn).1
 refine pJ hn ⟨cl,n1,by show 0<1000; decide,?_⟩
 refine pJ (List.getElem?_set_self ln) ⟨cl,n2,by show 1<1000; decide,?_⟩
 rw [List.set_set]
 exact qf
theorem vM{k:Nat}{m:Str}{sp:SpD}{f:Addr}{fd:FuncData}{ps:List Str}(cl:Cls K C)(mm:Meth K C m f)(b:Binds K fd ps [])(F:FnOk P w K mg base (L2N.CX P w) k f fd ps (lift K sp)):GmD P w K mg base k C m [] sp:=⟨cl,f,fd,_,[],[],mm,.nil,fun _=>.nil,b,F⟩
end
open TL
section
variable {P:Program} {w:World} {K:Frag} {mg:Str→Option Value} {base:Heap}
abbrev io:Stmt:=top 34
abbrev rB:List Str:=["factor","name","size"]
abbrev fk:List Str:=["factor","name"]
theorem jV:FnScope rB fk (defScope io):=⟨rfl,rfl,rfl,by decide+kernel,rfl,by decide+kernel,by decide+kernel⟩
def uH:SpD:=fun ws m Q _=>∃(a b:Int) (x:Str),ws=[.v (frD (a,b)),.v (.str x)]∧a.natAbs<10 ^ 100∧b.natAbs<10 ^ 100∧x.length≤20000∧Q (.v (.str (ofL (gM a b x)))) m
theorem nh{p:Int×Int}(h1:p.1.natAbs<10 ^ 100)(h2:p.2.natAbs<10 ^ 100):(frT p).length≤203:=by
 have n1:=iE h1
 have n2:=iE h2
 unfold frT
 split
 ·omega
 ·rw [Str.length_append,Str.length_append]
  show _+1+_≤_
  omega
theorem pY(G:Gs K mg "item_text" io)(m_abs:mg "abs"=none){uC uO:Value}(c_C:mg "CONSTANT"=some uC)(k_C:eu K 3 uC (.str km)=true)(c_O:mg "ONE"=some uO)(k_O:eu K 3 uO (frD (1,1))=true)(g_ratio_text:Gd P w K mg base (L2N.CX P w) 1 "ratio_text" gi (lift K pz)):Gd P w K mg base (L2N.CX P w) 2 "item_text" fk (lift K uH):=by
 refine Fo.gd (cO jV (fun ws m Q Qx h=>?_) (fun f cdv A outer s H E hr=>⟨_,(ad (aC (i:=2) jV.nd rfl (.inl rfl) (bQ (aa (mj m_abs (aa (bc (dv 0) ah) ac)) (aa (bc (dv 0) ah) ac))))
  (ad (aW (ay (fX (u64 hr)) (dv 1) (eA c_C k_C) (nomark _))
   (af (aq (av g_ratio_text (hr.mono (by omega)) (aw (L2N.takes_of rfl rfl rfl rfl)) (aa (dv 2) ac))))
   aD)
  (af (aq (j7 (ay (fX (u64 hr)) (dv 2) (eA c_O k_O) (nomark _)) (dv 1) (g9 (.cons (jB (av g_ratio_text (hr.mono (by omega)) (aw (L2N.takes_of rfl rfl rfl rfl)) (aa (dv 2) ac))) (.cons aj (.cons (jB (dv 1)) .nil))))))))),fun ws m Qd Qx h=>?_⟩) [] []) G (fun _ _ _ _ _ _ us hl=>match us,hl with | [_,_],_=>rfl)
 ·obtain ⟨a,b,x,rfl,_⟩:=h
  rfl
 obtain ⟨a,b,x,rfl,ha,hb,hx,q⟩:=h
 have ln:=sizeLine_eq
 have ha2:((a.natAbs:Nat):Int).natAbs<10 ^ 100:=by rw [Int.natAbs_natCast]; exact ha
 have fl:=nh (p:=(((a.natAbs:Nat):Int),b)) ha2 hb
 refine ⟨_,rfl,_,rfl,by show 2≤sizeLine; omega,rfl,rfl,Nat.zero_le _,Nat.zero_le _,aN (fun c=>?_) (fun c=>?_)⟩
 ·have c:(x == "one")=true:=c
  refine ⟨(((a.natAbs:Nat):Int),b),rfl,ha2,hb,List.prefix_refl _,?_⟩
  unfold gM at q
  rw [if_pos c,←cB rfl] at q
  exact q
 ·have c:(x == "one")=false:=c
  unfold gM at q
  rw [if_neg (by rw [c]; decide)] at q
  refine ⟨rfl,rfl,by show 1≤64; decide,by show 1≤64; decide,aN (fun c2=>?_) (fun c2=>?_)⟩
  ·have c2:(((a.natAbs:Nat):Int) == 1&&(b == 1&&true))=true:=c2
   rw [Bool.and_true] at c2
   rw [if_pos c2,←cB rfl] at q
   exact ⟨List.prefix_refl _,q⟩
  ·have c2:(((a.natAbs:Nat):Int) == 1&&(b == 1&&true))=false:=c2
   rw [Bool.and_true] at c2
   rw [if_neg (by rw [c2]; decide)] at q
   have e0:(Str.empty++frT (((a.natAbs:Nat):Int),b)).length=(frT (((a.natAbs:Nat):Int),b)).length:=by
    rw [Str.length_append]
    show 0+_=_
    omega
   have e1:((Str.empty++frT (((a.natAbs:Nat):Int),b))++"*").length=(frT (((a.natAbs:Nat):Int),b)).length+1:=by
    rw [Str.length_append,e0]
    rfl
   refine ⟨(((a.natAbs:Nat):Int),b),rfl,ha2,hb,by omega,by rw [e0]; omega,by rw [e1]; omega,by omega,by rw [Str.length_append,e1]; omega,List.prefix_refl _,?_⟩
   rw [←cB (x:=((Str.empty++frT (((a.natAbs:Nat):Int),b))++"*")++x) (by
    rw [aK,aK,aK]
    show (([]++_)++[42])++_=_
    simp)] at q
   exact q
theorem kH:∀ys:List Str,plainL (ys.map .str)=true∧depL (ys.map .str)=0
 | []=>⟨rfl,rfl⟩
 | y::ys=>by
  obtain ⟨h1,h2⟩:=kH ys
  refine ⟨?_,?_⟩
  ·show (true&&plainL (ys.map .str))=true
   rw [h1]
   rfl
  ·show max 0 (depL (ys.map .str))=0
   rw [h2]
   rfl
theorem yj(its:List D):b7 (.lst (fxT its))=true∧kY (.lst (fxT its))≤64:=by
 rw [pW]
 have h:=kH (fxS its)
 refine ⟨h.1,?_⟩
 show depL _+1≤64
 rw [h.2]
 decide
theorem ni:∀{ys:List Str} {Q:List Str→Prop},Q ys→iR (ys.map .str) Q
 | [],_,q=>q
 | y::ys,Q,q=>ni (ys:=ys) (Q:=fun zs=>Q (y::zs)) q
theorem BR(its:List D):((fxS its).map (·.length)).sum=(cI its).length:=by
 have e:∀l:List Nat,(ofL l).length=l.length:=fun l=>List.size_toArray ..
 cases its with
 | nil=>rfl
 | cons d ds=>
  show (ofL (itH d)).length+((ds.map fun d=>ofL (itM d)).map (·.length)).sum=(itH d++ds.flatMap itM).length
  rw [e,List.length_append,List.map_map,List.length_flatMap]
  congr 2
theorem Ab{its:List D}(h:deq (.lst (fxT its)) (.lst [])=true):its=[]:=by
 cases its with
 | nil=>rfl
 | cons d ds=>cases h
abbrev be:Stmt:=top 35
abbrev iL:List Str:=["expression","texts","factor","name","sign","text"]
abbrev bg:List Str:=["expression"]
theorem aH:FnScope iL bg (defScope be):=⟨rfl,rfl,rfl,by decide+kernel,rfl,by decide+kernel,by decide+kernel⟩
def uI(C:Addr):SpD:=fun ws m Q Qx=>∃d:D,ws=[.v d]∧okX d∧(aE false d=false→Qx ⟨C,erF "InvalidExpression" []⟩ m)∧(aE false d=true→∀its,d=.tup its→Q (.v (.str (bX its))) m)
theorem gO{C:Addr}(g_check_expression:Gd P w K mg base (L2N.CX P w) 5 "check_expression" aL (lift K (mQ C)))(g_item_text:Gd P w K mg base (L2N.CX P w) 2 "item_text" fk (lift K uH)):Fo P w K mg base (L2N.CX P w) 6 "format_expression" be [] [] bg (lift K (uI C)):=by
 refine cO aH (fun ws m Q Qx h=>?_) (fun f cdv A outer s H E hr=>⟨_,(ad (cM (av g_check_expression (hr.mono (by omega)) (aw (L2N.takes_of rfl rfl rfl rfl)) (aa (dv 0) ac)))
  (ad (aC (i:=1) aH.nd rfl (.inl rfl) (l8 ac))
  (ad (i9 (passes_of rfl) rfl (b8 (dv 0)) (j9 (n:=2) rfl (aS (az (i:=2) aH.nd rfl (.inl rfl)) (aS (az (i:=3) aH.nd rfl (.inl rfl)) eR)))
   (ad (aC (i:=4) aH.nd rfl (.inl rfl) (j7 (ay mh (bc (dv 2) ah) ah (nomark _)) aj aj))
   (ad (aC (i:=5) aH.nd rfl (.inl rfl) (av g_item_text (hr.mono (by omega)) (aw (L2N.takes_of rfl rfl rfl rfl)) (aa (dv 2) (aa (dv 3) ac))))
   (af (aW (ay (fX (u64 hr)) (dv 1) (cf ac) (nomark _))
    (af (cM (tv (dv 1) (aa (j7 (ay (fX (u64 hr)) (dv 4) aj (nomark _)) (dv 5) (g9 (.cons aj (.cons (jB (dv 5)) .nil)))) ac))))
    (af (cM (tv (dv 1) (aa (g9 (.cons aj (.cons (jB (dv 4)) (.cons aj (.cons (jB (dv 5)) .nil))))) ac)))))))))
  (oO 1 (af (aq (mq aj (aa (dv 1) ac)))))))),fun ws m Qd Qx h=>?_⟩) [] []
 ·obtain ⟨_,rfl,_⟩:=h
  rfl
 obtain ⟨d,rfl,hd,qx,q⟩:=h
 have ln:=sizeLine_eq
 refine ⟨d,rfl,hd,?_⟩
 cases he:aE false d with
 | false=>exact ⟨List.prefix_refl _,qx he⟩
 | true=>
 have q:=q he
 obtain ⟨its,rfl,l1,l6,hi⟩:=im he
 have q:=q its rfl
 refine ⟨Nat.zero_le _,?_⟩
 refine iS (fun i en m'=>∃v2 v3 v4 v5,en=[some (.v (.tup its)),some (.loc m.length),v2,v3,v4,v5]∧m'=m++[.lst (fxT (its.take i))]) ⟨none,none,none,none,rfl,rfl⟩ ?_ ?_
 ·rintro j d en m' N' hdj ⟨v2,v3,v4,v5,rfl,rfl⟩ r1 r2 r3 hn
  obtain ⟨a,b,x,rfl,hb0,hg,ha0,ha6,hb6,hx⟩:=eM (hi d (List.mem_of_getElem? hdj))
  have hj:=(List.getElem?_eq_some_iff.mp hdj).1
  refine ⟨rfl,.int a,rfl,?_⟩
  have go:∀sg:Str,(a<0∧sg="-"∨¬a<0∧sg="+")→fv (j8 5 (l9 uH (tCn (tV 2) (tCn (tV 3) tN)))) (sIf (tBl (tO2 (oL (eqD id)) (tV 1) (tLs tN))) (iO (tMe me mf (tV 1) (tCn (rV (tBl (tO2 (oL (eqD id)) (tV 4) (tK (.str "+")))) (tV 5) (oa [tK (.str "-"),tFm (tV 5)])) tN))) (iO (tMe me mf (tV 1) (tCn (oa [tK (.str " "),tFm (tV 4),tK (.str " "),tFm (tV 5)]) tN)))) [some (.v (.tup its)),some (.loc m.length),some (.v (frD (a,b))),some (.v (.str x)),some (.v (.str sg)),v5] (m++[.lst (fxT (its.take j))]) N':=fun sg hs=>by
   refine ⟨a,b,x,rfl,by omega,by omega,by have:=ng hx; have e:(tl x).length=x.length:=rfl; omega,?_⟩
   obtain ⟨wx,hw⟩:∃wx,wx=gM a b x:=⟨_,rfl⟩
   have eW:itW (.tup [frD (a,b),.str x])=wx:=hw.symm
   have wl:wx.length≤26:=by
    rw [←eW]
    exact lU (hi _ (List.mem_of_getElem? hdj))
   have wl2:(ofL wx).length=wx.length:=by
    show wx.toArray.size=_
    exact List.size_toArray ..
   rw [←hw]
   have tk:its.take (j+1)=its.take j++[.tup [frD (a,b),.str x]]:=by
    rw [List.take_add_one,hdj]
    rfl
   have eN:itN (.tup [frD (a,b),.str x])=decide (a<0):=rfl
   have pl:=yj (its.take j)
   show sIf (tBl (tO2 (oL (eqD id)) (tV 1) (tLs tN))) (iO (tMe me mf (tV 1) (tCn (rV (tBl (tO2 (oL (eqD id)) (tV 4) (tK (.str "+")))) (tV 5) (oa [tK (.str "-"),tFm (tV 5)])) tN))) (iO (tMe me mf (tV 1) (tCn (oa [tK (.str " "),tFm (tV 4),tK (.str " "),tFm (tV 5)]) tN))) [some (.v (.tup its)),some (.loc m.length),some (.v (frD (a,b))),some (.v (.str x)),some (.v (.str sg)),some (.v (.str (ofL wx)))] (m++[.lst (fxT (its.take j))]) N'
   refine ⟨Nat.zero_le _,ow ?_⟩
   refine ⟨pl.1,rfl,pl.2,by decide,aN (fun c=>?_) (fun c=>?_)⟩
   ·have c:deq (.lst (fxT (its.take j))) (.lst [])=true:=c
    have j0:its.take j=[]:=Ab c
    rw [j0] at tk ⊢
    refine ⟨aQ trivial,?_⟩
    have fin:∀y:Str,y=ofL (itH (.tup [frD (a,b),.str x]))→N'.nx [some (.v (.tup its)),some (.loc m.length),some (.v (frD (a,b))),some (.v (.str x)),some (.v (.str sg)),some (.v (.str (ofL wx)))] (m++[.lst (fxT []++[.str y])]):=fun y hy=>by
     refine (hn _ _ ⟨_,_,_,_,rfl,?_⟩).1
     rw [tk,hy]
     rfl
    rcases hs with ⟨hn,rfl⟩ | ⟨hn,rfl⟩
    ·have e1:(Str.empty++"-").length=1:=rfl
     refine ⟨rfl,rfl,Nat.zero_le _,Nat.zero_le _,by omega,by omega,by rw [Str.length_append]; omega,aQ ⟨by show 0<sizeLine; omega,?_⟩⟩
     rw [ci]
     refine fin _ (cB ?_)
     unfold itH
     rw [eN,decide_eq_true hn,if_pos rfl,eW,aK,aK]
     rfl
    ·refine ⟨rfl,rfl,Nat.zero_le _,Nat.zero_le _,aQ ⟨by show 0<sizeLine; omega,?_⟩⟩
     rw [ci]
     refine fin _ (cB ?_)
     unfold itH
     rw [eN,decide_eq_false hn,if_neg (by decide),eW]
     rfl
   ·have c:deq (.lst (fxT (its.take j))) (.lst [])=false:=c
    have j0:its.take j≠[]:=fun e=>by
     rw [e] at c
     cases c
    have fl:(fxT (its.take j)).length≤6:=by
     rw [pW,List.length_map]
     have:∀l:List D,(fxS l).length=l.length:=fun l=>by
      cases l with
      | nil=>rfl
      | cons y ys=>show (_::ys.map _).length=_; rw [List.length_cons,List.length_map]; rfl
     rw [this,List.length_take]
     omega
    refine ⟨aQ trivial,?_⟩
    have sl:sg.length=1∧tl sg=[sgL (.tup [frD (a,b),.str x])]:=by
     unfold sgL
     rw [eN]
     rcases hs with ⟨hn,rfl⟩ | ⟨hn,rfl⟩
     ·rw [decide_eq_true hn]
      exact ⟨rfl,rfl⟩
     ·rw [decide_eq_false hn]
      exact ⟨rfl,rfl⟩
    have e1:(Str.empty++" ").length=1:=rfl
    have e2:((Str.empty++" ")++sg).length=2:=by rw [Str.length_append,sl.1]; rfl
    have e3:(((Str.empty++" ")++sg)++" ").length=3:=by rw [Str.length_append,e2]; rfl
    refine ⟨by omega,by omega,by omega,by omega,by omega,by rw [Str.length_append]; omega,aQ ⟨by omega,?_⟩⟩
    rw [ci]
    refine (hn _ _ ⟨_,_,_,_,rfl,?_⟩).1
    rw [tk,yc j0]
    refine congrArg (fun y=>m++[MO.lst (fxT (its.take j)++[D.str y])]) (cB ?_)
    unfold itM
    rw [aK,aK,aK,aK,sl.2,eW]
    rfl
  exact aN (fun c=>go "-" (.inl ⟨of_decide_eq_true c,rfl⟩)) (fun c=>go "+" (.inr ⟨of_decide_eq_false c,rfl⟩))
 ·rintro en m' ⟨v2,v3,v4,v5,rfl,rfl⟩
  rw [List.take_length]
  show sFz 1 (lY (tMe qr (Fs.m1 wD) (tK (D.str "")) (tCn (tV 1) tN))) [some (.v (.tup its)),some (.loc m.length),v2,v3,v4,v5] (m++[.lst (fxT its)]) (oN m Qd Qx)
  refine mr (ds:=fxT its) rfl ?_
  dsimp only [List.set,List.map]
  rw [jE]
  have sm:=BR its
  have xl:=fP he
  have e0:iR (fxT its) fun ys=>(ys.map (·.length)).sum+ys.length * ("":Str).length≤16777216∧(oN m Qd Qx).rt (.v (.str (Txt.join "" ys))) (m++[MO.gone]):=by
   rw [pW]
   refine ni ?_
   rw [z7]
   exact ⟨by show _+_ * 0≤_; omega,List.prefix_append _ _,q⟩
  exact ⟨trivial,e0⟩
theorem iq{C:Addr}(G:Gs K mg "format_expression" be)(g_check_expression:Gd P w K mg base (L2N.CX P w) 5 "check_expression" aL (lift K (mQ C)))(g_item_text:Gd P w K mg base (L2N.CX P w) 2 "item_text" fk (lift K uH)):Gd P w K mg base (L2N.CX P w) 6 "format_expression" bg (lift K (uI C)):=(gO g_check_expression g_item_text).gd G fun _ _ _ _ _ _ us hl=>match us,hl with | [_],_=>rfl
end
open TL NumText
theorem sT{z:Str}{a n:Nat}{r:List Nat}(h:(tl z).drop a=numL n++r)(h12:(numL n).length≤12)(ha:a≤z.length)(hr:NoD r):a7 (tl z) a=a+(numL n).length∧eH (tl z) a (a+(numL n).length)=n∧0<(numL n).length:=by
 have e:a7 (tl z) a=a+(numL n).length:=uA (s:=[]) (t:=numL n) (il n) (ug n) h12 hr rfl h ha (Nat.lt_succ_of_le h12)
 have ne:(numL n).length≠0:=fun k=>numL_ne n (List.length_eq_zero_iff.mp k)
 refine ⟨e,?_,by omega⟩
 unfold eH bO
 rw [h,show a+(numL n).length - a=(numL n).length by omega,List.take_left]
 exact numL_val n
theorem uJ{l:List Nat}{a:Nat}:bO l a (a+1)=(l.drop a).take 1:=by
 unfold bO
 rw [show a+1 - a=1 by omega]
def NoF(r:List Nat):Prop:=∀c t,r=c::t→¬(48≤c∧c≤57)∧c≠47
def frL(n k:Nat):List Nat:=if k=1 then numL n else numL n++47::numL k
theorem Ac{z:Str}{a n k:Nat}{r:List Nat}(h:(tl z).drop a=frL n k++r)(h1:(numL n).length≤12)(h2:(numL k).length≤12)(hk:0<k)(hg:Nat.gcd n k=1)(ha:a≤z.length)(hr:NoF r):xZ z a=.ok ((n:Int),(k:Int)) (a+(frL n k).length):=by
 have nd:NoD r:=fun c t e=>(hr c t e).1
 unfold xZ
 show rsR (mI (tl z) a)=_
 unfold mI
 by_cases hk1:k=1
 ·subst hk1
  have h:(tl z).drop a=numL n++r:=h
  obtain ⟨e1,e2,e3⟩:=sT h h1 ha nd
  have l1:=iV h ha
  have dr:=gm h
  rw [e1,if_neg (by omega),if_pos (by
   rw [uJ,dr]
   intro e
   cases r with
   | nil=>cases e
   | cons c t=>
    have e: [c]=[47]:=e
    cases e
    exact (hr 47 t rfl).2 rfl),e2]
  rfl
 ·have h:(tl z).drop a=numL n++(47::(numL k++r)):=by
   rw [h]
   unfold frL
   rw [if_neg hk1,List.append_assoc]
   rfl
  have nd1:NoD (47::(numL k++r)):=fun c t e=>by injection e with e1 _; omega
  obtain ⟨e1,e2,e3⟩:=sT h h1 ha nd1
  have l1:=iV h ha
  have dr:=gm h
  obtain ⟨l2,_,_,dr2⟩:=c9 dr
  have l2:a+(numL n).length+1≤z.length:=l2
  obtain ⟨f1,f2,f3⟩:=sT dr2 h2 l2 nd
  rw [e1,if_neg (by omega),if_neg (by
   rw [uJ,dr]
   simp),f1,if_neg (by omega),e2,f2,if_neg (by
   intro y
   rcases y with y | y
   ·omega
   ·exact y hg)]
  show Rr.ok _ _=Rr.ok _ _
  congr 1
  unfold frL
  rw [if_neg hk1,List.length_append,List.length_cons]
  omega
theorem Ad{z:Str}{s:Int}{v:Int×Int}{a b:Nat}(h:cA (tl' ".") z (bq (tl' z) a)=.ok () b):nU z s v a=if cG false (jr (wdz z a (bq (tl' z) a)) (wdz z b (bq (tl' z) b)))=true then .ok (sQ s v (jr (wdz z a (bq (tl' z) a)) (wdz z b (bq (tl' z) b)))) (bq (tl' z) b) else .er a:=by
 unfold nU
 rw [h]
 rfl
theorem BS{p q x:Str}(hx:tl x=tl p++46::tl q):jr p q=x:=iF (by
 unfold jr
 rw [aK,aK,aK,hx]
 show (([]++tl p)++[46])++tl q=_
 simp)
theorem uK{z:Str}{s:Int}{v:Int×Int}{a:Nat}{p q x:Str}{r:List Nat}(h:(tl z).drop a=(tl p++46::tl q)++r)(ha:a≤z.length)(hp:∀c∈tl p,jq c=true)(hq:∀c∈tl q,jq c=true)(hr:NoL r)(hx:tl x=tl p++46::tl q)(hn:cG false x=true):nU z s v a=.ok (sQ s v x) (a+(tl x).length):=by
 have h:(tl z).drop a=tl p++(46::(tl q++r)):=by
  rw [h,List.append_assoc]
  rfl
 have n1:NoL (46::(tl q++r)):=fun c t e=>by injection e with e1 _; subst e1; decide
 have e1:=uy h ha hp n1
 have l1:=iV h ha
 have l1:a+(tl p).length≤z.length:=l1
 have dr:=gm h
 have t1:cA (tl' ".") z (a+(tl p).length)=.ok () (a+(tl p).length+1):=jR (w:=[46]) (r:=tl q++r) dr
 obtain ⟨l2,_,_,dr2⟩:=c9 dr
 have l2:a+(tl p).length+1≤z.length:=l2
 have e2:=uy dr2 l2 hq hr
 have w1:wdz z a (a+(tl p).length)=p:=xY h
 have w2:wdz z (a+(tl p).length+1) (a+(tl p).length+1+(tl q).length)=q:=xY dr2
 have dx:jr p q=x:=BS hx
 have e1:bq (tl' z) a=a+(tl p).length:=e1
 have e2:bq (tl' z) (a+(tl p).length+1)=a+(tl p).length+1+(tl q).length:=e2
 rw [Ad (b:=a+(tl p).length+1) (by rw [e1]; exact t1),e1,e2,w1,w2,dx,if_pos hn]
 congr 1
 rw [hx,List.length_append,List.length_cons]
 omega
def StpE(r:List Nat):Prop:=∀c t,r=c::t→c=32
theorem StpE.noL{r:List Nat}(h:StpE r):NoL r:=fun c t e=>by rw [h c t e]; decide
theorem StpE.noF{r:List Nat}(h:StpE r):NoF r:=fun c t e=>by rw [h c t e]; decide
def sgI(d:D):Int:=if itN d=true then -1 else 1
theorem rD{z:Str}{a c:Nat}{r:List Nat}(h:(tl z).drop a=c::r):dgA z a=decide (48≤c∧c≤57):=by
 obtain ⟨_,e,_,_⟩:=c9 h
 unfold dgA
 show (match (tl z)[a]? with | some c=>decide (48≤c∧c≤57) | none=>false)=_
 rw [e]
theorem vN(n:Nat)(h:0<n):∃c t,numL n=c::t∧49≤c∧c≤57:=by
 cases e:numL n with
 | nil=>exact absurd e (numL_ne n)
 | cons c t=>
  have d:=il n c (by rw [e]; exact List.mem_cons_self)
  rcases ug n with z | z
  ·have v:=numL_val n
   rw [z] at v
   have v:0=n:=v
   omega
  ·exact ⟨c,t,rfl,z c t e,d.2⟩
theorem rE(n k:Nat)(h:0<n):∃c t,frL n k=c::t∧49≤c∧c≤57:=by
 obtain ⟨c,t,e,h1,h2⟩:=vN n h
 unfold frL
 split
 ·exact ⟨c,t,e,h1,h2⟩
 ·exact ⟨c,t++47::numL k,by rw [e]; rfl,h1,h2⟩
theorem BT{a:Int}(b:Int)(x:Str):sQ (sgI (.tup [frD (a,b),.str x])) (((a.natAbs:Nat):Int),b) x=.tup [frD (a,b),.str x]:=by
 have e:sgI (.tup [frD (a,b),.str x]) * ((a.natAbs:Nat):Int)=a:=by
  show (if decide (a<0)=true then (-1:Int) else 1) * _=_
  by_cases h:a<0
  ·rw [decide_eq_true h,if_pos rfl]
   omega
  ·rw [decide_eq_false h,if_neg (by decide)]
   omega
 show D.tup [.tup [.int (sgI (.tup [frD (a,b),.str x]) * ((a.natAbs:Nat):Int)),.int b],.str x]=_
 rw [e]
theorem yk{z:Str}{d:D}{a:Nat}{r:List Nat}(hd:a9 false d=true)(ha:a≤z.length)(h:(tl z).drop a=itW d++r)(hr:StpE r):gp z (sgI d) a=.ok d (a+(itW d).length):=by
 obtain ⟨i,b,x,rfl,hb,hg,h0,h6,b6,hx⟩:=eM hd
 obtain ⟨k,rfl⟩:∃k:Nat,b=k:=⟨b.toNat,by omega⟩
 have hk:0<k:=by omega
 have sv:=BT (a:=i) (k:Int) x
 have n1:(numL i.natAbs).length≤12:=Nat.le_trans (numL_len (k:=6) (by decide) h6) (by decide)
 have n2:(numL k).length≤12:=Nat.le_trans (numL_len (k:=6) (by decide) (by omega)) (by decide)
 have hg:Nat.gcd i.natAbs k=1:=hg
 have ft:tl (frT (((i.natAbs:Nat):Int),(k:Int)))=frL i.natAbs k:=po (k:=k) rfl (p:=[]) (dq _)
 have eW:itW (.tup [frD (i,(k:Int)),.str x])=gM i k x:=rfl
 rw [eW] at h ⊢
 unfold gM at h ⊢
 rw [ft] at h ⊢
 generalize sgI (.tup [frD (i,(k:Int)),.str x])=s at sv ⊢
 obtain ⟨c,t,ec,c1,c2⟩:=rE i.natAbs k h0
 -- a text that begins with the fraction
 have num:∀r',(tl z).drop a=frL i.natAbs k++r'→NoF r'→gp z s a=if ahe z "*" (a+(frL i.natAbs k).length)=false then .ok (sQ s (((i.natAbs:Nat):Int),(k:Int)) "one") (a+(frL i.natAbs k).length) else if ((((i.natAbs:Nat):Int),(k:Int)) == (1,1))=true then .er (a+(frL i.natAbs k).length) else (cA (tl' "*") z (a+(frL i.natAbs k).length)).bind fun _ b=>nU z s (((i.natAbs:Nat):Int),(k:Int)) b:=fun r' h' hr'=>by
  have p:=Ac h' n1 n2 hk hg ha hr'
  have h2:(tl z).drop a=c::(t++r'):=by rw [h',ec]; rfl
  unfold gp
  rw [rD h2,decide_eq_true ⟨by omega,c2⟩,if_pos rfl,if_neg (by rw [pR (x:="0") (c:=48) rfl h2 (fun t e=>by injection e with e1 _; omega) ha]; decide),p]
  rfl
 by_cases x1:(x == "one")=true
 ·rw [if_pos x1] at h ⊢
  have x1:x="one":=eq_of_beq x1
  have na:ahe z "*" (a+(frL i.natAbs k).length)=false:=pR (x:="*") (c:=42) rfl (gm h) (fun t e=>by have:=hr 42 t e; omega) (iV h ha)
  rw [num r h hr.noF,if_pos na,←x1,sv]
 ·rw [if_neg x1] at h ⊢
  obtain hp | ⟨p,q,hpq,lp,lq,p1,_,_,_⟩:=jS hx
  ·exact absurd (beq_iff_eq.mpr hp) x1
  by_cases x2:(((i.natAbs:Nat):Int) == 1&&((k:Int)) == 1)=true
  ·rw [if_pos x2] at h ⊢
   obtain ⟨y1,y2⟩:=Bool.and_eq_true_iff.mp x2
   have y1:((i.natAbs:Nat):Int)=1:=by simpa using y1
   have y2:(k:Int)=1:=by simpa using y2
   rw [y1,y2] at sv
   rw [y2]
   have hn:=uK (s:=s) (v:=(1,1)) (by rw [hpq] at h; exact h) ha lp lq hr.noL hpq hx
   cases ep:tl p with
   | nil=>rw [ep] at p1; cases p1
   | cons c' t'=>
    have lw:jq c'=true:=lp c' (by rw [ep]; exact List.mem_cons_self)
    have lw:97≤c'∧c'≤122:=of_decide_eq_true lw
    have h2:(tl z).drop a=c'::(t'++(46::tl q)++r):=by rw [h,hpq,ep]; rfl
    unfold gp
    rw [rD h2,decide_eq_false (by omega),if_neg (by decide),hn,sv]
  ·rw [if_neg x2] at h ⊢
   have h':(tl z).drop a=frL i.natAbs k++(42::(tl x++r)):=by rw [h,List.append_assoc]; rfl
   have dr:=gm h'
   have l1:a+(frL i.natAbs k).length≤z.length:=iV h' ha
   have ya:ahe z "*" (a+(frL i.natAbs k).length)=true:=lR (x:="*") (r:=tl x++r) dr l1
   have tk:cA (tl' "*") z (a+(frL i.natAbs k).length)=.ok () (a+(frL i.natAbs k).length+1):=jR (w:=[42]) (r:=tl x++r) dr
   obtain ⟨l2,_,_,dr2⟩:=c9 dr
   have l2:a+(frL i.natAbs k).length+1≤z.length:=l2
   have hn:=uK (s:=s) (v:=(((i.natAbs:Nat):Int),(k:Int))) (by rw [hpq] at dr2; exact dr2) l2 lp lq hr.noL hpq hx
   rw [num _ h' (fun c t e=>by injection e with e1 _; omega),if_neg (by rw [ya]; decide),if_neg (show ¬((((i.natAbs:Nat):Int),(k:Int)) == (1,1))=true from x2),tk]
   show nU z s _ _=_
   rw [hn,sv]
   congr 1
   rw [List.length_append,List.length_cons]
   omega
structure OexH (P:Program) (w:World) (K:Frag) (mg:Str→Option Value) (base:Heap) (k:Nat) (C:Addr) (sp:Sp):Prop where
 cls:OexC K C
 ini:∃fI fd ps,PySem.W.findIn K (.ref C) "__init__"=some (some (.ref fI))∧PySem.W.typeIn K (.ref fI)=some (.type "function")∧L2H.FnH P w K mg base CX0 k fI fd ps sp∧Binds K fd ps []
section
variable {P:Program} {w:World} {K:Frag} {mg:Str→Option Value} {base:Heap}
theorem kI{C:Addr}{q:Str}{f:Addr}{fd:FuncData}(D:FunD K "__init__" q (defArgs aB) (defBody aB) (defScope aB) [] [] f fd)(T:ErrC K C):L2H.FnH P w K mg base CX0 1 f fd ["self","at"] (cb C 1 fun vs=>[("at",vs.headD .non),("code",.str "InvalidText")]):=by
 obtain ⟨oc,od,dV,kV,doc,pm,an,cdv,ct,osl,rfl,lk,hcd,_,_⟩:=D.ex
 refine L2H.fn_ofH lk hcd gQ (fun vs H Q E h=>?_) fun A outer s H vs Q E p hot hr h=>?_
 ·obtain ⟨a,ws,rfl,hl,_⟩:=h
  rw [List.length_cons,hl]
  rfl
 obtain ⟨a,ws,rfl,hl,ha,q⟩:=h
 match ws,hl with
 | [x],_=>
  refine ⟨_,pss_cons (ps_ost (pv 0) pe_str) (pss_one (ps_ost (pv 0) (pv 1))),?_⟩
  refine ⟨_,rfl,a,C,rfl,T.ox,T.ex.no _ (by simp [bE]),.inl ⟨ha,fun d nd da=>?_⟩⟩
  refine ⟨_,rfl,_,rfl,a,C,rfl,T.ox,T.ex.no _ (by simp [bE]),.inr ⟨d,_,upd_same,(by rw [upd_ne da,upd_same]),(by simp),?_⟩⟩
  refine q d _ nd da (by rw [upd_ne da.symm,upd_same]) upd_same fun b o hb e=>?_
  rw [upd_ne (ne_of_none e nd),upd_ne hb,upd_ne (ne_of_none e nd)]
  exact e
end
def w2(K:Frag)(cs:List Value)(WS:Value→Option Addr→L2.St→Hp→Prop):WX:=fun cls d σ H=>PySem.W.exmAny K cls cs=some true∧WS cls d σ H
section
variable {Y:Cx} {x1 x2:Str} {C1 C2:Addr} {suite:List Stmt} {b₀:Stmt} {p1 p2 np pos':Pos} {k:Nat} {Wout:WX} {WS:Value→Option Addr→L2.St→Hp→Prop} {D:Ends}
end
abbrev BU(P:Program)(w:World)(K:Frag)(mg:Str→Option Value)(base:Heap)(k:Nat)(x:Str)(st:Stmt)(dfl:List V)(ps:List Str)(sp:SpD):Prop:=∀f fd,FunD K x x (defArgs st) (defBody st) (defScope st) dfl [] f fd→UnOk2 P w K mg base k f fd ps sp
section
variable {P:Program} {w:World} {K:Frag} {mg:Str→Option Value} {base:Heap}
theorem DY{k:Nat}{x:Str}{st:Stmt}{ps:List Str}{sp:SpD}(G:Gs K mg x st)(F:BU P w K mg base k x st [] ps sp)
  (hb:∀(kV doc pm:Value) (an:Option Addr) (cdv ct:Value) (us:List Value),us.length=ps.length→bindArgs (PySem.W.fnOf x x (defArgs st) (defBody st) (defScope st) .none kV doc pm an cdv ct) ⟨us,[]⟩=pure (ps.zip us)):GU2 P w K mg base k x ps sp:=by
 obtain ⟨f,fd,a,b,c,D⟩:=G.b0 hb
 exact ⟨f,fd,a,b,c,F f fd D⟩
end
def w1(K:Frag)(c:Value)(WS:Value→Option Addr→L2.St→Hp→Prop):WX:=fun cls d σ H=>PySem.W.exmOne K cls c=some true∧WS cls d σ H
section
variable {Y:Cx} {x1:Str} {C1:Addr} {suite:List Stmt} {b₀:Stmt} {p1 pos':Pos} {Wout:WX} {WS:Value→Option Addr→L2.St→Hp→Prop} {D:Ends}
end
open HotX
def fQ(h:Heap)(a x1:Addr):Heap:=(h.update a (Obj.mapFields (·.setIfInBounds 3 (.ref x1)))).update a (Obj.mapFields (·.setIfInBounds 4 (.bool true)))
theorem rF{h:Heap}{a x1:Addr}{oe:Obj}{vs:Array Value}(ha:h.get? a=some oe)(hd:oe.data=.fields vs):
  (fQ h a x1).get? a=some ((oe.mapFields (·.setIfInBounds 3 (.ref x1))).mapFields (·.setIfInBounds 4 (.bool true)))∧((oe.mapFields (·.setIfInBounds 3 (.ref x1))).mapFields (·.setIfInBounds 4 (.bool true))).data=.fields ((vs.setIfInBounds 3 (.ref x1)).setIfInBounds 4 (.bool true)):=by
 have hd3:=Obj.data_mapFields hd (·.setIfInBounds 3 (Value.ref x1))
 have ha3:=Heap.get?_update_self (Obj.mapFields (·.setIfInBounds 3 (Value.ref x1))) ha (Obj.isFreed_of_fields hd3)
 have hd4:=Obj.data_mapFields hd3 (·.setIfInBounds 4 (.bool true))
 exact ⟨Heap.get?_update_self (Obj.mapFields (·.setIfInBounds 4 (.bool true))) ha3 (Obj.isFreed_of_fields hd4),hd4⟩
theorem kS{h:Heap}{a x1 b:Addr}(hne:a≠b):(fQ h a x1).get? b=h.get? b:=by
 unfold fQ
 rw [Heap.get?_update_other _ _ hne,Heap.get?_update_other _ _ hne]
theorem lu{prog:Program}{w:World}{A:Around}{E:Value→Shared→Prop}{env:Env}{s:Shared}{x c:Sem Value}{Q:Flow→Shared→Prop}{x1:Addr}
  (h:wpAny (model prog w) A x (fun v s₁=>∃a oe vs cls o1 vs1 c1,v=.ref a∧s₁.heap.get? a=some oe∧oe.cls=cls∧oe.data=.fields vs∧vs[1]? =some .none∧4<vs.size∧x1≠a∧HotAt A x1 s₁.heap∧
   s₁.heap.get? x1=some o1∧o1.data=.fields vs1∧o1.cls=c1∧PySem.W.Looks (model prog w) s₁.heap (isSubtype c1 (.type "BaseException")) true∧
   (∀Q':Value→Shared→Prop,Q' (.ref x1) s₁→wpAny (model prog w) A c Q' E s₁)∧
   PySem.W.Looks (model prog w) s₁.heap (isSubtype cls (.type "BaseException")) true∧PySem.W.Looks (model prog w) (fQ s₁.heap a x1) (typeOf cls) (.type "type")∧
   E (.ref a) { s₁ with heap:=(fQ s₁.heap a x1).update a (Obj.mapFields (·.setIfInBounds 2 (.ref x1))) }) E s):
  wpAny (model prog w) A (raiseStmt env (some x) (some c)) Q E s:=by
 unfold raiseStmt
 dsimp only
 refine wpAny_bind (wpAny_mono h (fun v s₁ h₁=>?_) fun _ _ x=>x)
 obtain ⟨a,oe,vs,cls,o1,vs1,c1,rfl,ha,hcls,hd,h1,hi,hne,hot,hx1,hd1,hc1,L0,hcs,L1,L3,hE⟩:=h₁
 have LT:PySem.W.Looks (model prog w) s₁.heap (typeOf (.ref a)) cls:=fun A Q E s k q=>wpAny_typeOf_ref (k _ _ ha) (by rw [hcls]; exact q)
 have LI:PySem.W.Looks (model prog w) s₁.heap (isInstance (.ref a) (.type "BaseException")) true:=LT.andThen L1
 have LT1:PySem.W.Looks (model prog w) s₁.heap (typeOf (.ref x1)) c1:=fun A Q E s k q=>wpAny_typeOf_ref (k _ _ hx1) (by rw [hc1]; exact q)
 have LI1:PySem.W.Looks (model prog w) s₁.heap (isInstance (.ref x1) (.type "BaseException")) true:=LT1.andThen L0
 have hnt:∀{Q':Bool→Shared→Prop},Q' false s₁→wpAny (model prog w) A (isType (.ref a)) Q' E s₁:=by
  intro Q' hq
  simp only [isType,loadHead]
  refine wpAny_bind (wpAny_loadPart ha ?_)
  rw [hd]; exact wpAny_pure hq
 have hnt1:∀{Q':Bool→Shared→Prop},Q' false s₁→wpAny (model prog w) A (isType (.ref x1)) Q' E s₁:=by
  intro Q' hq
  simp only [isType,loadHead]
  refine wpAny_bind (wpAny_loadPart hx1 ?_)
  rw [hd1]; exact wpAny_pure hq
 have hd3:=Obj.data_mapFields hd (·.setIfInBounds 3 (Value.ref x1))
 have ha3:=Heap.get?_update_self (Obj.mapFields (·.setIfInBounds 3 (Value.ref x1))) ha (Obj.isFreed_of_fields hd3)
 obtain ⟨ha4,hd4⟩:=rF (x1:=x1) ha hd
 have s3:3<vs.size:=by omega
 have s4:4<(vs.setIfInBounds 3 (Value.ref x1)).size:=by rw [set_size]; exact hi
 have s2:2<((vs.setIfInBounds 3 (Value.ref x1)).setIfInBounds 4 (Value.bool true)).size:=by rw [set_size,set_size]; omega
 have h14:((vs.setIfInBounds 3 (Value.ref x1)).setIfInBounds 4 (Value.bool true))[1]? =some Value.none:=set_other (by decide) (set_other (by decide) h1)
 have hcls4:((oe.mapFields (·.setIfInBounds 3 (.ref x1))).mapFields (·.setIfInBounds 4 (.bool true))).cls=cls:=by rw [Obj.cls_mapFields,Obj.cls_mapFields]; exact hcls
 have LT4:PySem.W.Looks (model prog w) (fQ s₁.heap a x1) (typeOf (.ref a)) cls:=fun A Q E s k q=>wpAny_typeOf_ref (k _ _ ha4) (by rw [hcls4]; exact q)
 have hnt4:∀{Q':Bool→Shared→Prop},Q' false { s₁ with heap:=fQ s₁.heap a x1 }→wpAny (model prog w) A (isType (.ref a)) Q' E { s₁ with heap:=fQ s₁.heap a x1 }:=by
  intro Q' hq
  simp only [isType,loadHead]
  refine wpAny_bind (wpAny_loadPart ha4 ?_)
  rw [hd4]; exact wpAny_pure hq
 have hot4:HotAt A x1 (fQ s₁.heap a x1):=by
  obtain ⟨q1,o,vs',q2,q3,q4⟩:=hot
  exact ⟨q1,o,vs',by rw [kS (Ne.symm hne)]; exact q2,q3,q4⟩
 have rest:wpAny (model prog w) A (do
   let b ←isType (.ref a)
   if b=true then do
    let e ←holding [.ref a] (raisedFor (.ref a) (.ref a))
    setFlight e none
    raiseNew e
   else do
    let e ←raisedInstance (.ref a)
    setFlight e none
    raiseNew e:Sem Flow) Q E { s₁ with heap:=fQ s₁.heap a x1 }:=by
  refine wpAny_bind (hnt4 ?_)
  simp only [Bool.false_eq_true,if_false]
  unfold raisedInstance
  refine wpAny_bind (wpAny_bind (LT4.here (wpAny_bind (L3.here ?_))))
  rw [if_pos (beq_self_eq_true _)]
  refine wpAny_pure ?_
  unfold setFlight
  refine wpAny_bind (wpAny_bind (wpAny_field ha4 hd4 h14 ?_))
  rw [if_neg (by decide)]
  refine wpAny_pure ?_
  exact raiseNew_hot hot4 hne ha4 hd4 s2 hE
 refine wpAny_bind (wpAny_holding (hcs _ (wpAny_bind (wpAny_pure ?_))))
 dsimp only
 refine wpAny_bind (wpAny_holding ?_)
 unfold excFromValue isExcClass
 refine wpAny_bind (wpAny_bind (hnt ?_))
 simp only [Bool.false_eq_true,if_false]
 refine wpAny_pure ?_
 simp only [Bool.false_eq_true,if_false]
 refine wpAny_bind (LI.here ?_)
 simp only [if_true]
 refine wpAny_pure ?_
 rw [if_neg (show ¬((Value.ref x1 == Value.none)=true) from by simp)]
 refine wpAny_bind (wpAny_holding (wpAny_bind (wpAny_bind (hnt1 ?_))))
 simp only [Bool.false_eq_true,if_false]
 refine wpAny_pure ?_
 simp only [Bool.false_eq_true,if_false]
 refine wpAny_bind (LI1.here ?_)
 simp only [if_true]
 refine wpAny_pure ?_
 refine wpAny_bind (wpAny_setField ha hd s3 (wpAny_bind (wpAny_setField ha3 hd3 s4 ?_)))
 exact rest
theorem ym{X:Cx}{pins:List (Addr×Obj)}{σ:L2.St}{H:Hp}{s:Shared}{i:Nat}{n:Str}{h':Heap}{v:Option Value}{m:Str→Option Value}{tk:Nat}(I:Inv X pins σ H s)(hN:X.N.Nodup)(hi:X.N[i]? =some n)
  (hlk:∀(i:Nat) (x:Str) (v:V),X.N[i]? =some x→σ[i]? =some (some v)→Vis X.env.scope x→∃u,RelV v u∧Look X.env s.heap m x u)
  (hn:s.heap.Ns X.env.locals m) (hn':h'.Ns X.env.locals (fun x=>if x=n then v else m x)) (hs:Heap.SameBut X.env.locals s.heap h'):Inv X pins (σ.set i none) H { s with heap:=h',toks:=tk }:=by
 obtain ⟨oL,_,_,hoL,_⟩:=id hn
 have neL:∀b o,X.s_0.heap.get? b=some o→b≠X.env.locals:=fun b o e=>Nat.ne_of_lt (Nat.lt_of_lt_of_le (Heap.lt_size e) I.ok.above)
 refine ⟨I.ok,I.os,I.bare,⟨fun b o e n hb hx=>?_,fun b o e n hb hx=>?_,I.base.free,fun b o e hx=>?_,I.base.tups,I.base.frzs,I.base.tbls⟩,⟨_,hn',fun j y v' e1 e2 e3=>?_⟩,fun y c e=>?_,I.free,I.freeC,fun p hp=>?_,fun b ob e=>?_,by simpa using I.len⟩
 ·exact (hs.2 b (neL b o e)).trans (I.base.keep b o e n hb hx)
 ·obtain ⟨sl,e1⟩:=I.base.slot b o e n hb hx
  exact ⟨sl,(hs.2 b (neL b o e)).trans e1⟩
 ·obtain ⟨o',e1⟩:=I.base.there b o e hx
  exact ⟨o',(hs.2 b (neL b o e)).trans e1⟩
 ·by_cases hj:j=i
  ·subst hj
   by_cases hlt:j<σ.length
   ·rw [List.getElem?_set_self hlt] at e2; cases e2
   ·rw [List.getElem?_eq_none (by simpa using hlt)] at e2; cases e2
  ·rw [List.getElem?_set_ne (Ne.symm hj)] at e2
   obtain ⟨u',r',q⟩:=hlk j y v' e1 e2 e3
   refine ⟨u',r',?_⟩
   rcases q with ⟨k,e⟩ | ⟨k,c,e,z⟩
   ·have ny:y≠n:=fun e=>hj (nodup_ix hN e1 (e ▸hi))
    exact .inl ⟨k,(if_neg ny).trans e⟩
   ·exact .inr ⟨k,c,e,z.sameBut hs (I.cne y c e)⟩
 ·obtain ⟨w',z⟩:=I.cell y c e
  exact ⟨w',z.sameBut hs (I.cne y c e)⟩
 ·obtain ⟨e,n,ne,nf,d⟩:=I.pin p hp
  exact ⟨(hs.2 p.1 ne).trans e,n,ne,nf,d⟩
 ·refine (I.hok b ob e).stay (fun c w' hc q=>(hs.2 c ?_).trans q) (fun _ q=>q) fun _ _ q=>q
  intro z
  subst z
  rcases hc with rfl | hc
  ·rw [I.free] at e; cases e
  ·rw [I.free] at hc; cases hc
theorem yn{M:Model}{A:Around}{E₁:Value→Shared→Prop}{env:Env}{outer:List Env}{L a:Addr}{Z:Obj→Prop}{B:Heap}{s:Shared}{Q:Unit→Shared→Prop}(hZ:HandSPX.Steady Z)(hfr:A.frames=some (env::outer))(hf:env.frame=some L)
  (x:Sky B (env::outer) a Z L s.heap) (hQ:∀h',HandSPX.HeldZ B (env::outer) a Z L h'→s.heap.UpToSlots h'→Q () { s with heap:=h' }):wpAny M A (noteFrame (.ref a) env) Q E₁ s:=by
 rcases x with ⟨hB,hn,hl,oe,vs,he,hz,hd,h1⟩ | fl | hh
 ·exact HandSPX.look_newZ hZ hfr hl hf he hB hn hd h1 hz hQ
 ·exact HandSPX.looks_onZ hZ hfr hf fl hQ
 ·exact HandSPX.againZ hf hh.2.2.2 (hQ s.heap hh (Heap.UpToSlots.refl _))
theorem kU{h h' base:Heap}(k:∀b o,h.get? b=some o→(∀vs,o.data≠ .fields vs)→∃o',h'.get? b=some o'∧∀vs,o'.data≠ .fields vs):∀{l:List Env},h.FunFrames base l→h'.FunFrames base l
 | [],_=>trivial
 | _::_,⟨hk,⟨L,o,hf,hn,ho,hd⟩,hr⟩=>
  let ⟨o',ho',hd'⟩:=k L o ho hd
  ⟨hk,⟨L,o',hf,hn,ho',hd'⟩,kU k hr⟩
theorem vO{B h h':Heap}{env:Env}{outer:List Env}{e L L0:Addr}{Z:Obj→Prop}{m:Str→Option Value}(hh:HandSPX.HeldZ B (env::outer) e Z L h)(hf:env.frame=some L0)(hs:Heap.SameBut L0 h h')(hn:h'.Ns L0 m):HandSPX.HeldZ B (env::outer) e Z L h':=by
 obtain ⟨f1,f2,f3,oe,vs,T,oT,ts,he,hz,hd,h1,hnT,hTe,hT,hdT,h3⟩:=hh
 obtain ⟨_,⟨L1,o,hf1,hB,ho,hnf⟩,_⟩:=id f3
 rw [hf] at hf1
 cases hf1
 obtain ⟨o2,es,ep,ho2,hd2,_⟩:=hn
 have ne:∀b ob vs,h.get? b=some ob→ob.data=.fields vs→b≠L0:=fun b ob vs e e2 z=>by
  subst z
  rw [ho] at e
  cases e
  exact hnf _ e2
 refine ⟨fun b o q=>?_,f2,kU (fun b ob e nf=>?_) f3,oe,vs,T,oT,ts,(hs.2 _ (ne _ _ _ he hd)).trans he,hz,hd,h1,hnT,hTe,(hs.2 _ (ne _ _ _ hT hdT)).trans hT,hdT,h3⟩
 ·refine (hs.2 b fun z=>?_).trans (f1 b o q)
  rw [z,hB] at q
  cases q
 ·by_cases hb:b=L0
  ·subst hb
   exact ⟨o2,ho2,fun vs z=>by rw [hd2] at z; cases z⟩
  ·exact ⟨ob,(hs.2 b hb).trans e,nf⟩
abbrev pZ(X:Cx)(W:WX):Cx:=X.wish fun u s'=>L2.XE X W u s'
theorem Ae{X:Cx}{E:Value→Shared→Prop}{W:WX}{u:Value}{s':Shared}(x:L2.XE (X.wish E) W u s'):L2.XE X W u s':=by
 obtain ⟨a,B,sI,pins,σ,H,cls,d,rfl,I,r⟩:=x
 exact ⟨a,B,sI,pins,σ,H,cls,d,rfl,I.unwish,r⟩
theorem vP{X:Cx}{W:WX}:L2.Takes (pZ X W) W:=fun _ _ x=>Ae x
theorem yo{Y:Cx}{a:Addr}{q:Addr×Obj}{pins:List (Addr×Obj)}{n:Str}{i:Nat}{pos:Pos}{W:WX}{u:Value}{s:Shared}{R E1 E2:Value→Shared→Prop}{what:String}(ok:Y.Ok)(hs:Y.stack=Y.env::Y.outer)(hf:Y.env.frame=some Y.env.locals)(hN:Y.N.Nodup)(hi:Y.N[i]? =some n)(hln:Y.env.kindOf n=some .local)
  (hx:L2.XE (L2H.suiteX Y a (q::(Y.pn++pins))) (fun c d σ H=>W c d (σ.set i none) H) u s) (hR:∀s',L2.XE Y W u s'→R u s'):
  wpAny (model Y.prog Y.w) (Y.A.mark (some (.ref a))) (noteFrame u Y.env) (fun _ s3=>wpAny (model Y.prog Y.w) (Y.A.mark (some (.ref a))) (do bindName Y.env n .none; unbindBehindTheSuite Y.env n pos)
   (fun _ s4=>wpAny (model Y.prog Y.w) (Y.A.mark (some (.ref a))) (passOn what u Y.env:Sem Flow) (fun _ _=>False) R s4) E1 s3) E2 s:=by
 obtain ⟨x,B,sI,pins',σ',H',cls,d,rfl,I',nb,up,sky,na,os,ag,w⟩:=hx
 have hfr:(Y.A.mark (some (.ref a))).frames=some (Y.env::Y.outer):=by
  have z:(Y.A.mark (some (.ref a))).frames=some Y.stack:=I'.ok.frames
  rw [z,hs]
 have sky:Sky B (Y.env::Y.outer) x (Zc cls d) Y.env.locals s.heap:=by rw [←hs]; exact sky
 have hcls:(Y.env.scope.kind == .class||(Y.env.scope.kind == .module&&Y.env.locals != Y.env.globals))=false:=by rw [ok.kind]; rfl
 refine yn Zc.steady hfr hf sky fun h1 hh up1=>?_
 obtain ⟨m,hn,hlk⟩:=id I'.loc
 have hn1:h1.Ns Y.env.locals m:=(up.trans up1).ns hn
 refine wpAny_nameGoes_keeps (s:={ s with heap:=h1 }) hln hn1 hcls fun h2 v hn2 hs2=>?_
 have hh2:=vO hh hf hs2 hn2
 obtain ⟨k1,k2,k3,oe,vs,T,oT,ts,he,hz,hd,hv1,hr⟩:=id hh2
 unfold PySem.passOn
 refine wpAny_bind (wpAny_field he hd hv1 ?_)
 rw [if_neg (show ¬((Value.ref T == Value.none)=true) from by simp)]
 have fin:wpAny (model Y.prog Y.w) (Y.A.mark (some (.ref a))) (setFlight (.ref x) Y.env.frame) (fun _ s4=>wpAny (model Y.prog Y.w) (Y.A.mark (some (.ref a))) (throw (.ref x):Sem Flow) (fun _ _=>False) R s4) R { s with heap:=h2,toks:=s.toks+1 }:=by
  rw [hf]
  refine HandSPX.setFlight_anyZ (s:={ s with heap:=h2,toks:=s.toks+1 }) hh2.1 hh2.2.2.1 hh2.2.2.2 fun h3 j1 j2 j3 j4=>wpAny_throw (hR _ ?_)
  obtain ⟨o2,es,ep,ho2,hd2,hk2,hm2⟩:=hn2
  obtain ⟨o0,es0,ep0,ho0,hd0,_⟩:=id hn
  have hG:(sI.heap.update Y.env.locals fun _=>o2).get? Y.env.locals=some o2:=Heap.get?_update_self (fun _=>o2) ho0 (Obj.isFreed_of_dict hd2)
  have mem:Y.env.locals∈frs Y.stack:=by
   rw [hs]
   exact List.mem_filterMap.mpr ⟨Y.env,List.mem_cons_self,hf⟩
  have I0:Inv Y pins σ' H' sI:=L2H.unsuiteX I' ok
  refine ⟨x,B,{ sI with heap:=sI.heap.update Y.env.locals fun _=>o2,toks:=sI.toks },pins,σ'.set i none,H',cls,d,rfl,ym I0 hN hi hlk hn ⟨o2,es,ep,hG,hd2,hk2,hm2⟩ (Heap.SameBut.update ..),fun b o e hb=>?_,fun b o e nf=>?_,.inr (.inr ?_),na,os,ag,w⟩
  ·refine nb b o ?_ hb
   rw [←e]
   exact (Heap.get?_update_other _ _ fun z=>hb (by rw [←z]; exact mem)).symm
  ·by_cases hb:b=Y.env.locals
   ·subst hb
    rw [hG] at e
    cases e
    exact j4 _ _ ho2 nf
   ·have e0:sI.heap.get? b=some o:=by
     rw [←e]
     exact (Heap.get?_update_other _ _ fun z=>hb z.symm).symm
    obtain ⟨sl,e1⟩:=(up.trans up1) b o e0 nf
    obtain ⟨sl2,e2⟩:=j4 b _ ((hs2.2 b hb).trans e1) nf
    exact ⟨sl2,e2⟩
  ·rw [hs]
   exact ⟨j1,hh2.2.1,j2,j3⟩
 first
  | exact wpAny_bind (wpAny_pure (wpAny_bind fin))
  | exact wpAny_bind fin
def Af(Y:Cx)(te:Expr)(hit:Value→Prop):Prop:=∀(a:Addr) (oe:Obj) (pn pins:List (Addr×Obj)) (σ:L2.St) (H:Hp) (s:Shared) (cls:Value) (Q:Bool→Shared→Prop) (E:Value→Shared→Prop),Inv (Y.suite a ((a,oe)::pn)) pins σ H s→s.heap.get? a=some oe→oe.cls=cls→hit cls→
 (∀h',(∀b o,s.heap.get? b=some o→h'.get? b=some o)→Q true { s with heap:=h' })→wpAny (model Y.prog Y.w) (Y.A.mark (some (.ref a))) (eval te Y.env) (fun c s1=>wpAny (model Y.prog Y.w) (Y.A.mark (some (.ref a))) (excMatches (.ref a) c) Q E s1) E s
theorem vQ{Y:Cx}{x1:Str}{C1:Addr}{p1:Pos}(g1:Gl Y x1)(m1:Y.mg x1=some (.ref C1))(d1:(x1 == ("__debug__":Str))=false):Af Y (.Name x1 p1) (fun cls=>PySem.W.exmOne Y.K cls (.ref C1)=some true):=by
 intro a oe pn pins σ H s cls Q E I ha hc hx q
 have LT:PySem.W.Looks (model Y.prog Y.w) s.heap (typeOf (.ref a)) cls:=fun A Q E s k q=>wpAny_typeOf_ref (k _ _ ha) (by rw [hc]; exact q)
 refine ld_glob (X:=Y.suite a ((a,oe)::pn)) I g1 m1 ?_ d1
 refine (PySem.W.exm_one I.kIn LT hx).here ?_
 exact q s.heap fun _ _ e=>e
theorem Ag{Y:Cx}{te:Expr}{hit:Value→Prop}{n:Str}{i:Nat}{suite:List Stmt}{b₀:Stmt}{pos':Pos}{Wout:WX}{WS:Value→Option Addr→L2.St→Hp→Prop}{D:Ends}{pins:List (Addr×Obj)}
    (ok:Y.Ok) (hs:Y.stack=Y.env::Y.outer) (hf:Y.env.frame=some Y.env.locals) (hN:Y.N.Nodup) (hi:Y.N[i]? =some n) (hln:Y.env.kindOf n=some .local) (hit_:Af Y te hit)
    (own:∀hd:Option Value,PassesOwnAt (model Y.prog Y.w) (Y.A.mark hd) Y.A Y.env Y.xe) (tk:L2.Takes Y Wout)
    (hsu:∀(a:Addr) (oe:Obj) (cls:Value) (d:Option Addr) (pn:List (Addr×Obj)) (σ:L2.St) (H:Hp),L2N.Zn cls d oe→(∃vs,oe.data=.fields vs)→H a=none→L2H.HotC (pZ (L2H.suiteX Y a ((a,oe)::pn)) (fun c d σ H=>Wout c d (σ.set i none) H))→hit cls→WS cls d σ H→
      ∃t,PSs (pZ (L2H.suiteX Y a ((a,oe)::pn)) (fun c d σ H=>Wout c d (σ.set i none) H)) (b₀::suite) t∧t { nx:=fun σ H=>D.nx (σ.set i none) H,rt:=D.rt,bk:=fun σ H=>D.bk (σ.set i none) H,ct:=fun σ H=>D.ct (σ.set i none) H } (σ.set i (some (.ref a))) H):
    L2N.Takes (Y.tr (Y.pn++pins) fun e s₁=>wpAny (model Y.prog Y.w) Y.A (noteFrame e Y.env) (fun _ s₂=>wpAny (model Y.prog Y.w) Y.A (setFlight e none) (fun _ s₃=>wpAny (model Y.prog Y.w) Y.A (handleBy e Y.env [.ExceptHandler (some te) (some n) (b₀::suite) pos']) (SP Y pins D) Y.xe s₃) Y.xe s₂) Y.xe s₁) (fun cls d σ H=>hit cls∧WS cls d σ H):=by
  have frames:Y.A.frames=some (Y.env::Y.outer):=by rw [ok.frames,hs]
  have hloc:Loc Y.env.scope n:=.inl hln
  rintro u s' ⟨a,B,sI,pins',σ',H',cls,d,rfl,J',nb,up,sky,na,os,ag,hx,ws⟩
  have J:Inv Y pins σ' H' sI:=J'.ofTry ok
  rw [hs] at sky
  refine L2N.Sky.land L2N.Zn.steady frames hf sky fun h3 fl3 up3=>?_
  have J3:Inv Y pins σ' H' { s' with heap:=h3 }:=J.landed nb fl3.1 (up.trans up3) os ag
  obtain ⟨oe3,vs3,he3,hz3,hd3⟩:=fl3.there
  have far:∀b∈frs (Y.env::Y.outer),b≠a:=by
    intro b hb e
    subst e
    obtain ⟨_,o',e',nf⟩:=fl3.2.2.1.mem hb
    rw [he3] at e'
    cases e'
    exact nf _ hd3
  have nL:a≠Y.env.locals:=fun z=>far Y.env.locals (List.mem_filterMap.mpr ⟨Y.env,List.mem_cons_self,hf⟩) z.symm
  have nF:a∉Y.fs:=fun m=>by
    obtain ⟨e,he,q⟩:=List.mem_filterMap.mp m
    exact far a (List.mem_filterMap.mpr ⟨e,List.mem_cons_of_mem _ he,q⟩) rfl
  have S3:=J3.suite he3 hd3 na nL nF
  refine wpAny_handleBy_cons (codeAny_handlers_test ?_) (fun q=>by cases q)
  refine hit_ a oe3 _ _ _ _ _ cls _ _ S3 he3 hz3.1 hx fun h5 keep=>?_
  have fl5:=kL keep fl3
  have up5:=up3.trans (Heap.UpToSlots.of_keeps keep)
  refine codeAny_handlers_suite_as ?_
  refine HandSPX.lands_againZ (s:={ s' with heap:=h5 }) fl5 fun h6 fl6 up6=>?_
  have J6:Inv Y pins σ' H' { s' with heap:=h6 }:=J.landed nb fl6.1 ((up.trans up5).trans up6) os ag
  obtain ⟨oe6,vs6,he6,hz6,hd6⟩:=fl6.there
  have S6:=J6.suite he6 hd6 na nL nF
  refine store_ok (X:=Y.suite a ((a,oe6)::(Y.pn++pins))) (v:=.ref a) S6 hN hi hloc rfl (fun s7 S7=>?_) (.inr hln)
  obtain ⟨t,pt,tt⟩:=hsu a oe6 cls d (Y.pn++pins) σ' H' hz6 ⟨_,hd6⟩ na ⟨(a,oe6),⟨rfl,vs6,hd6,hz6.2.2 vs6 hd6⟩,List.mem_cons_self⟩ hx ws
  refine wpAny_mono (pt.run [] _ _ H' _ ((L2H.suiteX_of S7).wish _) tt) (fun f s8 z=>?_) fun e8 s8 z=>?_
  · have end_:∀{σ6:L2.St} {H6:Hp} {Q:Shared→Prop},Inv (pZ (L2H.suiteX Y a ((a,oe6)::(Y.pn++pins))) (fun c d σ H=>Wout c d (σ.set i none) H)) [] σ6 H6 s8→(∀s7,Inv Y pins (σ6.set i none) H6 s7→Q s7)→
        wpAny (model Y.prog Y.w) Y.A (do bindName Y.env n .none; unbindBehindTheSuite Y.env n pos') (fun _ s7=>Q s7) Y.xe s8:=fun {σ6 H6 Q} S6 hq=>gone_ok (L2H.unsuiteX S6.unwish ok) hN hi hln hq
    cases f with
    | next=>
      obtain ⟨σ8,H8,S8,q⟩:=z
      exact end_ S8 fun s7 J7=>⟨_,_,J7,q⟩
    | brk=>
      obtain ⟨σ8,H8,S8,q⟩:=z
      exact end_ S8 fun s7 J7=>⟨_,_,J7,q⟩
    | cont=>
      obtain ⟨σ8,H8,S8,q⟩:=z
      exact end_ S8 fun s7 J7=>⟨_,_,J7,q⟩
    | ret u=>
      obtain ⟨v,σ8,H8,S8,rv,q⟩:=z
      exact end_ S8 fun s7 J7=>⟨_,_,_,J7,rv,q⟩
  · exact yo ok hs hf hN hi hln z fun s9 z9=>own (some (.ref a)) e8 s9 (tk e8 s9 z9)
theorem vR{X:Cx}{W:WX}{e:Expr}{t:L2.St→Hp→XK→Prop}{p:Addr×Obj}{n:Str}{i:Nat}{np pos:Pos}{C1:Addr}(hp:p∈X.pn)(hot:L2H.Hot1 X.A p)(hcl:p.2.cls=.ref C1)(rC:Raises X (.ref C1))(hi:X.N[i]? =some n)(hln:X.env.kindOf n=some .local)(hdn:(n == ("__debug__":Str))=false)(tk:L2.Takes X W)(he:L2H.PMk5 X e t):
  PS X (.Raise (some e) (some (.Name n np)) pos) (fun _ σ H=>σ[i]? =some (some (.ref p.1))∧t σ H fun cls d H'=>W cls d σ H'):=by
 refine ⟨fun pins s σ H D I h=>?_⟩
 obtain ⟨hσ,h⟩:=h
 obtain ⟨hh,v1,e1,c1⟩:=hot
 show wpAny _ _ (do standAt pos; raiseStmt X.env (some (do let v ←eval e X.env; standAt pos; pure v)) (some (do let v ←eval (.Name n np) X.env; standAt pos; pure v))) _ _ _
 refine wpAny_bind (wpAny_standAt (lu (x1:=p.1) (wpAny_bind (wpAny_mono (he pins s σ H _ I h) (fun u s1 hu=>wpAny_bind (wpAny_standAt (wpAny_pure ?_))) fun _ _ x=>x))))
 obtain ⟨⟨a,oe,vs,sI,H',cls,d,rfl,J,k,hne,ha,hz,hd,h1,na,os,ag,r,q⟩,h5⟩:=hu
 have h4:4<vs.size:=h5 a oe vs rfl ha hd
 have k4:∀b u,sI.heap.get? b=some u→(fQ s1.heap a p.1).get? b=some u:=fun b u z=>by
  have nab:a≠b:=fun y=>by
   rw [←y,hne] at z
   cases z
  rw [kS nab]
  exact k b u z
 obtain ⟨r1,_⟩:=r (model X.prog X.w) s1.heap (J.kIn.keeps k)
 obtain ⟨_,r2⟩:=r (model X.prog X.w) (fQ s1.heap a p.1) (J.kIn.keeps k4)
 obtain ⟨r3,_⟩:=rC (model X.prog X.w) s1.heap (J.kIn.keeps k)
 have P1:=(J.pin p (List.mem_append_left _ hp)).1
 have nap:p.1≠a:=fun z=>by
  rw [z,hne] at P1
  cases P1
 obtain ⟨ha4,hd4⟩:=rF (x1:=p.1) ha hd
 have h12:(((vs.setIfInBounds 3 (Value.ref p.1)).setIfInBounds 4 (Value.bool true)).setIfInBounds 2 (Value.ref p.1))[1]? =some Value.none:=set_other (by decide) (set_other (by decide) (set_other (by decide) h1))
 refine ⟨a,oe,vs,cls,p.2,v1,.ref C1,rfl,ha,hz.1,hd,h1,h4,nap,⟨hh,p.2,v1,k _ _ P1,e1,c1⟩,k _ _ P1,e1,hcl,r3,fun Q' q'=>?_,r1,r2,tk _ _ (XE.new J (fun b u z=>?_) hne (Heap.get?_update_self _ ha4 (Obj.isFreed_of_fields (Obj.data_mapFields hd4 _)))
  ⟨by rw [Obj.cls_mapFields,Obj.cls_mapFields,Obj.cls_mapFields]; exact hz.1,by rw [HandSPX.dict_mapFields,HandSPX.dict_mapFields,HandSPX.dict_mapFields]; exact hz.2.1⟩ (Obj.data_mapFields hd4 _) h12 na os ag q)⟩
 ·obtain ⟨m,⟨o,es,ep,ho,hm⟩,hl⟩:=J.loc
  obtain ⟨u,ru,l⟩:=hl i n _ hi hσ (.inl hln)
  cases (show u=Value.ref p.1 from ru)
  rcases l with ⟨hk,hm2⟩ | ⟨hk,_⟩
  ·exact wpAny_bind (wpAny_Name (wpAny_loadName_local J.ok.kind hk ⟨o,es,ep,k _ _ ho,hm⟩ hm2 (wpAny_bind (wpAny_standAt (wpAny_pure q')))) hdn)
  ·rcases hk with hk | hk
   ·rw [hln] at hk; cases hk
   ·rw [hln] at hk; cases hk
 ·have nab:a≠b:=fun y=>by
   rw [←y,hne] at z
   cases z
  show ((fQ s1.heap a p.1).update a (Obj.mapFields (·.setIfInBounds 2 (.ref p.1)))).get? b=some u
  rw [Heap.get?_update_other _ _ nab]
  exact k4 b u z
def UAN(X:Cx)(pins:List (Addr×Obj))(W:WX)(e:Value)(s':Shared):Prop:=∃sx s0,L2N.XE (X.tr (X.pn++pins) X.xe) (fun c d σ H=>W c d σ H∧Gok H s') e s0∧Slq sx s0 s'
structure UEa (X:Cx) (e:Expr) (T:DTE):Prop where
 run:∀W pins B μ en m σ H s Q Qx,Inv X pins σ H s→Gok H s→Rel X.K B μ en m σ H→ExOf X.K (fun c d H=>W c d σ H) B μ m H Qx→T en m Q Qx→wpAny (M0 X.prog X.w) X.A (eval e X.env) (UQ X pins B μ en m σ H Q) (UAN X pins W) s
structure USa (X:Cx) (st:Stmt) (T:DTS):Prop where
 run:∀W pins B μ en m σ H s N,Inv X pins σ H s→Gok H s→Rel X.K B μ en m σ H→ExOf X.K (fun c d H=>W c d σ H) B μ m H N.xc→T en m N→wpAny (M0 X.prog X.w) X.A (exec st X.env) (SPt X pins B μ m H N) (UAN X pins W) s
def C9(sp:SpD)(tA:DTA):DTE:=fun en m Q Qx=>tA en m (fun ws m1=>sp ws m1 Q Qx) noX
section
variable {X:Cx} {x:Str} {e o:Expr} {es:List Expr} {p pos apos epos:Pos} {tA:DTA} {te to:DTE} {sp:SpD} {ps:List Str} {k:Nat}
theorem rG(G:GU X.prog X.w X.K X.mg X.base k x ps sp)(hr:Room k X.A)(ha:DA X.nox E0 (e::es) tA)(hg:Gl X x:=by rfl)(hdb:(x == ("__debug__":Str))=false:=by decide)
  (he:starEach (e::es) X.env=(false,eval e X.env)::starEach es X.env:=by rfl) (hpl:(backTo pos (starEach es X.env)).any (·.1)=false:=by rfl):UEa X (.Call (.Name x p) (e::es) [] pos) (C9 sp tA):=by
 refine ⟨fun W pins B μ en m σ H s Q Qx I g R hx ht=>?_⟩
 obtain ⟨f,fd,hm,hk,hb,F⟩:=G.ex
 obtain ⟨tp,pp,kp⟩:=ha.ex
 refine wpAny_Call_Name_kw (wpAny_mono (a4 I.bare (ld_glob (X:=X.nox) (Q:=fun v s'=>v=.ref f∧s'=asleep s) (E:=fun _ _=>False) (qO I.asl) hg hm ⟨rfl,rfl⟩ hdb)) (fun v s1 ⟨t1,⟨ev,et⟩,sl1⟩=>?_) fun _ _ ⟨_,z,_⟩=>z.elim)
 subst ev et
 have I1:Inv X pins σ H s1:=sl1.inv I.asl
 have g1:Gok H s1:=g.sl sl1
 have wa:=kp B μ en m σ H _ noX (fun vs H'=>∃B' μ' m' ws,Stp B μ m H B' μ' m' H'∧Rel X.K B' μ' en m' σ H'∧RWs X.K B' μ' vs ws∧sp ws m' Q Qx) R ExOf.no ht fun B' μ' m' H' ws vs st r rw q=>⟨B',μ',m',ws,st,r,rw,q⟩
 refine PySem.W.callWith_K (h₀:=X.base) I.ok.mod.kin hk (wpAny_mono (a4 I1.bare (pp.run pos pins (asleep s1) σ H _ (qO I1.asl) wa)) (fun us s2 ⟨t2,⟨vs,H2,J2,rv,B2,μ2,m2,ws,st2,R2,rws,q2⟩,sl2⟩=>?_) fun _ _ ⟨_,z,_⟩=>z.elim) he hpl
 have I2:Inv X pins σ H2 s2:=sl2.inv (show Inv X pins σ H2 t2 from Inv.unwish (X:=X) (E:=fun _ _=>False) J2)
 have g2:Gok H2 s2:=(g1.stp R.mem st2).sl sl2
 refine ⟨I2.kIn,?_⟩
 refine wpAny_call (codeAny_mono (F.run X.A X.stack s2 H2 ⟨us,[]⟩ (us++[]) vs ws B2 μ2 m2 Q Qx (fun c d H=>W c d σ H) hr I2.env0 g2 R2.mem (hb s2 us I2.kIn (by rw [List.append_nil,←rv.length,rws.len]; exact F.len _ _ _ _ q2)) (by rw [List.append_nil]; exact rv) rws (hx.step st2 R2.mem R.mem.le) q2) fun r s' hq=>?_)
 cases r with
 | ok fl=>
  cases fl with
  | ret u=>
   obtain ⟨v,H',I',rv',B',μ',m',y,st,M',rw',q,g'⟩:=I2.after hq
   exact ⟨v,y,B',μ',m',H',I',g',rv',rw',st2.trans R2.mem st R.mem.le,R2.stp st M',q⟩
  | next=>exact False.elim hq
  | brk=>exact False.elim hq
  | cont=>exact False.elim hq
 | error ex=>
  have hq:L2N.CX X.prog X.w X.stack H2 s2 (EG (fun c d H=>W c d σ H) s') ex s':=hq
  have hbr:AllBare s'.gens:=by
   obtain ⟨_,_,_,_,_,_,_,_,_,_,_,hb,_⟩:=hq
   exact hb
  exact ⟨s',asleep s',L2N.XE.of_call (I2.toTry _) (fun cls d H' h=>h) (tX hq fun _=>bu hbr),Sj.of hbr,fun _ _=>rfl,bu hbr⟩
def Da(to te:DTE):DTS:=fun en m N=>to en m (fun x m1=>me x m1∧te en m1 (fun y m2=>mf x [y] m2 fun _ m3=>N.nx en m3) N.xc) noX
theorem Ah(ho:DE X.nox E0 o to)(he:UEa X e te)(hb:attributeBase o "append" X.env (eval o X.env)=eval o X.env:=by rfl)
  (hfew:((backTo pos (starEach [e] X.env)).all (fun x=> !x.1)&&(backToKw pos (keywordEach [] X.env)).all (fun x=>x.1.isSome)
   &&decide ([e].length+([]:List Keyword).length+(if ([]:List Keyword).isEmpty then 0 else 1)<30))=true:=by rfl)
  (hline:(apos.endLine == pos.line)=true:=by rfl) (hs:starEach [e] X.env=(false,eval e X.env)::starEach [] X.env:=by rfl) (hplain:(backTo pos (starEach [] X.env)).any (·.1)=false:=by rfl)
  (hi:interactive X.env=false:=by rfl) (hsw:swapsWith (.Call (.Attribute o "append" apos) [e] [] pos) none epos.line X.env=pure false:=by rfl):
  USa X (.Expr (.Call (.Attribute o "append" apos) [e] [] pos) epos) (Da to te):=by
 refine ⟨fun W pins B μ en m σ H s N I g R hx ht=>?_⟩
 rw [exec_Expr X.env _ epos hi hsw]
 refine wpAny_bind (wpAny_standAt (wpAny_bind ?_))
 obtain ⟨tp,pp,kp⟩:=ho.ex
 have wa:=kp B μ en m σ H _ noX (fun v H'=>∃B' μ' m' w,Stp B μ m H B' μ' m' H'∧Rel X.K B' μ' en m' σ H'∧RW X.K B' μ' v w∧me w m'∧te en m' (fun y m2=>mf w [y] m2 fun _ m3=>N.nx en m3) N.xc) R ExOf.no ht fun B' μ' m' H' w v st r rw q=>⟨B',μ',m',w,st,r,rw,q⟩
 rw [arm_eval_Call,hb]
 refine wpAny_bind (wpAny_mono (a4 I.bare (pp.run pins (asleep s) σ H _ (qO I.asl) wa)) (fun v s1 ⟨t1,⟨x,H1,J1,r1,B1,μ1,m1,w,st1,R1,rw1,q1,q2⟩,sl1⟩=>?_) fun _ _ ⟨_,z,_⟩=>z.elim)
 have I1:Inv X pins σ H1 s1:=sl1.inv (show Inv X pins σ H1 t1 from Inv.unwish (X:=X) (E:=fun _ _=>False) J1)
 have g1:Gok H1 s1:=(g.stp R.mem st1).sl sl1
 obtain ⟨h1,h2⟩:=tyV_is I1 r1 (oP (X:=X) B1 μ1 m1 H1 w x R1.mem rw1 q1)
 refine wpAny_bind (wpAny_standAt ?_)
 have hform:methodCallForm ([e].length+([]:List Keyword).length) (backTo pos (starEach [e] X.env)) (backToKw pos (keywordEach [] X.env))=true:=hfew
 have hpos:methodCallPos true o X.env apos pos=pure pos:=by unfold methodCallPos; simp [hline]
 unfold methodCall
 rw [hform]
 refine wpAny_bind (wpAny_holding (getMethod_builtin h1 PySem.F.plainAttrs_list PySem.F.slot_list_append PySem.F.type_list_append h2 ?_))
 refine wpAny_bind (wpAny_of_eq hpos ?_)
 rw [hs]
 refine Calls.callWith_builtin (by show (false||(backTo pos (starEach [] X.env)).any (·.1))=false; rw [hplain] <;> rfl) (Calls.evalArgs_plain ?_)
 refine Calls.spliced_cons (thn (he.run W pins B1 μ1 en m1 σ H1 s1 _ _ I1 g1 R1 (hx.step st1 R1.mem R.mem.le) q2) fun u s2 ⟨y,w2,B2,μ2,m2,H2,I2,g2,r2,rw2,st2,R2,q3⟩=>?_)
 refine Calls.spliced_nil ?_
 have wm:=tq (X:=X.nox) B2 μ2 m2 H2 w [w2] x [y] _ (fun z H3=>∃B3 m3,Stp B2 μ2 m2 H2 B3 μ2 m3 H3∧MemOk X.K B3 μ2 m3 H3∧N.nx en m3) R2.mem (rw1.to st2.same st2.pre) (.cons rw2 .nil) q3 fun B3 m3 H3 d z s3 M3 rz q4=>⟨B3,m3,s3,M3,q4⟩
 refine wpAny_mono (a4 I2.bare (mt_append (X:=X.nox) pins (asleep s2) σ H2 x [y] v [u] _ (qO I2.asl) r1 (.cons r2 .nil) wm)) (fun v3 s3 ⟨t3,⟨z,H3,J3,rv3,B3,m3,st3,M3,q4⟩,sl3⟩=>?_) fun _ _ ⟨_,z,_⟩=>z.elim
 have I3:Inv X pins σ H3 s3:=sl3.inv (show Inv X pins σ H3 t3 from Inv.unwish (X:=X) (E:=fun _ _=>False) J3)
 have st:=(st1.trans R1.mem st2 R.mem.le).trans R2.mem st3 R.mem.le
 exact AT ⟨σ,B3,μ2,en,m3,H3,I3,(g2.stp R2.mem st3).sl sl3,st,R2.stp st3 M3,q4⟩
end
def XA(K:Frag)(i:Nat)(a C dd:Addr)(t:TA)(tr:En→Er→Me→(D→Me→Prop)→Prop):Prop:=∀B μ en m σ H fvs (er:Er) (Q:D→Me→Prop) (QV:List V→Hp→Prop),Rel K B μ en m σ H→i<σ.length→H dd=some (.xd fvs)→RvF K B fvs er.fs→er.C=C→tr en er m Q→
 (∀B' μ' m' H' v d,Stp B μ m H B' μ' m' H'→MemOk K B' μ' m' H'→Rv K B' v d→Q d m'→QV [v] H')→t (σ.set i (some (.ref a))) H QV
def Db(hit:Value→Prop)(T:Addr)(xT fld:Str)(tb:DTS)(tr:En→Er→Me→(D→Me→Prop)→Prop):DTS:=fun en m N=>tb en m { N with xc:=fun er m2=>hit (.ref er.C)∧tr en er m2 fun d m3=>N.xc ⟨T,erF xT [(fld,d)]⟩ m3 }
theorem Ai{X:Cx}{E:XK}{st:Stmt}{xT fld n:Str}{i:Nat}{te:Expr}{hit:Value→Prop}{T:Addr}{re:Expr}{tb:DTS}{tr:En→Er→Me→(D→Me→Prop)→Prop}{kT:Nat}{np pT rpos rrpos pos' tpos:Pos}
  (hs:X.stack=X.env::X.outer) (hf:X.env.frame=some X.env.locals) (hex:X.ex=[]) (hN:X.N.Nodup) (hi:X.N[i]? =some n) (hln:X.env.kindOf n=some .local)
  (hst:USa X st tb) (hH:∀E',Af (sx2 X E') te hit) (hR:∀C,hit (.ref C)→∀Y:Cx,Y.K=X.K→Raises Y (.ref C))
  (MH:OexH X.prog X.w X.K X.mg X.base kT T (cb T 1 fun vs=>[(fld,vs.headD .non),(("code":Str),V.str xT)])) (hrT:Room (kT+1) X.A) (mT:X.mg xT=some (.ref T))
  (hra:∀(E':XK) (W':WX) (a:Addr) (oe:Obj) (pn:List (Addr×Obj)) (C dd:Addr),Zc (.ref C) (some dd) oe→(∃vs,oe.data=.fields vs)→hit (.ref C)→∃t,PA (pZ (L2H.suiteX (sx2 X E') a ((a,oe)::pn)) W') [re] t∧XA X.K i a C dd t tr)
  (ho:okS xT=true:=by decide+kernel) (hdn:(n == ("__debug__":Str))=false:=by decide) (hT:Gl X xT:=by rfl) (dT:(xT == ("__debug__":Str))=false:=by decide)
  (hre:starEach [re] X.env=(false,eval re X.env)::starEach [] X.env:=by rfl) (hrpl:(backTo rpos (starEach [] X.env)).any (·.1)=false:=by rfl):
  US2 X E (.Try [st] [.ExceptHandler (some te) (some n) [.Raise (some (.Call (.Name xT pT) [re] [] rpos)) (some (.Name n np)) rrpos] pos'] [] [] tpos) (Db hit T xT fld tb tr):=by
 refine ⟨fun pins B μ en m σ H s N I g R hx ht=>?_⟩
 obtain ⟨W,hW⟩:∃W:WX,W=fun cls d σ' H'=>hit cls∧σ'=σ∧∃(B':Hp) (μ':List Addr) (m':Me) (er:Er) (dd:Addr) (fvs:List (Str×V)),cls=.ref er.C∧d=some dd∧Stp B μ m H B' μ' m' H'∧MemOk X.K B' μ' m' H'∧H' dd=some (.xd fvs)∧RvF X.K B' fvs er.fs∧tr en er m' fun d m3=>N.xc ⟨T,erF xT [(fld,d)]⟩ m3:=⟨_,rfl⟩
 have hxW:ExOf X.K (fun c d H=>W c d σ H) B μ m H (fun er m2=>hit (.ref er.C)∧tr en er m2 fun d m3=>N.xc ⟨T,erF xT [(fld,d)]⟩ m3):=fun B' μ' m' H' er dd fvs st M hd rf q=>by
  rw [hW]
  exact ⟨q.1,rfl,B',μ',m',er,dd,fvs,rfl,rfl,st,M,hd,rf,q.2⟩
 refine jb (wpAny_execs_cons (wpAny_mono (hst.run W pins B μ en m σ H s _ I g R hxW ht) (fun f s1 q=>?_) fun ex s' ⟨sx,s0,xe,sl⟩=>?_))
 ·cases f with
  | next=>exact wpAny_execs_nil (wpAny_execs_nil q)
  | brk=>exact q
  | cont=>exact q
  | ret v=>exact q
 ·have I2:Inv (sx2 X (EG E s')) pins σ H s:=CW I
  have tk:L2.Takes (sx2 X (EG E s')) (fun cls d _ H=>EG E s' cls d H):=L2.takes_of hs hf hex rfl
  have take:=Ag (Y:=sx2 X (EG E s')) (pins:=pins) (te:=te) (hit:=hit) (n:=n) (i:=i) (suite:=[]) (b₀:=.Raise (some (.Call (.Name xT pT) [re] [] rpos)) (some (.Name n np)) rrpos) (pos':=pos') (D:={ nx:=fun _ _=>False,rt:=fun _ _=>False })
   (WS:=fun cls d σ' H'=>W cls d σ' H'∧Gok H' s') I2.ok hs hf hN hi hln (hH _) (fun hd=>L2H.passesAt_of rfl hd) tk (fun a oe cls d pn σ' H' hz hfd na hot hc ⟨hw,gE⟩=>by
    rw [hW] at hw
    obtain ⟨_,rfl,B',μ',m',er,dd,fvs,rfl,rfl,st,M,hd,rf,q⟩:=hw
    obtain ⟨fI,fdI,psI,iC,tI,F1,bi⟩:=MH.ini
    obtain ⟨vs,hfd'⟩:=id hfd
    obtain ⟨t1,p1',k1⟩:=hra (EG E s') (fun c d σ H=>EG E s' c d H) a oe pn er.C dd hz.zc hfd hc
    have hot1:L2H.Hot1 (X.A.mark (some (.ref a))) (a,oe):=⟨rfl,vs,hfd',hz.2.2 vs hfd'⟩
    have hl:i<σ'.length:=by
     rw [I.len]
     exact (List.getElem?_eq_some_iff.mp hi).1
    refine ⟨_,pss_one (vR (X:=pZ (L2H.suiteX (sx2 X (EG E s')) a ((a,oe)::pn)) (fun c d σ H=>EG E s' c d H)) (p:=(a,oe)) (i:=i) List.mem_cons_self hot1 hz.1 (hR _ hc _ rfl) hi hln hdn vP (L2H.pmk5_oexH MH.cls iC tI F1 (L2H.roomH_mark hrT _) hot bi (fun _ _ _ _ _ _ _ c=>False.elim c) hT mT p1' dT hre hrpl)),?_,?_⟩
    ·show (σ'.set i (some (.ref a)))[i]? =some (some (.ref a))
     rw [List.getElem?_set_self hl]
    have R':=R.stp st M
    refine k1 B' μ' en m' σ' H' fvs er _ _ R' hl hd rf rfl q fun B1 μ1 m1 H1 v d s1 M1 r q=>?_
    show rMk T (cb T 1 fun vs=>[(fld,vs.headD .non),(("code":Str),V.str xT)]) [_] H1 (fun cls d H'=>EG E s' cls d H')
    refine rR rfl (by decide) fun dd2 H3 nd hd2 sm=>⟨?_,(gE.stp M s1).stp M1 (Stp.grow sm)⟩
    have st3:=(st.trans M s1 R.mem.le).trans M1 (Stp.grow sm) R.mem.le
    exact hx B1 μ1 m1 H3 ⟨T,erF xT [(fld,d)]⟩ dd2 _ st3 (M1.grow sm) hd2 (.cons r (.cons (.str ho) .nil)) q)
  have h0:=take ex s0 (by
   obtain ⟨a,B1,sI,ps,σ1,H1,cls,d,e,I1,nb,up,sky,na,os,ag,w⟩:=xe
   have hc:hit cls:=by
    have z:=w.1
    rw [hW] at z
    exact z.1
   exact ⟨a,B1,sI,ps,σ1,H1,cls,d,e,(show Inv (X.tr (X.pn++pins) X.xe) ps σ1 H1 sI from I1).wish _,nb,up,sky,na,os,ag,hc,w⟩)
  have out:∀{y:Value} {ta tb:Shared},(sx2 X (EG E s')).xe y ta→Slq sx ta tb→UX2 X E y tb:=fun {y ta tb} z k=>⟨sx,ta,qL (fun c d H' z=>⟨z.1,z.2.ld fun a q=>sl.ld2 k q⟩) z,k⟩
  refine wpAny_mono (aU sl h0) (fun _ s8 ⟨t8,h8,sl8⟩=>?_) fun y s8 ⟨t8,z,k⟩=>out z k
  refine wpAny_mono (aU sl8 h8) (fun _ s9 ⟨t9,h9,sl9⟩=>?_) fun y s8 ⟨t8,z,k⟩=>out z k
  refine wpAny_mono (aU sl9 h9) (fun fl s10 ⟨t10,h10,sl10⟩=>?_) fun y s8 ⟨t8,z,k⟩=>out z k
  cases fl with
  | next=>obtain ⟨_,_,_,z⟩:=h10; exact z.elim
  | brk=>obtain ⟨_,_,_,z⟩:=h10; exact z.elim
  | cont=>obtain ⟨_,_,_,z⟩:=h10; exact z.elim
  | ret u=>obtain ⟨_,_,_,_,_,z⟩:=h10; exact z.elim
section
variable {X:Cx} {E:XK}
theorem uL:PassesOwn (M0 X.prog X.w) X.A X.env (UX2 X E):=by
 intro e s' ⟨sx,s0,hx,sl⟩
 have own:PassesOwn (model X.prog X.w) X.A X.env (sx2 X (EG E s')).xe:=passes_of (X:=sx2 X (EG E s')) (K:=fun e s''=>L2.CX X.prog X.w X.outer X.H_0 X.s_0 (EG E s') e s'') (E₁:=fun e' s''=>L2.CX X.prog X.w X.outer X.H_0 X.s_0 (EG E s') e' s'') rfl
 have up:∀{x:Value} {s1 s2:Shared},(sx2 X (EG E s')).xe x s1→Slq sx s1 s2→UX2 X E x s2:=fun {x s1 s2} h k=>⟨sx,s1,qL (fun c d H' z=>⟨z.1,z.2.ld fun a q=>sl.ld2 k q⟩) h,k⟩
 have came:∀{x:Value} {s1 s2:Shared},cameBackBy (model X.prog X.w) X.A X.env (sx2 X (EG E s')).xe x s1→Slq sx s1 s2→cameBackBy (M0 X.prog X.w) X.A X.env (UX2 X E) x s2:=fun {x s1 s2} h k=>
  wpAny_mono (aU k h) (fun _ s3 ⟨s4,q,k2⟩=>up q k2) fun y s3 ⟨s4,q,k2⟩=>up q k2
 have h1:=own e s0 hx
 exact wpAny_mono (aU sl h1) (fun _ s3 ⟨s4,q,k2⟩=>came q k2) fun y s3 ⟨s4,q,k2⟩=>came q k2
end
section
variable {X:Cx} {E:XK} {tg iter:Expr} {body:List Stmt} {ti:DTI} {g:DTG} {is:List Nat} {tb:DTS} {pos:Pos}
theorem yp(hc:X.calm=true)(hi:UI X E tg iter ti)(hg:∀E',DG (sxX X E') tg is g)(hb:USs2 X E body tb)(hs:∀x,foldedSetIterable iter X.env x=pure x:=by intro _; rfl):US2 X E (.For tg iter body [] pos) (y0 ti g tb):=by
 refine ⟨fun pins B μ en m σ H s N I g0 R hx ht=>?_⟩
 refine wpAny_For (wpAny_mono (hi.run pins B μ en m σ H s _ _ I g0 R hx ht) (fun v s1 hv=>wpAny_mono hv (fun itv s2 hp=>?_) fun _ _ z=>iB z) fun _ _ z=>iB z) hs
 obtain ⟨it,fp,tn,J,B1,μ1,m1,H1,its,rfl,I1,g1,tu,st0,hfp,st1,R1,⟨Gp,Y,wk,hG,hY⟩,q⟩:=hp
 have loop:∀(n i:Nat) (B2:Hp) (μ2:List Addr) (en2:En) (m2:Me) (σ2:L2.St) (H2:Hp) (s2:Shared),its.length - i=n→i≤its.length→Inv X pins σ2 H2 s2→Gok H2 s2→Stp B1 μ1 m1 H1 B2 μ2 m2 H2→Rel X.K B2 μ2 en2 m2 σ2 H2→tn i s2.heap→(∀b∈fp,H2 b=none)→bY g tb (its.drop i) en2 m2 N→
   codeAny (M0 X.prog X.w) X.A (.forLoop tg (.ref it) body [] X.env) (fun r s'=>match r with | .ok f=>SPt X pins B μ m H N f s' | .error e=>cameBackBy (M0 X.prog X.w) X.A X.env (UX2 X E) e s') s2:=by
  intro n
  induction n with
  | zero=>
   intro i B2 μ2 en2 m2 σ2 H2 s2 hn hi I2 g2 st2 R2 tni hn2 q2
   have ei:i=its.length:=by omega
   subst ei
   rw [List.drop_length] at q2
   have wd:=tu.done X rfl rfl rfl hc its.length pins (asleep s2) σ2 H2 (fun _ _=>False) I2.asl (fun b hb=>⟨hn2 b hb,(hfp b hb).2⟩) tni (wk.stops H2 (hG B2 μ2 m2 H2 st2.same R2.mem))
   refine iA (wpAny_mono (a4 I2.bare wd) (fun r s4 ⟨s5,⟨er,I5⟩,sl5⟩=>?_) fun _ _ ⟨_,hx,_⟩=>hx.elim)
   subst er
   exact ⟨σ2,B2,μ2,en2,m2,H2,sl5.inv I5,g2.sl sl5,st1.trans R1.mem st2 R.mem.le,R2,q2⟩
  | succ n ih=>
   intro i B2 μ2 en2 m2 σ2 H2 s2 hn hi I2 g2 st2 R2 tni hn2 q2
   have hl:i<its.length:=by omega
   have Gp2:=hG B2 μ2 m2 H2 st2.same R2.mem
   have wd:=tu.item X rfl rfl rfl hc i pins (asleep s2) σ2 H2 (fun _ _=>False) I2.asl (fun b hb=>⟨hn2 b hb,(hfp b hb).2⟩) tni (wk.goes i H2 hl Gp2)
   refine iA (wpAny_mono (a4 I2.bare wd) (fun r s4 ⟨s5,⟨u,er,w5⟩,sl5⟩=>?_) fun _ _ ⟨_,hx,_⟩=>hx.elim)
   subst er
   refine wpAny_mono (aU sl5 w5) (fun _ s6 ⟨s7,⟨x,H3,I7,rx,yl,tn7,hn7⟩,sl7⟩=>?_) fun _ _ ⟨_,hx,_⟩=>hx.elim
   obtain ⟨B3,d,ed,st3,M3,rd⟩:=hY i B2 μ2 m2 H2 x H3 hl st2.same R2.mem (wk.yields i H2 x H3 hl Gp2 yl)
   have R3:=R2.stp st3 M3
   have h67:s6.heap=s7.heap:=by rw [sl7.eq]
   have I6:Inv X pins σ2 H3 s6:=sl7.inv I7
   have g6:Gok H3 s6:=(g2.stp R2.mem st3).sl sl7
   have tn6:tn (i+1) s6.heap:=by rw [h67]; exact tn7
   have I6p:=I6.pinned (fun b hb=>⟨hn7 b hb,(hfp b hb).2⟩) (tu.obj _ _ tn6)
   rw [List.drop_eq_getElem_cons hl] at q2
   have ed2:its[i]=d:=by
    rw [List.getElem?_eq_getElem hl] at ed
    exact Option.some.inj ed
   rw [ed2] at q2
   obtain ⟨t,p,k⟩:=(hg (EG E s6)).ex
   have wt:=k B3 μ2 en2 m2 σ2 H3 (.v d) x _ (fun σ' H'=>∃B' μ' en' m',Stp B3 μ2 m2 H3 B' μ' m' H'∧Rel X.K B' μ' en' m' σ' H'∧tb en' m' { N with nx:=fun en2 m2=>bY g tb (its.drop (i+1)) en2 m2 N,ct:=fun en2 m2=>bY g tb (its.drop (i+1)) en2 m2 N,bk:=N.nx }) R3 (RW.d rd) q2 fun B' μ' en' m' σ' H' st' r' _ q=>⟨B',μ',en',m',st',r',q⟩
   refine wpAny_mono (fx I6.bare (p.run _ (asleep s6) σ2 H3 x u _ (toSx I6p.asl) rx wt)) (fun _ s8 ⟨s9,⟨σ4,H4,I9,B4,μ4,en4,m4,st4,R4,q4⟩,sl9⟩=>?_) fun x s9 z=>uL x s9 (iB z)
   have I8:Inv X (pins++pinsAt fp s6.heap) σ4 H4 s8:=sl9.inv (k7 I9)
   have g8:Gok H4 s8:=(g6.stp R3.mem st4).sl sl9
   have stA:Stp B1 μ1 m1 H1 B4 μ4 m4 H4:=(st2.trans R2.mem st3 R1.mem.le).trans R3.mem st4 R1.mem.le
   have stB:Stp B μ m H B4 μ4 m4 H4:=st1.trans R1.mem stA R.mem.le
   have pin':∀{σ':L2.St} {H':Hp} {s':Shared},Inv X (pins++pinsAt fp s6.heap) σ' H' s'→∀b∈fp,∀o,s6.heap.get? b=some o→s'.heap.get? b=some o∧H' b=none:=fun {σ' H' s'} I' b hb o e=>
    let z:=I'.pin (b,o) (List.mem_append_right _ (List.mem_append_right _ (mem_pinsAt hb e)))
    ⟨z.1,z.2.1⟩
   have again:∀{σ':L2.St} {B':Hp} {μ':List Addr} {en':En} {m':Me} {H':Hp} {s':Shared},Inv X (pins++pinsAt fp s6.heap) σ' H' s'→Gok H' s'→Stp B4 μ4 m4 H4 B' μ' m' H'→Rel X.K B' μ' en' m' σ' H'→bY g tb (its.drop (i+1)) en' m' N→_:=fun {σ' B' μ' en' m' H' s'} I' g' st' R' q'=>
    ih (i+1) B' μ' en' m' σ' H' s' (by omega) (by omega) I'.unpinned g' (stA.trans R4.mem st' R1.mem.le) R' (tu.keep _ _ _ tn6 fun b hb o e=>(pin' I' b hb o e).1) (fun b hb=>by
     obtain ⟨o,e,_⟩:=tu.obj _ _ tn6 b hb
     exact (pin' I' b hb o e).2) q'
   refine wpAny_mono (hb.run (pins++pinsAt fp s6.heap) B4 μ4 en4 m4 σ4 H4 s8 { N with nx:=fun en2 m2=>bY g tb (its.drop (i+1)) en2 m2 N,ct:=fun en2 m2=>bY g tb (its.drop (i+1)) en2 m2 N,bk:=N.nx } I8 g8 R4 (hx.step stB R4.mem R.mem.le) q4) (fun f s' hq=>?_) uL
   cases f with
   | next=>
    obtain ⟨σ',B',μ',en',m',H',I',g',st',R',q'⟩:=hq
    exact again I' g' st' R' q'
   | cont=>
    obtain ⟨σ',B',μ',en',m',H',I',g',st',R',q'⟩:=hq
    exact again I' g' st' R' q'
   | brk=>
    obtain ⟨σ',B',μ',en',m',H',I',g',st',R',q'⟩:=hq
    exact ⟨σ',B',μ',en',m',H',I'.unpinned,g',stB.trans R4.mem st' R.mem.le,R',q'⟩
   | ret v=>
    obtain ⟨x',w',σ',B',μ',m',H',I',g',rv,rw,st',M',q'⟩:=hq
    exact ⟨x',w',σ',B',μ',m',H',I'.unpinned,g',rv,rw,stB.trans R4.mem st' R.mem.le,M',q'⟩
 exact loop its.length 0 B1 μ1 en m1 σ H1 s2 rfl (Nat.zero_le _) I1 g1 .refl R1 st0 (fun b hb=>(hfp b hb).1) q
theorem Aj(hc:X.calm=true)(hi:∀E',DI (sxX X E') E' tg iter ti)(hg:∀E',DG (sxX X E') tg is g)(hb:USs2 X E body tb)(hs:∀x,foldedSetIterable iter X.env x=pure x:=by intro _; rfl):US2 X E (.For tg iter body [] pos) (y0 ti g tb):=yp hc (xj hi) hg hb hs
theorem Ak{st:List Stmt}{u:DTS}(i:Nat)(h:USs2 X E st u):USs2 X E st (sFz i u):=by
 refine ⟨fun pins B μ en m σ H s N I g R hx T=>?_⟩
 unfold sFz at T
 split at T
 ·rename_i n hn
  obtain ⟨ds,hm,T⟩:=gY T
  obtain ⟨v,h1,a,rfl,ha⟩:=R.env i _ (En.get_some hn)
  obtain ⟨vs,hv,rl⟩:=R.mem.at_ n a _ ha hm rfl
  have nb:=R.mem.off a ⟨n,_,ha,hm,rfl⟩
  have sf:=Stp.freeze (H:=H) (o:=.lst vs) ha hm rfl nb
  have R1:=R.freeze ha hm rfl hv (.lst upd_same (rl.to sf.same))
  exact thn (h.run pins _ μ _ _ σ H s N I g R1 (hx.step sf R1.mem R.mem.le) T) fun f s2 q2=>q2.back R.mem sf R1.mem
 ·exact h.run pins B μ en m σ H s N I g R hx T
 ·exact T.elim
def Dc(te:DTE):DTS:=fun en m N=>te en m (fun _ m1=>N.nx en m1) noX
theorem Al{e:Expr}{te:DTE}{h₀:ExceptHandler}{hs:List ExceptHandler}{epos tpos:Pos}(he:UEa X e te)(hi:interactive X.env=false:=by rfl)(hsw:swapsWith e none epos.line X.env=pure false:=by rfl):
  US X E (.Try [.Expr e epos] (h₀::hs) [] [] tpos) (Dc te):=by
 refine ⟨fun pins B μ en m σ H s N I g R hx ht=>?_⟩
 refine jb (wpAny_execs_cons ?_)
 rw [exec_Expr X.env _ epos hi hsw]
 refine wpAny_bind (wpAny_standAt (wpAny_bind (wpAny_mono (he.run (fun _ _ _ _=>False) pins B μ en m σ H s _ _ I g R ExOf.no ht) (fun v s' ⟨x,w,B',μ',m',H',I',g',rv,rw,st',R',q⟩=>AT (wpAny_execs_nil (wpAny_execs_nil ⟨σ,B',μ',en,m',H',I',g',st',R',q⟩))) fun ex s' ⟨sx,s0,xe,sl⟩=>?_)))
 obtain ⟨a,B1,sI,ps,σ1,H1,cls,d,e,I1,nb,up,sky,na,os,ag,w,_⟩:=xe
 exact w.elim
end
open TL NumText
def Dd(r:List Nat):Prop:=StpE r∧∀t,r≠32::43::t∧r≠32::45::t
theorem qa{z x:Str}{c d a:Nat}{r:List Nat}(hx:tl x=[c,d])(h:(tl z).drop a=r)(ha:a≤z.length)(hr:∀t,r≠c::d::t):ahe z x a=false:=by
 have x1:x.length=2:=show (tl x).length=2 by rw [hx]; rfl
 rw [pQ ha,h,hx,x1]
 have:decide (List.take 2 r=[c,d])=false:=by
  refine decide_eq_false fun k=>?_
  match r,k with
  | a::b::t,k=>
   have k: [a,b]=[c,d]:=k
   cases k
   exact hr t rfl
 rw [this,Bool.and_false]
theorem rH{ds:List D}{r:List Nat}(h:StpE r):StpE (ds.flatMap itM++r):=by
 cases ds with
 | nil=>exact h
 | cons d ds=>exact fun c t e=>by injection e with e1 _; exact e1.symm
theorem yq{z:Str}{r:List Nat}(hr:Dd r):∀{ds:List D} {f a:Nat},(∀d∈ds,a9 false d=true)→a≤z.length→(tl z).drop a=ds.flatMap itM++r→ds.length<f→gF z f a=.ok ds (a+(ds.flatMap itM).length)
 | [],f+1,a,_,ha,h,_=>by
  have h:(tl z).drop a=r:=h
  unfold gF
  rw [qa (x:=" +") (c:=32) (d:=43) rfl h ha fun t=>(hr.2 t).1,qa (x:=" -") (c:=32) (d:=45) rfl h ha fun t=>(hr.2 t).2]
  rfl
 | d::ds,f+1,a,hd,ha,h,hf=>by
  have h1:(tl z).drop a=32::sgL d::32::(itW d++(ds.flatMap itM++r)):=by
   rw [h,List.flatMap_cons,List.append_assoc]
   rfl
  obtain ⟨l1,_,_,d1⟩:=c9 h1
  obtain ⟨l2,_,_,d2⟩:=c9 d1
  obtain ⟨l3,_,_,d3⟩:=c9 d2
  have l3:a+1+1+1≤z.length:=l3
  have it:=yk (hd d List.mem_cons_self) l3 d3 (rH hr.1)
  have l4:=iV d3 l3
  have ih:=yq hr (ds:=ds) (f:=f) (a:=a+1+1+1+(itW d).length) (fun x hx=>hd x (List.mem_cons_of_mem _ hx)) l4 (gm d3) (by rw [List.length_cons] at hf; omega)
  have tk:cA (tl' " ") z (a+2)=.ok () (a+1+1+1):=jR (w:=[32]) d2
  have ap:ahe z " +" a= !itN d:=by
   cases hn:itN d with
   | true=>
    have h1:(tl z).drop a=32::45::32::(itW d++(ds.flatMap itM++r)):=by
     rw [h1]
     unfold sgL
     rw [hn]
     rfl
    exact qa (x:=" +") (c:=32) (d:=43) rfl h1 ha fun t e=>by injection e with _ e; injection e with e _; omega
   | false=>
    have h1:(tl z).drop a=tl " +"++(32::(itW d++(ds.flatMap itM++r))):=by
     rw [h1]
     unfold sgL
     rw [hn]
     rfl
    exact lR h1 ha
  have am:(ahe z " +" a||ahe z " -" a)=true:=by
   cases hn:itN d with
   | true=>
    have h1:(tl z).drop a=tl " -"++(32::(itW d++(ds.flatMap itM++r))):=by
     rw [h1]
     unfold sgL
     rw [hn]
     rfl
    rw [lR h1 ha,Bool.or_true]
   | false=>
    rw [ap,hn]
    rfl
  have sg:(if ahe z " +" a=true then (1:Int) else -1)=sgI d:=by
   rw [ap]
   unfold sgI
   cases itN d <;> rfl
  unfold gF
  rw [if_pos am,tk]
  show ((gp z (if ahe z " +" a=true then 1 else -1) (a+1+1+1)).bind fun v b=>(gF z f b).bind fun vs b=>.ok (v::vs) b)=_
  rw [sg,it]
  show ((gF z f (a+1+1+1+(itW d).length)).bind fun vs b=>.ok (d::vs) b)=_
  rw [ih]
  show Rr.ok _ _=Rr.ok _ _
  congr 1
  rw [List.flatMap_cons,List.length_append]
  show _=a+((32::sgL d::32::itW d).length+_)
  rw [List.length_cons,List.length_cons,List.length_cons]
  omega
theorem nk{d:D}(h:a9 false d=true):∃c t,itW d=c::t∧c≠45:=by
 obtain ⟨a,b,x,rfl,hb,_,h0,_,_,hx⟩:=eM h
 obtain ⟨k,rfl⟩:∃k:Nat,b=k:=⟨b.toNat,by omega⟩
 have ft:tl (frT (((a.natAbs:Nat):Int),(k:Int)))=frL a.natAbs k:=po (k:=k) rfl (p:=[]) (dq _)
 obtain ⟨c,t,ec,c1,c2⟩:=rE a.natAbs k h0
 show ∃c t,gM a k x=c::t∧c≠45
 unfold gM
 rw [ft]
 by_cases x1:(x == "one")=true
 ·rw [if_pos x1]
  exact ⟨c,t,ec,by omega⟩
 ·rw [if_neg x1]
  by_cases x2:(((a.natAbs:Nat):Int) == 1&&((k:Int)) == 1)=true
  ·rw [if_pos x2]
   obtain hp | ⟨p,q,hpq,lp,_,p1,_⟩:=jS hx
   ·exact absurd (beq_iff_eq.mpr hp) x1
   ·cases ep:tl p with
    | nil=>rw [ep] at p1; cases p1
    | cons c' t'=>
     have lw:jq c'=true:=lp c' (by rw [ep]; exact List.mem_cons_self)
     have lw:97≤c'∧c'≤122:=of_decide_eq_true lw
     exact ⟨c',t'++46::tl q,by rw [hpq,ep]; rfl,by omega⟩
  ·rw [if_neg x2]
   exact ⟨c,t++42::tl x,by rw [ec]; rfl,by omega⟩
theorem yr:∀ds:List D,ds.length≤(ds.flatMap itM).length
 | []=>Nat.zero_le _
 | d::ds=>by
  have:=yr ds
  rw [List.flatMap_cons,List.length_append,List.length_cons]
  show _≤(32::sgL d::32::itW d).length+_
  rw [List.length_cons]
  omega
theorem BV{z:Str}{its:List D}{a:Nat}{r:List Nat}(he:aE false (.tup its)=true)(ha:a≤z.length)(h:(tl z).drop a=cI its++r)(hr:Dd r):pS z a=.ok (.tup its) (a+(cI its).length):=by
 obtain ⟨its',e,l1,l6,hi⟩:=im he
 cases e
 cases its with
 | nil=>cases l1
 | cons d ds=>
  have h:(tl z).drop a=itH d++(ds.flatMap itM++r):=by
   rw [h]
   show (itH d++ds.flatMap itM)++r=_
   rw [List.append_assoc]
  have hd:=hi d List.mem_cons_self
  obtain ⟨c,t,ec,cn⟩:=nk hd
  -- behind the sign
  have go:∀b,b≤z.length→(tl z).drop b=itW d++(ds.flatMap itM++r)→((gp z (sgI d) b).bind fun v b=>(gF z (rp z) b).bind fun vs b=>.ok (D.tup (v::vs)) b)=.ok (D.tup (d::ds)) (b+(itW d).length+(ds.flatMap itM).length):=fun b hb hd2=>by
   have it:=yk hd hb hd2 (rH hr.1)
   have l4:b+(itW d).length≤z.length:=iV hd2 hb
   have d4:=gm hd2
   have l5:b+(itW d).length+(ds.flatMap itM).length≤z.length:=iV d4 l4
   have fl:=yr ds
   rw [it]
   show ((gF z (rp z) (b+(itW d).length)).bind fun vs b=>Rr.ok (D.tup (d::vs)) b)=_
   rw [yq hr (fun x hx=>hi x (List.mem_cons_of_mem _ hx)) l4 d4 (by unfold rp; omega)]
   rfl
  unfold pS
  cases hn:itN d with
  | true=>
   have hH:itH d=45::itW d:=if_pos hn
   rw [hH] at h
   have h1:(tl z).drop a=tl "-"++(itW d++(ds.flatMap itM++r)):=h
   have y:=lR h1 ha
   obtain ⟨l2,_,_,d2⟩:=c9 h
   have tk:cA (tl' "-") z a=.ok () (a+1):=jR (w:=[45]) h
   rw [if_pos y,if_pos y,tk]
   have sg:(-1:Int)=sgI d:=by unfold sgI; rw [hn]; rfl
   rw [sg]
   have g:=go (a+1) l2 d2
   show ((gp z (sgI d) (a+1)).bind _)=_
   rw [g]
   congr 1
   show _=a+(itH d++ds.flatMap itM).length
   rw [hH,List.length_append,List.length_cons]
   omega
  | false=>
   have hH:itH d=itW d:=if_neg (by rw [hn]; decide)
   rw [hH] at h
   have y:ahe z "-" a=false:=pR (x:="-") (c:=45) rfl h (fun t' e=>by rw [ec] at e; injection e with e1 _; exact cn e1) ha
   rw [if_neg (by rw [y]; decide),if_neg (by rw [y]; decide)]
   have sg:(1:Int)=sgI d:=by unfold sgI; rw [hn]; rfl
   rw [sg]
   have g:=go a ha h
   show ((gp z (sgI d) a).bind _)=_
   rw [g]
   congr 1
   show _=a+(itH d++ds.flatMap itM).length
   rw [hH,List.length_append]
   omega
theorem vS{its:List D}{k0:Nat}(hk:k0=40∨k0=59)(he:aE false (.tup its)=true):cI its≠[]∧∀c∈cI its,c≠k0:=by
 obtain ⟨its',e,l1,l6,hi⟩:=im he
 cases e
 have w:∀d∈its,∀c∈itW d,c≠k0:=fun d hd c hc=>by
  obtain ⟨a,b,x,rfl,hb,_,h0,_,_,hx⟩:=eM (hi d hd)
  obtain ⟨k,rfl⟩:∃k:Nat,b=k:=⟨b.toNat,by omega⟩
  have ft:tl (frT (((a.natAbs:Nat):Int),(k:Int)))=frL a.natAbs k:=po (k:=k) rfl (p:=[]) (dq _)
  have fc:∀c∈frL a.natAbs k,c≠k0:=fun c hc=>by
   unfold frL at hc
   split at hc
   ·have:=il _ c hc
    omega
   ·rcases List.mem_append.mp hc with hc | hc
    ·have:=il _ c hc
     omega
    ·rcases List.mem_cons.mp hc with hc | hc
     ·omega
     ·have:=il _ c hc
      omega
  have xc:∀c∈tl x,c≠k0:=fun c hc=>by
   obtain rfl | ⟨p,q,hpq,lp,lq,_⟩:=jS hx
   ·have:∀c∈tl "one",c≠40∧c≠59:=by decide+kernel
    have:=this c hc
    omega
   ·rw [hpq] at hc
    rcases List.mem_append.mp hc with hc | hc
    ·have:97≤c∧c≤122:=of_decide_eq_true (lp c hc)
     omega
    ·rcases List.mem_cons.mp hc with hc | hc
     ·omega
     ·have:97≤c∧c≤122:=of_decide_eq_true (lq c hc)
      omega
  have hc:c∈gM a k x:=hc
  unfold gM at hc
  rw [ft] at hc
  split at hc
  ·exact fc c hc
  ·split at hc
   ·exact xc c hc
   ·rcases List.mem_append.mp hc with hc | hc
    ·exact fc c hc
    ·rcases List.mem_cons.mp hc with hc | hc
     ·omega
     ·exact xc c hc
 cases its with
 | nil=>cases l1
 | cons d ds=>
  have hH:∀c∈itH d,c≠k0:=fun c hc=>by
   unfold itH at hc
   split at hc
   ·rcases List.mem_cons.mp hc with hc | hc
    ·omega
    ·exact w d List.mem_cons_self c hc
   ·exact w d List.mem_cons_self c hc
  refine ⟨fun e=>?_,fun c hc=>?_⟩
  ·obtain ⟨c,t,ec,_⟩:=nk (hi d List.mem_cons_self)
   have e:itH d++ds.flatMap itM=[]:=e
   have e:=(List.append_eq_nil_iff.mp e).1
   unfold itH at e
   split at e
   ·cases e
   ·rw [ec] at e
    cases e
  ·rcases List.mem_append.mp (show c∈itH d++ds.flatMap itM from hc) with hc | hc
   ·exact hH c hc
   ·obtain ⟨y,hy,hc⟩:=List.mem_flatMap.mp hc
    have hc:c∈32::sgL y::32::itW y:=hc
    simp only [List.mem_cons] at hc
    rcases hc with hc | hc | hc | hc
    ·omega
    ·unfold sgL at hc
     split at hc <;> omega
    ·omega
    ·exact w y (List.mem_cons_of_mem _ hy) c hc
theorem gu0{P:Program}{w:World}{K:Frag}{mg:Str→Option Value}{base:Heap}{k:Nat}{x:Str}{st:Stmt}{ps:List Str}{sp:SpD}(G:Gs K mg x st)(F:UFo P w K mg base k x st [] ps sp)
  (hb:∀(kV doc pm:Value) (an:Option Addr) (cdv ct:Value) (us:List Value),us.length=ps.length→bindArgs (PySem.W.fnOf x x (defArgs st) (defBody st) (defScope st) .none kV doc pm an cdv ct) ⟨us,[]⟩=pure (ps.zip us)):GU P w K mg base k x ps sp:=by
 obtain ⟨f,fd,a,b,c,D⟩:=G.b0 hb
 exact ⟨f,fd,a,b,c,F f fd D⟩
section
variable {P:Program} {w:World} {K:Frag} {mg:Str→Option Value} {base:Heap}
theorem Gd.weak{CX:CXT}{x:Str}{ps:List Str}{k:Nat}{sp sp':SpD}(G:Gd P w K mg base CX k x ps (lift K sp))(h:∀ws m Q Qx,sp' ws m Q Qx→sp ws m Q Qx):Gd P w K mg base CX k x ps (lift K sp'):=by
 obtain ⟨f,fd,a,b,c,F⟩:=G.ex
 have up:∀vs H Q E,lift K sp' vs H Q E→lift K sp vs H Q E:=fun vs H Q E ⟨B,μ,m,ws,Qd,Qx,M,r,hs,z⟩=>⟨B,μ,m,ws,Qd,Qx,M,r,h _ _ _ _ hs,z⟩
 exact ⟨f,fd,a,b,c,fun vs H Q E z=>F.len vs H Q E (up _ _ _ _ z),fun A outer s H args us vs Q E hr he hb hv hs=>F.run A outer s H args us vs Q E hr he hb hv (up _ _ _ _ hs)⟩
end
open TL
section
variable {P:Program} {w:World} {K:Frag} {mg:Str→Option Value} {base:Heap} {TM C IE IC T:Addr}
theorem vT(gd_is_expression:Gdd P w K mg base (L2N.CX P w) 4 "is_expression" bB [.bl false] (lift K rg)∧∀B,RvL K B [V.bl false] [.bl false])(c_IE:mg "InvalidExpression"=some (.ref IE))(M:OexM P w K mg base 1 IE (cb IE 0 fun _=>[(("code":Str),V.str "InvalidExpression")])):UFo P w K mg base 5 "check_expression" bv [] aL (mQ IE):=fun f fd FD=>by
 refine AU false FD dL ?_ ?_
 ·rintro ws m Q Qx ⟨d,rfl,_⟩
  rfl
 intro cdv A outer s H hr E
 refine ⟨_,(f7 (us fun _=>(aW (bF (aP (o4 gd_is_expression (hr.mono (by omega)) (aw (L2N.takes_of rfl rfl rfl rfl)) (aa (dv 0) ac))))
   (af (og M (hr.mono (by omega)) c_IE rfl (L2N.takes_of rfl rfl rfl rfl)))
   aD))),fun ws m Q Qx h=>?_⟩
 obtain ⟨d,rfl,hd,q⟩:=h
 refine ⟨d,false,rfl,hd,aN (fun c=>?_) (fun c=>?_)⟩
 ·have c:aE false d=false:=by simpa using c
  rw [c] at q
  exact ⟨List.prefix_refl _,q⟩
 ·have c:aE false d=true:=by simpa using c
  rw [c] at q
  exact ⟨List.prefix_refl _,q⟩
abbrev cC:Stmt:=top 37
abbrev ju:List Str:=["text","reader","found"]
abbrev cD:List Str:=["text"]
theorem b9:FnScope ju cD (defScope cC):=⟨rfl,rfl,rfl,by decide+kernel,rfl,by decide+kernel,by decide+kernel⟩
end
open TL NumText
theorem yt{n:Nat}(h:numL n=[49]):n=1:=by
 have v:=numL_val n
 rw [h] at v
 have v:1=n:=v
 exact v.symm
theorem uM{n k:Nat}(hk:0<k):(frT ((n:Int),(k:Int)) == ("1":Str))=(((n:Int)) == 1&&((k:Int)) == 1):=by
 have ft:tl (frT ((n:Int),(k:Int)))=frL n k:=po (k:=k) rfl (p:=[]) (dq _)
 rw [lM]
 show decide (tl (frT ((n:Int),(k:Int)))=[49])=_
 rw [ft]
 unfold frL
 by_cases k1:k=1
 ·subst k1
  rw [if_pos rfl]
  by_cases n1:n=1
  ·subst n1
   decide+kernel
  ·rw [decide_eq_false (fun e=>n1 (yt e))]
   have:(((n:Int)) == 1)=false:=by
    refine beq_eq_false_iff_ne.mpr fun e=>n1 ?_
    omega
   rw [this]
   rfl
 ·rw [if_neg k1,decide_eq_false (fun e=>by
   have z:=congrArg List.length e
   rw [List.length_append,List.length_cons] at z
   have p:0<(numL n).length:=List.length_pos_iff.mpr (numL_ne n)
   have q:0<(numL k).length:=List.length_pos_iff.mpr (numL_ne k)
   have z:(numL n).length+((numL k).length+1)=1:=z
   omega)]
  have:(((k:Int)) == 1)=false:=by
   refine beq_eq_false_iff_ne.mpr fun e=>k1 ?_
   omega
  rw [this,Bool.and_false]
theorem Am{its:List D}(h:∀d∈its,a9 false d=true)(e:cI its=[]):its=[]:=by
 cases its with
 | nil=>rfl
 | cons d ds=>
  obtain ⟨c,t,ec,_⟩:=nk (h d List.mem_cons_self)
  have e:itH d++ds.flatMap itM=[]:=e
  have e:=(List.append_eq_nil_iff.mp e).1
  unfold itH at e
  split at e
  ·cases e
  ·rw [ec] at e
   cases e
theorem vU{d:D}:∀{its:List D},its≠[]→cI (its++[d])=cI its++itM d
 | [],h=>absurd rfl h
 | x::xs,_=>by
  show itH x++(xs++[d]).flatMap itM=(itH x++xs.flatMap itM)++itM d
  rw [List.flatMap_append,List.append_assoc]
  congr 2
  show itM d++[]=_
  rw [List.append_nil]
section
variable {P:Program} {w:World} {K:Frag} {mg:Str→Option Value} {base:Heap}
abbrev bA:Stmt:=top 58
abbrev gq:List Str:=["_law_expression_here","_law_found","_law_factor_here","_law_name","_law_size","_law_word","_law_sign"]
abbrev aV:List Str:=["_law_expression_here"]
theorem ao:FnScope gq aV (defScope bA):=⟨rfl,rfl,rfl,by decide+kernel,rfl,by decide+kernel,by decide+kernel⟩
def uN:SpD:=fun ws m Q _=>∃its:List D,ws=[.v (.tup its)]∧aE false (.tup its)=true∧Q (.v (.str (bX its))) m
theorem fR(G:Gs K mg "_law_expression_text" bA)(g__law_ratio_text:Gd P w K mg base (L2N.CX P w) 1 "_law_ratio_text" cU (lift K pz))(m_abs:mg "abs"=none):Gd P w K mg base (L2N.CX P w) 2 "_law_expression_text" aV (lift K uN):=by
 refine Fo.gd (cO ao (fun ws m Q Qx h=>?_) (fun f cdv A outer s H E hr=>⟨_,(ad (aC (i:=1) ao.nd rfl (.inl rfl) aj)
  (ad (i9 (passes_of rfl) rfl (b8 (dv 0)) (j9 (n:=2) rfl (aS (az (i:=2) ao.nd rfl (.inl rfl)) (aS (az (i:=3) ao.nd rfl (.inl rfl)) eR)))
   (ad (aC (i:=4) ao.nd rfl (.inl rfl) (av g__law_ratio_text (hr.mono (by omega)) (aw (L2N.takes_of rfl rfl rfl rfl)) (aa (bQ (aa (mj m_abs (aa (bc (dv 2) ah) ac)) (aa (bc (dv 2) ah) ac))) ac)))
   (ad (aC (i:=5) ao.nd rfl (.inl rfl) (j7 (ay (fX (u64 hr)) (dv 3) aj (nomark _)) (dv 4) (j7 (ay (fX (u64 hr)) (dv 4) aj (nomark _)) (dv 3) (aM aG (aM aG (dv 4) aj) (dv 3)))))
   (ad (aC (i:=6) ao.nd rfl (.inl rfl) (j7 (ay mh (bc (dv 2) ah) ah (nomark _)) aj aj))
   (af (aW (ay (fX (u64 hr)) (dv 1) aj (nomark _))
    (af (aC (i:=1) ao.nd rfl (.inl rfl) (j7 (ay (fX (u64 hr)) (dv 6) aj (nomark _)) (aM aG aj (dv 5)) (dv 5))))
    (af (aC (i:=1) ao.nd rfl (.inl rfl) (aM aG (aM aG (aM aG (aM aG (dv 1) aj) (dv 6)) aj) (dv 5))))))))))
  (af (aq (dv 1))))),fun ws m Qd Qx h=>?_⟩) [] []) G (fun _ _ _ _ _ _ us hl=>match us,hl with | [_],_=>rfl)
 ·obtain ⟨_,rfl,_⟩:=h
  rfl
 obtain ⟨its,rfl,he,q⟩:=h
 have ln:=sizeLine_eq
 obtain ⟨its',e,l1,l6,hi⟩:=im he
 cases e
 have tkl:∀j,(cI (its.take j)).length≤180:=fun j=>by
  have xl:=fP he
  rw [←List.take_append_drop j its] at xl
  refine Nat.le_trans ?_ xl
  cases ht:its.take j with
  | nil=>exact Nat.zero_le _
  | cons d ds=>
   show (itH d++ds.flatMap itM).length≤(itH d++(ds++its.drop j).flatMap itM).length
   rw [List.flatMap_append,List.length_append,List.length_append,List.length_append]
   omega
 refine iS (fun i en m'=>m'=m∧∃v2 v3 v4 v5 v6,en=[some (.v (.tup its)),some (.v (.str (bX (its.take i)))),v2,v3,v4,v5,v6]) ⟨rfl,none,none,none,none,none,?_⟩ ?_ ?_
 ·rw [List.take_zero,show bX []="" from (cB (x:="") (l:=[]) rfl).symm]
  rfl
 ·rintro j d en m' N' hdj ⟨rfl,v2,v3,v4,v5,v6,rfl⟩ r1 r2 r3 hn
  have hd:=hi d (List.mem_of_getElem? hdj)
  have wl:=lU hd
  obtain ⟨a,b,x,rfl,hb0,hg,ha0,ha6,hb6,hx⟩:=eM hd
  obtain ⟨k,rfl⟩:∃k:Nat,b=k:=⟨b.toNat,by omega⟩
  have hj:=(List.getElem?_eq_some_iff.mp hdj).1
  have tk:its.take (j+1)=its.take j++[.tup [frD (a,(k:Int)),.str x]]:=by
   rw [List.take_add_one,hdj]
   rfl
  have eN:itN (.tup [frD (a,(k:Int)),.str x])=decide (a<0):=rfl
  have ol:(bX (its.take j)).length≤180:=by
   show (cI (its.take j)).toArray.size≤180
   rw [List.size_toArray]
   exact tkl j
  have hta:∀d∈its.take j,a9 false d=true:=fun d hd=>hi d (List.mem_of_mem_take hd)
  have fl:=nh (p:=(((a.natAbs:Nat):Int),(k:Int))) (by rw [Int.natAbs_natCast]; omega) (by rw [Int.natAbs_natCast]; omega)
  have nl:x.length≤11:=ng hx
  -- behind the word
  have go:∀y:Str,y=ofL (gM a k x)→∀v4,fv (j8 6 (rV (tBl (tO2 (oL (y9 fun i j=>decide (i<j))) (tO2 (oL ixD) (tV 2) (tK (.int 0))) (tK (.int 0)))) (tK (.str "-")) (tK (.str "+")))) (sIf (tBl (tO2 (oL (eqD id)) (tV 1) (tK (.str "")))) (j8 1 (rV (tBl (tO2 (oL (eqD id)) (tV 6) (tK (.str "-")))) (tO2 (oL ja) (tK (.str "-")) (tV 5)) (tV 5))) (j8 1 (tO2 (oL ja) (tO2 (oL ja) (tO2 (oL ja) (tO2 (oL ja) (tV 1) (tK (.str " "))) (tV 6)) (tK (.str " "))) (tV 5))))
    [some (.v (.tup its)),some (.v (.str (bX (its.take j)))),some (.v (frD (a,(k:Int)))),some (.v (.str x)),v4,some (.v (.str y)),v6] m' N':=fun y hy v4=>by
   have yl:y.length≤26:=by
    rw [hy]
    show (gM a k x).toArray.size≤26
    rw [List.size_toArray]
    exact wl
   have ty:tl y=itW (.tup [frD (a,(k:Int)),.str x]):=by rw [hy]; rfl
   have fin:∀sg:Str,(a<0∧sg="-"∨¬a<0∧sg="+")→sIf (tBl (tO2 (oL (eqD id)) (tV 1) (tK (.str "")))) (j8 1 (rV (tBl (tO2 (oL (eqD id)) (tV 6) (tK (.str "-")))) (tO2 (oL ja) (tK (.str "-")) (tV 5)) (tV 5))) (j8 1 (tO2 (oL ja) (tO2 (oL ja) (tO2 (oL ja) (tO2 (oL ja) (tV 1) (tK (.str " "))) (tV 6)) (tK (.str " "))) (tV 5)))
     [some (.v (.tup its)),some (.v (.str (bX (its.take j)))),some (.v (frD (a,(k:Int)))),some (.v (.str x)),v4,some (.v (.str y)),some (.v (.str sg))] m' N':=fun sg hs=>by
    have nxt:∀z:Str,tl z=cI (its.take (j+1))→N'.nx [some (.v (.tup its)),some (.v (.str z)),some (.v (frD (a,(k:Int)))),some (.v (.str x)),v4,some (.v (.str y)),some (.v (.str sg))] m':=fun z hz=>by
     have ez:bX (its.take (j+1))=z:=(cB hz).symm
     have g:=hn [some (.v (.tup its)),some (.v (.str z)),some (.v (frD (a,(k:Int)))),some (.v (.str x)),v4,some (.v (.str y)),some (.v (.str sg))] m' ⟨rfl,some (.v (frD (a,(k:Int)))),some (.v (.str x)),v4,some (.v (.str y)),some (.v (.str sg)),by rw [ez]⟩
     exact g.1
    refine ⟨rfl,rfl,Nat.zero_le _,Nat.zero_le _,aN (fun c=>?_) (fun c=>?_)⟩
    ·have c:(bX (its.take j) == "")=true:=c
     have c:bX (its.take j)="":=eq_of_beq c
     have j0:its.take j=[]:=Am hta (by
      have z:=congrArg tl c
      exact z)
     rw [j0] at tk
     rcases hs with ⟨hn2,rfl⟩ | ⟨hn2,rfl⟩
     ·refine ⟨rfl,rfl,Nat.zero_le _,Nat.zero_le _,by show 1+y.length≤_; omega,nxt _ ?_⟩
      rw [tk,aK,ty]
      show _=itH _++[]
      unfold itH
      rw [eN,decide_eq_true hn2,if_pos rfl,List.append_nil]
      rfl
     ·refine ⟨rfl,rfl,Nat.zero_le _,Nat.zero_le _,nxt _ ?_⟩
      rw [tk,ty]
      show _=itH _++[]
      unfold itH
      rw [eN,decide_eq_false hn2,if_neg (by decide),List.append_nil]
    ·have c:(bX (its.take j) == "")=false:=c
     have j0:its.take j≠[]:=fun e=>by
      rw [e] at c
      revert c
      decide+kernel
     have sl:sg.length=1∧tl sg=[sgL (.tup [frD (a,(k:Int)),.str x])]:=by
      unfold sgL
      rw [eN]
      rcases hs with ⟨hn,rfl⟩ | ⟨hn,rfl⟩
      ·rw [decide_eq_true hn]
       exact ⟨rfl,rfl⟩
      ·rw [decide_eq_false hn]
       exact ⟨rfl,rfl⟩
     have e1:(bX (its.take j)++" ").length=(bX (its.take j)).length+1:=by rw [Str.length_append]; rfl
     have e2:((bX (its.take j)++" ")++sg).length=(bX (its.take j)).length+2:=by rw [Str.length_append,e1,sl.1]
     have e3:(((bX (its.take j)++" ")++sg)++" ").length=(bX (its.take j)).length+3:=by rw [Str.length_append,e2]; rfl
     refine ⟨by show _+1≤_; omega,by rw [e1]; omega,by rw [e2]; show _+1≤_; omega,by rw [e3]; omega,nxt _ ?_⟩
     rw [tk,vU j0,aK,aK,aK,aK,sl.2,ty]
     show ((((cI (its.take j))++[32])++[_])++[32])++_=_
     unfold itM
     simp
   exact ⟨.int a,rfl,aN (fun c=>fin "-" (.inl ⟨of_decide_eq_true c,rfl⟩)) (fun c=>fin "+" (.inr ⟨of_decide_eq_false c,rfl⟩))⟩
  refine ⟨rfl,.int a,rfl,.int k,rfl,by show 2≤sizeLine; omega,(((a.natAbs:Nat):Int),(k:Int)),rfl,by show ((a.natAbs:Nat):Int).natAbs<_; rw [Int.natAbs_natCast]; omega,by show ((k:Nat):Int).natAbs<_; rw [Int.natAbs_natCast]; omega,?_⟩
  refine ⟨rfl,rfl,Nat.zero_le _,Nat.zero_le _,aN (fun c=>?_) (fun c=>?_)⟩
  ·have c:(x == "one")=true:=c
   exact go _ (cB (by unfold gM; rw [if_pos c])) _
  ·have c:(x == "one")=false:=c
   refine ⟨rfl,rfl,Nat.zero_le _,Nat.zero_le _,aN (fun c2=>?_) (fun c2=>?_)⟩
   ·have c2:(frT (((a.natAbs:Nat):Int),(k:Int)) == ("1":Str))=true:=c2
    rw [uM (by omega)] at c2
    exact go _ (cB (by unfold gM; rw [if_neg (by rw [c]; decide),if_pos c2])) _
   ·have c2:(frT (((a.natAbs:Nat):Int),(k:Int)) == ("1":Str))=false:=c2
    rw [uM (by omega)] at c2
    refine ⟨by show _+1≤_; omega,by rw [Str.length_append]; show _+1+_≤_; omega,go _ (cB ?_) _⟩
    unfold gM
    rw [if_neg (by rw [c]; decide),if_neg (by rw [c2]; decide),aK,aK]
    show (_++[42])++_=_
    simp
 ·rintro en m' ⟨rfl,v2,v3,v4,v5,v6,rfl⟩
  rw [List.take_length]
  exact ⟨List.prefix_refl _,q⟩
end
theorem yu(z:Str)(a:Nat):(Txt.slice z none (some (a:Int))).cps.toList=z.cps.toList.take a:=by
 rw [←C8.cutS_slice]
 unfold cutS
 rw [HT.sIx_nat]
 show (List.take (min a z.cps.toList.length - 0) (List.drop 0 z.cps.toList))=_
 generalize z.cps.toList=l
 rw [List.drop_zero,Nat.sub_zero]
 by_cases hb:a≤l.length
 ·rw [Nat.min_eq_left hb]
 ·rw [Nat.min_eq_right (by omega),List.take_of_length_le (Nat.le_refl _),List.take_of_length_le (by omega)]
theorem yw(z:Str)(a:Nat):(Txt.slice z (some (a:Int)) none).cps.toList=z.cps.toList.drop a:=by
 rw [←C8.cutS_slice]
 unfold cutS
 rw [HT.sIx_none,HT.sIx_nat]
 show (List.take (z.cps.toList.length - min a z.cps.toList.length) (List.drop (min a z.cps.toList.length) z.cps.toList))=_
 generalize z.cps.toList=l
 by_cases h:a≤l.length
 ·rw [Nat.min_eq_left h,List.take_of_length_le (by rw [List.length_drop]; omega)]
 ·rw [Nat.min_eq_right (by omega),List.drop_of_length_le (Nat.le_refl _),List.drop_of_length_le (by omega)]
  simp
theorem jW(x y:Str):(x++y).cps.toList=x.cps.toList++y.cps.toList:=by
 show (x.cps++y.cps).toList=_
 simp
def ltN(i:Nat):Nat:=abc.cps.toList.getD i 0
theorem jX(stem:Str)(first at_ k:Nat):(f9 stem first at_ k).cps.toList=stem.cps.toList.take at_++ltN ((first+5 * k) % 26)::stem.cps.toList.drop at_:=by
 unfold f9
 rw [jW,jW,yu,yw]
 show (_++[ltN _])++_=_
 rw [List.append_assoc]
 rfl
theorem yx:∀i<26,∀j<26,ltN i=ltN j→i=j:=by decide+kernel
theorem yy{i:Nat}(h:i<26):ltN i∈abc.cps.toList:=by
 unfold ltN
 rw [List.getD_eq_getElem?_getD,List.getElem?_eq_getElem (by rw [pk]; exact h)]
 exact List.getElem_mem _
theorem An{a j k:Nat}(hj:j<26)(hk:k<26)(h:(a+5 * j) % 26=(a+5 * k) % 26):j=k:=by omega
theorem Ao{stem:Str}{first at_ j k:Nat}(hj:j<26)(hk:k<26)(h:f9 stem first at_ j=f9 stem first at_ k):j=k:=by
 have z:=congrArg (fun x:Str=>x.cps.toList) h
 simp only [jX] at z
 have z2:=(List.cons.inj (List.append_cancel_left z)).1
 exact An hj hk (yx _ (Nat.mod_lt _ (by decide)) _ (Nat.mod_lt _ (by decide)) z2)
theorem rI:∀y∈cu,y.cps.toList.head? ≠some 122∧y.cps.toList.getLast? ≠some 113:=by decide+kernel
theorem kJ(k:Nat):((("z":Str)++ot k)++"q").cps.toList=[122,ltN k,113]:=by
 rw [jW,jW]
 rfl
theorem yz{stem:Str}{first at_ j k i:Nat}(h:f9 stem first at_ j=(("z":Str)++ot i)++"q"):f9 stem first at_ k∉cu:=fun hw=>by
 obtain ⟨w1,w2⟩:=rI _ hw
 have z:=congrArg (fun x:Str=>x.cps.toList) h
 simp only [jX,kJ] at z
 rw [jX] at w1 w2
 generalize stem.cps.toList.take at_=A at z w1 w2
 generalize stem.cps.toList.drop at_=B at z w1 w2
 generalize ltN ((first+5 * j) % 26)=x at z
 generalize ltN ((first+5 * k) % 26)=y at w1 w2
 match A,z,w1,w2 with
 | [],z,w1,w2=>
  obtain ⟨_,rfl⟩:=List.cons.inj z
  exact w2 rfl
 | a::A,z,w1,w2=>
  have e:a=122:=(List.cons.inj z).1
  subst e
  exact w1 rfl
theorem iG{x:Str}:(cu.any fun y=>y == x)=true↔x∈cu:=by
 rw [List.any_eq_true]
 exact ⟨fun ⟨y,hy,e⟩=>by rw [←eq_of_beq e]; exact hy,fun h=>⟨x,h,by simp⟩⟩
theorem yA{stem:Str}{first at_ j k:Nat}(hj:j<26)(hk:k<26)(h:jI stem first at_ j=jI stem first at_ k):j=k:=by
 unfold jI at h
 by_cases c1:(cu.any fun y=>y == f9 stem first at_ j)=true
 ·by_cases c2:(cu.any fun y=>y == f9 stem first at_ k)=true
  ·rw [if_pos c1,if_pos c2] at h
   have z:=congrArg (fun x:Str=>x.cps.toList) h
   simp only [kJ] at z
   exact yx _ hj _ hk (List.cons.inj (List.cons.inj z).2).1
  ·rw [if_pos c1,if_neg c2] at h
   exact absurd (iG.mp c1) (yz h.symm)
 ·by_cases c2:(cu.any fun y=>y == f9 stem first at_ k)=true
  ·rw [if_neg c1,if_pos c2] at h
   exact absurd (iG.mp c2) (yz h)
  ·rw [if_neg c1,if_neg c2] at h
   exact Ao hj hk h
theorem yB{stem:Str}{first at_ m:Nat}(hm:m≤26):(eG stem first at_ m).Nodup:=by
 unfold eG
 refine List.pairwise_map.mpr ?_
 refine List.Pairwise.imp_of_mem (fun {a b} ha hb ne e=>ne ?_) List.nodup_range
 exact yA (Nat.lt_of_lt_of_le (List.mem_range.mp ha) hm) (Nat.lt_of_lt_of_le (List.mem_range.mp hb) hm) e
theorem Ap:∀c∈abc.cps.toList,jO (.str ⟨#[c]⟩)=true:=by decide+kernel
theorem A3{x:Str}(h1:1≤x.length)(h4:x.length≤4)(hw:x∉cu)(hl:gb x):thS x=true:=by
 unfold thS
 have e1:decide (1≤(x.length:Int))=true:=decide_eq_true (by omega)
 have e2:decide ((x.length:Int)≤4)=true:=decide_eq_true (by omega)
 have e3:(w11.any fun y=>deq y (.str x))=false:=by
  have:w11=cu.map D.str:=rfl
  rw [this,List.any_map]
  refine Bool.eq_false_iff.mpr fun z=>hw (iG.mp ?_)
  rw [←z]
  rfl
 have e4:(chD x).all jO=true:=List.all_eq_true.mpr fun d hd=>by
  obtain ⟨c,hc,rfl⟩:=List.mem_map.mp hd
  exact Ap c (hl c hc)
 rw [e1,e2,e3,e4]
 rfl
theorem Aq(k:Nat):(("z":Str)++ot k)++"q"∉cu:=fun h=>(rI _ h).1 (by rw [kJ]; rfl)
theorem Ar{stem:Str}{first at_ k:Nat}(hs:stem.length≤3)(hl:gb stem)(ha:at_≤stem.length)(hk:k<26):thS (jI stem first at_ k)=true:=by
 have len:∀x:Str,x.length=x.cps.toList.length:=fun x=>by rw [Array.length_toList]; rfl
 unfold jI
 by_cases c:(cu.any fun y=>y == f9 stem first at_ k)=true
 ·rw [if_pos c]
  refine A3 ?_ ?_ (Aq k) fun c hc=>?_
  ·rw [len,kJ]
   exact Nat.le_of_ble_eq_true rfl
  ·rw [len,kJ]
   exact Nat.le_of_ble_eq_true rfl
  ·rw [kJ] at hc
   simp only [List.mem_cons,List.not_mem_nil,or_false] at hc
   rcases hc with rfl | rfl | rfl
   ·decide+kernel
   ·exact yy hk
   ·decide+kernel
 ·rw [if_neg c]
  have ll:(f9 stem first at_ k).length=stem.length+1:=by
   rw [len,jX,List.length_append,List.length_cons,List.length_take,List.length_drop,←len]
   omega
  refine A3 (by omega) (by omega) (fun z=>c (iG.mpr z)) fun c hc=>?_
  rw [jX] at hc
  rcases List.mem_append.mp hc with h | h
  ·exact hl c (List.mem_of_mem_take h)
  ·rcases List.mem_cons.mp h with rfl | h
   ·exact yy (Nat.mod_lt _ (by decide))
   ·exact hl c (List.mem_of_mem_drop h)
theorem yC{stem:Str}{first at_ m:Nat}(hs:stem.length≤3)(hl:gb stem)(ha:at_≤stem.length)(hm:m≤26):∀x∈eG stem first at_ m,thS x=true:=fun x hx=>by
 obtain ⟨k,hk,rfl⟩:=List.mem_map.mp hx
 exact Ar hs hl ha (Nat.lt_of_lt_of_le (List.mem_range.mp hk) hm)
theorem yD{l:List Nat}:∀{acc:List Nat},46∉l→TL.spl [46] 0 acc l=[acc++l]:=by
 induction l with
 | nil=>intro acc _; rw [List.append_nil]; rfl
 | cons x l ih=>
  intro acc h
  have hx:x≠46:=fun e=>h (e ▸List.mem_cons_self)
  have e1:TL.pre [46] (x::l)=false:=by
   show ([x] == [46])=false
   simp [hx]
  show (if TL.pre [46] (x::l)=true then acc::TL.spl [46] 0 [] l else TL.spl [46] 0 (acc++[x]) l)=_
  rw [e1,if_neg (by simp),ih fun z=>h (List.mem_cons_of_mem _ z),List.append_assoc]
  rfl
theorem As{l r:List Nat}:∀{acc:List Nat},46∉l→TL.spl [46] 0 acc (l++46::r)=(acc++l)::TL.spl [46] 0 [] r:=by
 induction l with
 | nil=>
  intro acc _
  show (if TL.pre [46] (46::r)=true then acc::TL.spl [46] 0 [] r else TL.spl [46] 0 (acc++[46]) r)=_
  rw [if_pos (by rfl),List.append_nil]
 | cons x l ih=>
  intro acc h
  have hx:x≠46:=fun e=>h (e ▸List.mem_cons_self)
  have e1:TL.pre [46] (x::(l++46::r))=false:=by
   show ([x] == [46])=false
   simp [hx]
  show (if TL.pre [46] (x::(l++46::r))=true then acc::TL.spl [46] 0 [] (l++46::r) else TL.spl [46] 0 (acc++[x]) (l++46::r))=_
  rw [e1,if_neg (by simp),ih fun z=>h (List.mem_cons_of_mem _ z),List.append_assoc]
  rfl
theorem BW{x y:Str}(h:TL.tl x=TL.tl y):x=y:=uh h
theorem nq:∀{xs ys:List Str},xs.map TL.tl=ys.map TL.tl→xs=ys
 | [],[],_=>rfl
 | [],_::_,h=>nomatch h
 | _::_,[],h=>nomatch h
 | x::xs,y::ys,h=>by
  rw [List.map_cons,List.map_cons] at h
  injection h with h1 h2
  rw [BW h1,nq h2]
theorem oC{z y q:Str}(hz:46∉TL.tl z)(e:TL.tl y=46::TL.tl q)(hq:46∉TL.tl q):aA (z++y)=[z,q]:=by
 refine nq ?_
 rw [jQ]
 have e2:TL.tl (z++y)=TL.tl z++46::TL.tl q:=by rw [←e]; exact jW z y
 rw [e2,As hz,yD hq]
 rfl
theorem sU{z:Str}(h:thS z=true):46∉TL.tl z∧okS z=true∧z.length≤4:=by
 unfold thS at h
 simp only [Bool.and_eq_true,decide_eq_true_eq] at h
 obtain ⟨_,h4,_,hl⟩:=h
 have hc:∀c∈z.cps.toList,jO (.str ⟨#[c]⟩)=true:=fun c hc=>List.all_eq_true.mp hl _ (List.mem_map_of_mem hc)
 have abcd:∀c,jO (.str ⟨#[c]⟩)=true→c∈abc.cps.toList:=fun c q=>by
  have z:kc ⟨#[c]⟩ xx=decide (c∈xx.cps.toList):=StrLaws.found_one _ _
  have q:kc ⟨#[c]⟩ xx=true:=q
  rw [z] at q
  exact of_decide_eq_true q
 refine ⟨fun q=>?_,aX.mpr fun c hc'=>?_,by omega⟩
 ·exact absurd (abcd 46 (hc 46 q)) (by decide+kernel)
 ·have:∀c∈abc.cps.toList,c<0x110000:=by decide+kernel
  exact this c (abcd c (hc c hc'))
def yE(x:Str):Prop:=okS x=true∧x.length≤20000∧cG false x=true
theorem BX{zs:List Str}(h:∀z∈zs,thS z=true):∀x∈jp zs,yE x:=by
 have two:∀z∈zs,∀(y q:Str),TL.tl y=46::TL.tl q→46∉TL.tl q→okS y=true→y.length≤100→inL mP q=true→yE (z++y):=fun z hz y q e hq oy ly w=>by
  obtain ⟨a,b,c⟩:=sU (h z hz)
  refine ⟨oQ b oy,by rw [Str.length_append]; omega,?_⟩
  unfold cG
  rw [oC a e hq]
  have:cw mP [z,q]=true:=by
   show (thS z&&inL mP q)=true
   rw [h z hz,w]
   rfl
  rw [if_neg (by simp),this,Bool.or_true,Bool.or_true]
 intro x hx
 unfold jp at hx
 have suf:∀(a b:Str),x∈dX a b zs→(∀z∈zs,yE (z++a)∧yE (z++b))→yE x:=fun a b hm k=>by
  obtain ⟨z,hz,rfl | rfl⟩:=pH hm
  ·exact (k z hz).1
  ·exact (k z hz).2
 simp only [List.mem_append,List.mem_singleton] at hx
 rcases hx with ((hx | hx) | hx) | rfl
 ·have hx:x∈("room.w":Str)::dX ".left" ".right" zs:=hx
  rcases List.mem_cons.mp hx with rfl | hx
  ·exact ⟨by decide+kernel,by decide+kernel,by decide+kernel⟩
  ·exact suf _ _ hx fun z hz=>⟨two z hz _ "left" (by decide+kernel) (by decide+kernel) (by decide+kernel) (by decide+kernel) (by decide+kernel),two z hz _ "right" (by decide+kernel) (by decide+kernel) (by decide+kernel) (by decide+kernel) (by decide+kernel)⟩
 ·have hx:x∈("room.h":Str)::dX ".top" ".bottom" zs:=hx
  rcases List.mem_cons.mp hx with rfl | hx
  ·exact ⟨by decide+kernel,by decide+kernel,by decide+kernel⟩
  ·exact suf _ _ hx fun z hz=>⟨two z hz _ "top" (by decide+kernel) (by decide+kernel) (by decide+kernel) (by decide+kernel) (by decide+kernel),two z hz _ "bottom" (by decide+kernel) (by decide+kernel) (by decide+kernel) (by decide+kernel) (by decide+kernel)⟩
 ·exact suf _ _ hx fun z hz=>⟨two z hz _ "w" (by decide+kernel) (by decide+kernel) (by decide+kernel) (by decide+kernel) (by decide+kernel),two z hz _ "h" (by decide+kernel) (by decide+kernel) (by decide+kernel) (by decide+kernel) (by decide+kernel)⟩
 ·exact ⟨by decide+kernel,by decide+kernel,by decide+kernel⟩
theorem At{xs:List Str}(nd:xs.Nodup):(zx (xs.map Sum.inr)).length=xs.length:=by
 have step:∀(xs:List Str) (l:List Key),(∀x∈xs,(Sum.inr x:Key)∉l)→xs.Nodup→((xs.map Sum.inr).foldl onK l).length=l.length+xs.length:=by
  intro xs
  induction xs with
  | nil=>intro l _ _; rfl
  | cons x xs ih=>
   intro l h nd
   obtain ⟨n1,n2⟩:=List.nodup_cons.mp nd
   rw [List.map_cons,List.foldl_cons]
   have e:onK l (.inr x)=l++[.inr x]:=by
    unfold onK
    rw [if_neg]
    intro z
    unfold mD at z
    obtain ⟨y,hy,e⟩:=List.any_eq_true.mp z
    have e:=of_decide_eq_true e
    subst e
    exact h x List.mem_cons_self hy
   have z:=ih (l++[.inr x]) (fun y hy z=>?_) n2
   ·rw [e]
    refine z.trans ?_
    rw [List.length_append,List.length_cons]
    show l.length+1+xs.length=l.length+(xs.length+1)
    omega
   ·rcases List.mem_append.mp z with z | z
    ·exact h y (List.mem_cons_of_mem _ hy) z
    ·have e:=Sum.inr.inj (List.mem_singleton.mp z)
     exact n1 (e ▸hy)
 exact (step xs [] (fun _ _ h=>nomatch h) nd).trans (Nat.zero_add _)
def yF:SpD:=fun ws m Q _=>∃(n:Nat) (zs:List Str),ws=[.loc n,.v (.lst (zs.map .str))]∧m[n]? =some .bag∧zs.length≤100∧(∀z∈zs,z.length≤100)∧∀xs,zT (jp zs) 6 xs→Q (.v (xD xs)) m
theorem Au{zs:List Str}{a b p q:Str}(ha:∀z∈zs,aA (z++a)=[z,p])(hb:∀z∈zs,aA (z++b)=[z,q]):∀x∈dX a b zs,∃y∈zs,aA x=[y,p]∨aA x=[y,q]:=fun x hx=>by
 obtain ⟨y,hy,rfl | rfl⟩:=pH hx
 ·exact ⟨y,hy,.inl (ha y hy)⟩
 ·exact ⟨y,hy,.inr (hb y hy)⟩
theorem lV{a b p q:Str}(pq:p≠q):∀{zs:List Str},(∀z∈zs,aA (z++a)=[z,p])→(∀z∈zs,aA (z++b)=[z,q])→zs.Nodup→(dX a b zs).Nodup
 | [],_,_,_=>List.nodup_nil
 | z::zs,ha,hb,nd=>by
  have n:=List.nodup_cons.mp nd
  have ha':=fun x hx=>ha x (List.mem_cons_of_mem z hx)
  have hb':=fun x hx=>hb x (List.mem_cons_of_mem z hx)
  have ih:=lV pq (zs:=zs) ha' hb' n.2
  have pa:=ha z List.mem_cons_self
  have pb:=hb z List.mem_cons_self
  show ([z++a,z++b]++dX a b zs).Nodup
  have out:∀x:Str,(aA x=[z,p]∨aA x=[z,q])→x∉dX a b zs:=fun x hx hm=>by
   obtain ⟨y,hy,e⟩:=Au ha' hb' x hm
   have ez:z=y:=by
    rcases hx with hx | hx <;> rcases e with e | e <;> rw [hx] at e <;> injection e
   exact n.1 (ez ▸hy)
  have wh:¬(z++a:Str)=z++b:=fun e=>by
   rw [e,pb] at pa
   injection pa with _ p2
   injection p2 with p3 _
   exact pq p3.symm
  refine List.nodup_cons.mpr ⟨fun hm=>?_,List.nodup_cons.mpr ⟨out _ (.inr pb),ih⟩⟩
  rcases List.mem_cons.mp hm with e | e
  ·exact wh e
  ·exact out _ (.inl pa) e
theorem BY{zs:List Str}(h:∀z∈zs,thS z=true)(nd:zs.Nodup):(jp zs).Nodup:=by
 have pt:∀(y q:Str),TL.tl y=46::TL.tl q→46∉TL.tl q→∀z∈zs,aA (z++y)=[z,q]:=fun y q e hq z hz=>oC (sU (h z hz)).1 e hq
 have p1:=pt ".left" "left" (by decide+kernel) (by decide+kernel)
 have p2:=pt ".right" "right" (by decide+kernel) (by decide+kernel)
 have p3:=pt ".top" "top" (by decide+kernel) (by decide+kernel)
 have p4:=pt ".bottom" "bottom" (by decide+kernel) (by decide+kernel)
 have p5:=pt ".w" "w" (by decide+kernel) (by decide+kernel)
 have p6:=pt ".h" "h" (by decide+kernel) (by decide+kernel)
 have n1:=lV (by decide+kernel) p1 p2 nd
 have n2:=lV (by decide+kernel) p3 p4 nd
 have n3:=lV (by decide+kernel) p5 p6 nd
 have s1:=Au p1 p2
 have s2:=Au p3 p4
 have s3:=Au p5 p6
 have rw1:aA "room.w"=([("room":Str),"w"]:List Str):=by decide+kernel
 have rh1:aA "room.h"=([("room":Str),"h"]:List Str):=by decide+kernel
 have on1:aA "one"=([("one":Str)]:List Str):=by decide+kernel
 have noroom:∀y∈zs,y≠"room":=fun y hy e=>by
  have z:=h y hy
  rw [e] at z
  revert z
  decide+kernel
 -- the words of a name tell the group
 have e1:∀x∈ig 0 zs,(x="room.w")∨∃y∈zs,aA x=[y,"left"]∨aA x=[y,"right"]:=fun x hx=>by
  rcases List.mem_cons.mp (show x∈("room.w":Str)::dX ".left" ".right" zs from hx) with hx | hx
  ·exact .inl hx
  ·exact .inr (s1 x hx)
 have e2:∀x∈ig 1 zs,(x="room.h")∨∃y∈zs,aA x=[y,"top"]∨aA x=[y,"bottom"]:=fun x hx=>by
  rcases List.mem_cons.mp (show x∈("room.h":Str)::dX ".top" ".bottom" zs from hx) with hx | hx
  ·exact .inl hx
  ·exact .inr (s2 x hx)
 have no:∀{a b c d:Str},[a,b]=[c,d]→a=c∧b=d:=fun e=>by
  injection e with e1 e2
  injection e2 with e2 _
  exact ⟨e1,e2⟩
 have nd1:(ig 0 zs).Nodup:=List.nodup_cons.mpr ⟨fun hm=>by
  obtain ⟨y,hy,e | e⟩:=s1 _ hm
  ·rw [rw1] at e; exact absurd (no e).2 (by decide+kernel)
  ·rw [rw1] at e; exact absurd (no e).2 (by decide+kernel),n1⟩
 have nd2:(ig 1 zs).Nodup:=List.nodup_cons.mpr ⟨fun hm=>by
  obtain ⟨y,hy,e | e⟩:=s2 _ hm
  ·rw [rh1] at e; exact absurd (no e).2 (by decide+kernel)
  ·rw [rh1] at e; exact absurd (no e).2 (by decide+kernel),n2⟩
 unfold jp
 refine List.nodup_append.mpr ⟨List.nodup_append.mpr ⟨List.nodup_append.mpr ⟨nd1,nd2,fun x hx y hy exy=>?_⟩,n3,fun x hx y hy exy=>?_⟩,by simp,fun x hx y hy exy=>?_⟩
 ·subst exy
  rcases e1 x hx with rfl | ⟨u,hu,k⟩
  ·rcases e2 _ hy with k2 | ⟨v,hv,k2⟩
   ·exact absurd k2 (by decide+kernel)
   ·rcases k2 with k2 | k2 <;> rw [rw1] at k2 <;> exact absurd (no k2).2 (by decide+kernel)
  ·rcases e2 _ hy with rfl | ⟨v,hv,k2⟩
   ·rcases k with k | k <;> rw [rh1] at k <;> exact absurd (no k).2 (by decide+kernel)
   ·rcases k with k | k <;> rcases k2 with k2 | k2 <;> rw [k] at k2 <;> exact absurd (no k2).2 (by decide+kernel)
 ·subst exy
  obtain ⟨v,hv,k2⟩:=s3 x hy
  rcases List.mem_append.mp hx with hx | hx
  ·rcases e1 x hx with rfl | ⟨u,hu,k⟩
   ·rcases k2 with k2 | k2 <;> rw [rw1] at k2
    ·exact noroom v hv (no k2).1.symm
    ·exact absurd (no k2).2 (by decide+kernel)
   ·rcases k with k | k <;> rcases k2 with k2 | k2 <;> rw [k] at k2 <;> exact absurd (no k2).2 (by decide+kernel)
  ·rcases e2 x hx with rfl | ⟨u,hu,k⟩
   ·rcases k2 with k2 | k2 <;> rw [rh1] at k2
    ·exact absurd (no k2).2 (by decide+kernel)
    ·exact noroom v hv (no k2).1.symm
   ·rcases k with k | k <;> rcases k2 with k2 | k2 <;> rw [k] at k2 <;> exact absurd (no k2).2 (by decide+kernel)
 ·subst exy
  rw [List.mem_singleton.mp hy] at hx
  have two:∀{a b:Str},aA "one"=[a,b]→False:=fun e=>by rw [on1] at e; cases e
  rcases List.mem_append.mp hx with hx | hx
  ·rcases List.mem_append.mp hx with hx | hx
   ·rcases e1 _ hx with k | ⟨u,hu,k | k⟩
    ·exact absurd k (by decide+kernel)
    ·exact two k
    ·exact two k
   ·rcases e2 _ hx with k | ⟨u,hu,k | k⟩
    ·exact absurd k (by decide+kernel)
    ·exact two k
    ·exact two k
  ·obtain ⟨v,hv,k | k⟩:=s3 _ hx
   ·exact two k
   ·exact two k
theorem Av{p:Int×Int}(h:sO p):fO (frD p)=true:=by
 obtain ⟨a,b⟩:=p
 obtain ⟨h1,h2,h3,h4,h5⟩:=h
 have h1:0<b:=h1
 have h2:b≤10:=h2
 have h3:a.natAbs≤10:=h3
 have h4:a≠0:=h4
 have h5:Int.gcd a b=1:=h5
 show ((decide (b>0)&&((Int.gcd a b:Nat):Int) == 1)&&(decide (0<((a.natAbs:Nat):Int))&&(decide (((a.natAbs:Nat):Int)<lh)&&decide (b<lh))))=true
 have bf:lh=1000000:=rfl
 rw [h5,decide_eq_true h1,decide_eq_true (show 0<((a.natAbs:Nat):Int) by omega),decide_eq_true (show ((a.natAbs:Nat):Int)<lh by omega),decide_eq_true (show b<lh by omega)]
 rfl
theorem vV{zs:List Str}{xs:XT}(h:∀z∈zs,thS z=true)(nd:zs.Nodup)(hx:zT (jp zs) 6 xs):aE false (xD xs)=true:=by
 obtain ⟨h1,h2,h3,h4⟩:=hx
 have h4:=h4 (BY h nd)
 show (decide (1≤(((xs.map itD).length:Nat):Int))&&(decide ((((xs.map itD).length:Nat):Int)≤6)&&((xs.map itD).all (a9 false)&&(((zx ((xs.map itD).map vD)).length:Int) == ((xs.map itD).length:Int)))))=true
 have ek:(xs.map itD).map vD=(xs.map (·.2)).map Sum.inr:=by
  rw [List.map_map,List.map_map]
  rfl
 have al:(xs.map itD).all (a9 false)=true:=List.all_eq_true.mpr fun d hd=>by
  obtain ⟨x,hx,rfl⟩:=List.mem_map.mp hd
  show (fO (frD x.1)&&cG false x.2)=true
  rw [Av (h3 x hx).1,(BX h x.2 (h3 x hx).2).2.2]
  rfl
 rw [ek,At h4,al,List.length_map,List.length_map,decide_eq_true (show 1≤((xs.length:Nat):Int) by omega),decide_eq_true (show ((xs.length:Nat):Int)≤6 by omega)]
 simp
section
variable {P:Program} {w:World} {K:Frag} {mg:Str→Option Value} {base:Heap}
theorem fS(G:Gs K mg "_law_any_expression" bG)(g__law_edge_names:Gd P w K mg base (L2N.CX P w) 2 "_law_edge_names" cX (lift K A0))(g__law_size_names:Gd P w K mg base (L2N.CX P w) 2 "_law_size_names" cW (lift K AZ))(g__law_expression:Gd P w K mg base (L2N.CX P w) 4 "_law_expression" cV (lift K ur)):Gd P w K mg base (L2N.CX P w) 5 "_law_any_expression" bH (lift K yF):=by
 refine Fo.gd (cO cY (fun ws m Q Qx h=>?_) (fun f cdv A outer s H E hr=>⟨_,(ad (aC (i:=2) cY.nd rfl (.inl rfl) (aM aG (aM aG (aM aG (av g__law_edge_names (hr.mono (by omega)) (aw (L2N.takes_of rfl rfl rfl rfl)) (aa (dv 1) (aa ah ac))) (av g__law_edge_names (hr.mono (by omega)) (aw (L2N.takes_of rfl rfl rfl rfl)) (aa (dv 1) (aa ah ac)))) (av g__law_size_names (hr.mono (by omega)) (aw (L2N.takes_of rfl rfl rfl rfl)) (aa (dv 1) ac))) (cf (aa aj ac))))
  (af (aq (av g__law_expression (hr.mono (by omega)) (aw (L2N.takes_of rfl rfl rfl rfl)) (aa (dv 0) (aa (dv 2) (aa ah ac))))))),fun ws m Qd Qx h=>?_⟩) [] []) G (fun _ _ _ _ _ _ us hl=>match us,hl with | [_,_],_=>rfl)
 ·obtain ⟨_,_,rfl,_⟩:=h
  rfl
 ·obtain ⟨n,zs,rfl,hm,hl,hz,q⟩:=h
  have ln:=sizeLine_eq
  obtain ⟨l0,l1⟩:=xF zs
  have l2:=dY ".w" ".h" zs
  refine ⟨zs,0,rfl,by decide,hl,hz,zs,1,rfl,by decide,hl,hz,by rw [List.length_map,List.length_map]; omega,zs,rfl,hl,hz,by rw [List.length_append,List.length_map,List.length_map,List.length_map]; omega,by show 1≤sizeLine; omega,?_,?_⟩
  ·rw [List.length_append,List.length_append,List.length_map,List.length_map,List.length_map]
   show _+1≤_
   omega
  ·have e:(((ig 0 zs).map D.str++(ig 1 zs).map D.str)++(dX ".w" ".h" zs).map D.str)++[D.str "one"]=(jp zs).map D.str:=by
    unfold jp
    rw [List.map_append,List.map_append,List.map_append]
    rfl
   refine ⟨n,jp zs,6,?_,hm,?_,?_,by decide,by decide,fun its hi=>⟨List.prefix_refl _,q its hi⟩⟩
   ·rw [←e]
    rfl
   ·unfold jp
    simp
   ·unfold jp
    rw [List.length_append,List.length_append,List.length_append]
    show _+1≤_
    omega
end
def DZ(K:Frag)(C:Addr):Bool:=rdN.all fun x=>decide (PySem.W.findIn K (.ref C) x=some none)
theorem Aw{K:Frag}{C:Addr}(h:DZ K C=true):∀x∈rdN,NoAttr K C x:=fun x hx=>by
 have h2:decide (PySem.W.findIn K (.ref C) x=some none)=true:=List.all_eq_true.mp h x hx
 have h3:PySem.W.findIn K (.ref C) x=some none:=by simpa using h2
 exact h3
section
variable {P:Program} {w:World} {K:Frag} {mg:Str→Option Value} {base:Heap}
end
theorem nr{α:Type}{g:DTG}{te:DTE}{en:En}{m:Me}{e f:α→D}:∀{xs:List α} {acc:List D} {Q:W→Me→Prop},acc.length+xs.length≤sizeLine→
  (∀a∈xs,∀Qt:W→Me→Prop,Qt (.v (f a)) m→g (.v (e a)) en m fun en1 m1=>te en1 m1 Qt noX)→Q (.v (.lst (acc++xs.map f))) m→lcL g tYs te en (xs.map e) acc m Q
 | [],acc,Q,_,_,q=>by
  rw [List.map_nil,List.append_nil] at q
  exact q
 | x::xs,acc,Q,hl,h,q=>by
  rw [List.length_cons] at hl
  refine h x List.mem_cons_self _ ⟨by omega,?_⟩
  refine nr (xs:=xs) (by rw [List.length_append,List.length_singleton]; omega) (fun y hy=>h y (List.mem_cons_of_mem _ hy)) ?_
  rw [List.append_assoc]
  exact q
open TL NumText
def cJ(its:List D):List Nat:=cI its++[32,62,61,32,48]
def ir:List (List (D))→List Nat
 | []=>[110,111,110,101]
 | [x]=>cJ x
 | x::y::r=>cJ x++(59::32::ir (y::r))
def iM(xs:List (List D)):Str:=ofL (ir xs)
def dc(xs:List (List D)):List Nat:=xs.flatMap fun x=>cJ x++[59,32]
def vW(l:List Nat):Prop:=∀c∈l,c≠59
theorem sV{its:List D}(h:aE false (.tup its)=true):vW (cJ its):=fun c hc=>by
 rcases List.mem_append.mp hc with hc | hc
 ·exact (vS (k0:=59) (.inr rfl) h).2 c hc
 ·simp only [List.mem_cons,List.not_mem_nil,or_false] at hc
  omega
theorem yG{c:Nat}{r:List Nat}(h:c≠59):pre [59,32] (c::r)=false:=by
 show ((c::r).take 2 == [59,32])=false
 cases r with
 | nil=>simp
 | cons d r=>
  show ([c,d] == [59,32])=false
  simp [h]
theorem uP{l:List Nat}(h:vW l):∀acc,spl [59,32] 0 acc l=[acc++l]:=by
 induction l with
 | nil=>intro acc; rw [List.append_nil]; rfl
 | cons c r ih=>
  intro acc
  show (if pre [59,32] (c::r)=true then acc::spl [59,32] 1 [] r else spl [59,32] 0 (acc++[c]) r)=_
  rw [yG (h c List.mem_cons_self),if_neg (by decide),ih (fun x hx=>h x (List.mem_cons_of_mem _ hx)),List.append_assoc]
  rfl
theorem rJ{l r:List Nat}(h:vW l):∀acc,spl [59,32] 0 acc (l++59::32::r)=(acc++l)::spl [59,32] 0 [] r:=by
 induction l with
 | nil=>
  intro acc
  show (if pre [59,32] (59::32::r)=true then acc::spl [59,32] 1 [] (32::r) else _)=_
  have e:pre [59,32] (59::32::r)=true:=rfl
  rw [if_pos e,List.append_nil]
  rfl
 | cons c t ih=>
  intro acc
  show (if pre [59,32] (c::(t++59::32::r))=true then _ else spl [59,32] 0 (acc++[c]) (t++59::32::r))=_
  rw [yG (h c List.mem_cons_self),if_neg (by decide),ih (fun x hx=>h x (List.mem_cons_of_mem _ hx)),List.append_assoc]
  rfl
theorem uQ:∀{xs:List (List D)},xs≠[]→(∀x∈xs,aE false (.tup x)=true)→spl [59,32] 0 [] (ir xs)=xs.map cJ
 | [],h,_=>absurd rfl h
 | [x],_,h=>uP (sV (h x List.mem_cons_self)) []
 | x::y::r,_,h=>by
  show spl [59,32] 0 [] (cJ x++59::32::ir (y::r))=_
  rw [rJ (sV (h x List.mem_cons_self)),uQ (by simp) fun z hz=>h z (List.mem_cons_of_mem _ hz)]
  rfl
theorem uR{t:List Nat}(ht:vW t):∀{xs:List (List D)},(∀x∈xs,aE false (.tup x)=true)→spl [59,32] 0 [] (dc xs++t)=xs.map cJ++[t]
 | [],_=>uP ht []
 | x::r,h=>by
  have e:dc (x::r)++t=cJ x++59::32::(dc r++t):=by
   show (cJ x++[59,32])++dc r++t=_
   simp
  rw [e,rJ (sV (h x List.mem_cons_self)),uR ht fun z hz=>h z (List.mem_cons_of_mem _ hz)]
  rfl
def pxR(z:Str):Rr D:=match pS z 0 with
 | .er b=>.er b
 | .ok v e=>if ahe z " " e=true then .er (e+1) else if e=z.length then .ok v e else .er e
def pfR:List Str→Nat→Rr (List D)
 | [],b=>.ok [] b
 | z::zs,b=>if Txt.endswith z " >= 0"=true then (match pxR (Txt.slice z none (some (-5))) with
   | .er a=>.er (b+a)
   | .ok v _=>match pfR zs (b+z.length+2) with
    | .er a=>.er a
    | .ok vs c=>.ok (v::vs) c) else .er (b+z.length)
def sW(acc:List D):Rr (List D)→Rr (List D)
 | .er a=>.er a
 | .ok vs c=>.ok (acc++vs) c
theorem yH{z:Str}:ahe z " " z.length=false:=pR (x:=" ") (c:=32) rfl (r:=[]) (List.drop_eq_nil_of_le (Nat.le_refl _)) (fun t e=>by cases e) (Nat.le_refl _)
theorem rK{its:List D}(h:aE false (.tup its)=true):pxR (bX its)=.ok (.tup its) (bX its).length:=by
 have e:=BV (z:=bX its) (a:=0) (r:=[]) h (Nat.zero_le _) (by rw [List.append_nil]; rfl) ⟨(fun c t e=>(by cases e)),(fun t=>⟨(fun e=>(by cases e)),(fun e=>(by cases e))⟩)⟩
 have e2:pS (bX its) 0=.ok (.tup its) (bX its).length:=by
  rw [e,Nat.zero_add]
  congr 1
 unfold pxR
 rw [e2]
 show (if ahe (bX its) " " (bX its).length=true then _ else _)=_
 rw [yH,if_neg (by decide),if_pos rfl]
theorem yI{x:Str}{l:List Nat}(h:tl x=l++[32,62,61,32,48]):Txt.endswith x " >= 0"=true:=by
 have hl:x.length=l.length+5:=by
  have:=congrArg List.length h
  rw [List.length_append] at this
  exact this
 show (decide (0+(" >= 0":Str).length≤x.length)&&Builtin.Str.subAt x " >= 0" (x.length - (" >= 0":Str).length))=true
 have e5:(" >= 0":Str).length=5:=rfl
 rw [StrLaws.subAt_eq,e5,hl,decide_eq_true (by omega)]
 show (true&&(((tl x).drop (l.length+5 - 5)).take 5 == _))=true
 rw [h,show l.length+5 - 5=l.length by omega,List.drop_left]
 rfl
theorem uS{x:Str}{l:List Nat}(h:tl x=l++[32,62,61,32,48]):Txt.slice x none (some (-5))=ofL l:=by
 have hl:x.length=l.length+5:=by
  have:=congrArg List.length h
  rw [List.length_append] at this
  exact this
 rw [←C8.cutS_slice]
 refine iF ?_
 show ((tl x).drop (HT.sIx x.length 0 none)).take (HT.sIx x.length x.length (some (-5)) - HT.sIx x.length 0 none)=l
 have e:HT.sIx x.length x.length (some (-5))=l.length:=by
  show (if (-5:Int)<0 then (-5+(x.length:Int)).toNat else min (-5:Int).toNat x.length)=_
  rw [if_pos (by decide),hl]
  omega
 rw [e,HT.sIx_none,Nat.sub_zero,h]
 exact List.take_left
def ck(its:List D):Str:=ofL (cJ its)
theorem Ax(a b:List D):∀r,sW a (sW b r)=sW (a++b) r
 | .er _=>rfl
 | .ok _ _=>by show Rr.ok _ _=Rr.ok _ _; rw [List.append_assoc]
theorem Ay{its:List D}(h:aE false (.tup its)=true)(zs:List Str)(b:Nat):pfR (ck its::zs) b=sW [.tup its] (pfR zs (b+(cJ its).length+2)):=by
 show (if Txt.endswith (ck its) " >= 0"=true then _ else _)=_
 rw [yI (l:=cI its) rfl,if_pos rfl,uS (l:=cI its) rfl,show ofL (cI its)=bX its from rfl,rK h]
 show (match pfR zs (b+(cJ its).length+2) with
  | Rr.er a=>Rr.er a
  | Rr.ok vs c=>Rr.ok (D.tup its::vs) c)=_
 cases pfR zs (b+(cJ its).length+2) <;> rfl
theorem sX:∀{xs:List (List D)} (rest:List Str) (b:Nat),(∀x∈xs,aE false (.tup x)=true)→pfR (xs.map ck++rest) b=sW (xs.map .tup) (pfR rest (b+(dc xs).length))
 | [],rest,b,_=>by
  show pfR rest b=sW [] (pfR rest (b+0))
  rw [Nat.add_zero]
  cases pfR rest b <;> rfl
 | x::r,rest,b,h=>by
  show pfR (ck x::(r.map ck++rest)) b=_
  rw [Ay (h x List.mem_cons_self),sX rest _ fun z hz=>h z (List.mem_cons_of_mem _ hz),Ax]
  have e:(dc (x::r)).length=(cJ x).length+2+(dc r).length:=by
   show ((cJ x++[59,32])++dc r).length=_
   rw [List.length_append,List.length_append]
   rfl
  rw [e,show b+(cJ x).length+2+(dc r).length=b+((cJ x).length+2+(dc r).length) by omega]
  rfl
theorem yJ{xs:List Str}{ls:List (List Nat)}(h:xs.map tl=ls):xs=ls.map ofL:=by
 rw [←h,List.map_map]
 exact (List.map_id xs).symm.trans (List.map_congr_left fun x _=>cB rfl)
theorem vX{xs:List (List D)}(hn:xs≠[])(h:∀x∈xs,aE false (.tup x)=true):Txt.split (iM xs) "; "=xs.map ck:=by
 have e:=yJ (TL.split_spl (iM xs) "; " (by decide) (TL.kind_ok (by decide+kernel)))
 rw [e,show tl ("; ":Str)=[59,32] from rfl,show tl (iM xs)=ir xs from rfl,uQ hn h,List.map_map]
 rfl
theorem oE{xs:List (List D)}{t:Str}(ht:vW (tl t))(h:∀x∈xs,aE false (.tup x)=true){z:Str}(hz:tl z=dc xs++tl t):Txt.split z "; "=xs.map ck++[t]:=by
 have e:=yJ (TL.split_spl z "; " (by decide) (TL.kind_ok (by decide+kernel)))
 rw [e,show tl ("; ":Str)=[59,32] from rfl,hz,uR ht h,List.map_append,List.map_map]
 show _++[ofL (tl t)]=_
 rw [←cB (x:=t) rfl]
 rfl
theorem BZ{xs:List (List D)}(h:∀x∈xs,aE false (.tup x)=true):∃c,pfR (xs.map ck) 0=.ok (xs.map .tup) c:=by
 have e:=sX (xs:=xs) [] 0 h
 rw [List.append_nil] at e
 rw [e]
 show ∃c,Rr.ok (xs.map D.tup++[]) _=_
 rw [List.append_nil]
 exact ⟨_,rfl⟩
def tlB(t:Str)(k:Nat):Bool:=(tl t).all (fun c=>decide (c≠59))&&if Txt.endswith t " >= 0"=true then (match pxR (Txt.slice t none (some (-5))) with
 | .er a=>a == k
 | .ok _ _=>false) else t.length == k
theorem uT{t:Str}{k:Nat}(h:tlB t k=true)(b:Nat):vW (tl t)∧pfR [t] b=.er (b+k):=by
 obtain ⟨h1,h⟩:=Bool.and_eq_true_iff.mp h
 refine ⟨fun c hc=>of_decide_eq_true (List.all_eq_true.mp h1 c hc),?_⟩
 show (if Txt.endswith t " >= 0"=true then (match pxR (Txt.slice t none (some (-5))) with
  | Rr.er a=>Rr.er (b+a)
  | Rr.ok v _=>match pfR [] (b+t.length+2) with
   | Rr.er a=>Rr.er a
   | Rr.ok vs c=>Rr.ok (v::vs) c) else Rr.er (b+t.length))=_
 split at h
 ·rename_i c
  rw [if_pos c]
  split at h
  ·rename_i a e
   rw [eq_of_beq h]
  ·cases h
 ·rename_i c
  rw [if_neg c,eq_of_beq h]
theorem De: [(("a.w":Str),3),("a.w > 0",7),("a.x >= 0",0),("3/1 >= 0",2),("a.w +  >= 0",6),("",0),(" >= 0",0)].all (fun p=>tlB p.1 p.2)=true:=by decide+kernel
theorem B8{xs:List (List D)}{t z:Str}{k:Nat}(h:∀x∈xs,aE false (.tup x)=true)(hz:tl z=dc xs++tl t)(ht:tlB t k=true):pfR (Txt.split z "; ") 0=.er ((dc xs).length+k):=by
 obtain ⟨h1,h2⟩:=uT ht (0+(dc xs).length)
 rw [oE h1 h hz,sX [t] 0 h,h2,Nat.zero_add]
 rfl
theorem oF:∀{xs:List (List D)},xs≠[]→joinL [59,32] (xs.map cJ)=ir xs
 | [],h=>absurd rfl h
 | [x],_=>rfl
 | x::y::r,_=>by
  show cJ x++([59,32]++joinL [59,32] ((y::r).map cJ))=cJ x++(59::32::ir (y::r))
  rw [oF (by simp)]
  rfl
open TL
section
variable {X:Cx} {E:XK} {a b:Expr} {rest:List Expr} {ta tb:DTE} {pos:Pos}
def D0(ta tb:DTE):DTE:=fun en m Q Qx=>ta en m (fun x m1=>∃z:Str,x=.v (.str z)∧z.length≤sizeLine∧if ((z.length:Int) != 0)=true then Q x m1 else tb en m1 Q Qx) Qx
theorem Df(ha:DE X E a ta)(hb:DE X E (.BoolOp .Or (b::rest) pos) tb):DE X E (.BoolOp .Or (a::b::rest) pos) (D0 ta tb):=by
 obtain ⟨t1,p1,k1⟩:=ha.ex
 obtain ⟨t2,p2,k2⟩:=hb.ex
 refine ⟨_,pe_orT p1 p2,fun B μ en m σ H Q Qx QV R hx T k=>?_⟩
 refine k1 B μ en m σ H _ Qx _ R hx T fun B1 μ1 m1 H1 x v s1 R1 r1 q=>?_
 obtain ⟨z,rfl,hz,q⟩:=q
 cases (show Rv X.K B1 v (.str z) from r1)
 refine ⟨_,⟨hz,rfl⟩,?_⟩
 by_cases c:((z.length:Int) != 0)=true
 ·rw [if_pos c] at q ⊢
  exact k B1 μ1 m1 H1 _ _ s1 R1 r1 q
 ·rw [if_neg c] at q ⊢
  exact k2.on R hx k s1 R1 q
end
theorem yK{Y:Cx}{x1:Str}{C0 C1:Addr}{p1:Pos}(g1:Gl Y x1)(m1:Y.mg x1=some (.ref C1))(d1:(x1 == ("__debug__":Str))=false)(h:PySem.W.exmOne Y.K (.ref C0) (.ref C1)=some true):Af Y (.Name x1 p1) (fun c=>c=.ref C0):=fun a oe pn pins σ H s cls Q E I ha hc hx=>vQ g1 m1 d1 a oe pn pins σ H s cls Q E I ha hc (by subst hx; exact h)
def Dg(j:Nat)(f:Str):En→Er→Me→(D→Me→Prop)→Prop:=fun en er m Q=>∃b z:Int,en[j]? =some (some (.v (.int b)))∧er.fs.lookup f=some (.int z)∧Q (.int (b+z)) m
theorem Az{X:Cx}{i j:Nat}{n y f:Str}{hit:Value→Prop}{p1 p2 p3 pos:Pos}(hC:∀C,hit (.ref C)→XfC X.K C∧PySem.W.findIn X.K (.ref C) f=some none)(hij:i≠j)(hi:X.N[i]? =some n)(hvi:Vis X.env.scope n)(hj:X.N[j]? =some y)(hvj:Vis X.env.scope y)
  (d1:(n == ("__debug__":Str))=false:=by decide) (d2:(n == ("__classdict__":Str))=false:=by decide) (d3:(y == ("__debug__":Str))=false:=by decide) (d4:(y == ("__classdict__":Str))=false:=by decide)
  (hb:attributeBase (.Name n p2) f X.env (eval (.Name n p2) X.env)=eval (.Name n p2) X.env:=by rfl) (hre:starEach [.BinOp (.Name y p1) .Add (.Attribute (.Name n p2) f p3) pos] X.env=(false,eval (.BinOp (.Name y p1) .Add (.Attribute (.Name n p2) f p3) pos) X.env)::starEach [] X.env:=by rfl):
  ∀(E':XK) (W':WX) (a:Addr) (oe:Obj) (pn:List (Addr×Obj)) (C dd:Addr),Zc (.ref C) (some dd) oe→(∃vs,oe.data=.fields vs)→hit (.ref C)→∃t,PA (pZ (L2H.suiteX (sx2 X E') a ((a,oe)::pn)) W') [.BinOp (.Name y p1) .Add (.Attribute (.Name n p2) f p3) pos] t∧XA X.K i a C dd t (Dg j f):=by
 intro E' W' a oe pn C dd hz hf hc
 refine ⟨_,pa_cons (pe_add (pe_var (X:=pZ (L2H.suiteX (sx2 X E') a ((a,oe)::pn)) W') (i:=j) hj hvj d3 d4) (cK (X:=pZ (L2H.suiteX (sx2 X E') a ((a,oe)::pn)) W') (p:=(a,oe)) List.mem_cons_self hz hf (pe_var (i:=i) hi hvi d1 d2) hb)) pa_nil,?_⟩
 intro B μ en m σ H fvs er Q QV R hl hd rf eC q k
 obtain ⟨b,z,e1,e2,q⟩:=q
 obtain ⟨v,h1,rv⟩:=R.env j _ e1
 cases (show Rv X.K B v (.int b) from rv)
 obtain ⟨v2,l2,r2⟩:=rf.look e2
 cases (show Rv X.K B v2 (.int z) from r2)
 obtain ⟨xf,no⟩:=hC C hc
 refine ⟨.int b,by rw [List.getElem?_set_ne hij]; exact h1,?_⟩
 refine ⟨.ref a,by rw [List.getElem?_set_self hl],rfl,C,dd,fvs,.int z,rfl,rfl,xf,no,hd,l2,b,z,rfl,rfl,?_⟩
 exact k B μ m H _ _ .refl R.mem (.int _) q
section
variable {P:Program} {w:World} {K:Frag} {mg:Str→Option Value} {base:Heap} {IE C T:Addr}
def A4(T:Addr):SpD:=fun ws m Q Qx=>∃z:Str,ws=[.v (.str z)]∧z.length≤mY∧(∀b,pxR z=.er b→Qx (bI T b) m)∧(∀v e,pxR z=.ok v e→okX v∧aE false v=true∧Q (.v v) m)
theorem yL{k:Nat}(hk:20≤k)(c_R:mg "Reader"=some (.ref C))(cl:Cls K C)(na:∀x∈rdN,NoAttr K C x)(gC:GmC P w K mg base 1 "Reader" C (yi C))(gX:GmD P w K mg base 6 C "expression" [] (A2 T C))(gH:GmD P w K mg base 1 C "ahead" [] (kR C))(gE:GmD P w K mg base 3 C "finish" [] (A1 T C))(gu_check:GU P w K mg base k "check_expression" aL (mQ IE))(c_IT:mg "InvalidText"=some (.ref T))(M:OexM P w K mg base 1 T (cb T 1 fun vs=>[(("at":Str),vs.headD .non),(("code":Str),V.str "InvalidText")])):
  UFo P w K mg base (k+1) "parse_expression" cC [] cD (A4 T):=fun f fd FD=>by
 refine AU false FD b9 ?_ ?_
 ·rintro ws m Q Qx ⟨z,rfl,_⟩
  rfl
 intro cdv A outer s H hr E
 refine ⟨_,(bR (us fun _=>(aC (i:=1) b9.nd rfl (.inl rfl) (C4 gC (hr.mono (by omega)) (aw (L2N.takes_of rfl rfl rfl rfl)) (aa (dv 0) ac))))
  (bR (us fun _=>(aC (i:=2) b9.nd rfl (.inl rfl) (lO gX (hr.mono (by omega)) (aw (L2N.takes_of rfl rfl rfl rfl)) (dv 1))))
  (bR (us fun _=>(aW (aP (di gH (hr.mono (by omega)) (aw (L2N.takes_of rfl rfl rfl rfl)) (dv 1) (aa aj ac)))
   (af (bU (f:="at") M (hr.mono (by omega)) c_IT rfl (L2N.takes_of rfl rfl rfl rfl) (aa (aM aG (aR K 1) ah) ac)))
   aD))
  (bR (us fun _=>(cM (lO gE (hr.mono (by omega)) (aw (L2N.takes_of rfl rfl rfl rfl)) (dv 1))))
  (bR (Al (rG gu_check hr (aa (dv 2) ac)))
  (f7 (us fun _=>(aq (dv 2))))))))),fun ws m Q Qx h=>?_⟩
 obtain ⟨z,rfl,hz,qe,qo⟩:=h
 have n2:NoAttr K C "at":=na _ (by simp [rdN])
 refine ⟨m.length,z,rfl,List.getElem?_concat_length,?_⟩
 rw [ci]
 refine ⟨rfl,?_⟩
 have RA:∀e,e≤z.length→RdA C (m++[.ins C (rdF z e)]) m.length z e:=fun e he=>⟨List.getElem?_concat_length,hz,he⟩
 have R0:=RA 0 (Nat.zero_le _)
 refine ⟨m.length,_,rfl,R0.at_,rfl,m.length,z,0,rfl,R0,?_⟩
 have i0:=zY (z:=z) (Nat.zero_le z.length)
 have hp:pxR z=match pS z 0 with
  | .er b=>.er b
  | .ok v e=>if ahe z " " e=true then .er (e+1) else if e=z.length then .ok v e else .er e:=rfl
 cases hf:pS z 0 with
 | er b=>
  rw [hf] at hp
  intro i
  rw [ci]
  exact ⟨List.prefix_append _ _,qe b hp⟩
 | ok v e=>
  rw [hf] at hp i0
  have R1:=RA e i0.2
  show fv (sIf (tBl (fi C "ahead" [] (kR C) (tV 1) (tCn (tK (.str " ")) tN))) (lD T "InvalidText" "at" (tCn (tO2 (oL ja) (vH K "at" (tV 1)) (tK (.int 1))) tN)) sNx) _ [some (.v (.str z)),some (.loc m.length),some (.v v)] ((m++[MO.ins C (rdF z 0)]).set m.length (.ins C (rdF z e))) _
  rw [ci]
  refine ⟨m.length,_,rfl,R1.at_,rfl,m.length,z,e," ",rfl,R1,?_⟩
  cases ha:ahe z " " e with
  | true=>
   have hp:pxR z=(if ahe z " " e=true then .er (e+1) else _):=hp
   rw [ha,if_pos rfl] at hp
   exact ⟨m.length,C,_,_,rfl,R1.at_,cl,n2,rfl,List.prefix_append _ _,qe _ hp⟩
  | false=>
   have hp:pxR z=(if ahe z " " e=true then .er (e+1) else if e=z.length then .ok v e else .er e):=hp
   rw [ha,if_neg (by decide)] at hp
   refine ⟨m.length,_,rfl,R1.at_,rfl,m.length,z,e,rfl,R1,fun he=>?_,fun he=>⟨List.prefix_append _ _,qe e (by rw [hp,if_neg he])⟩⟩
   rw [if_pos he] at hp
   obtain ⟨ok,k1,k2⟩:=qo v e hp
   refine ⟨v,rfl,ok,?_⟩
   rw [k1]
   exact ⟨List.prefix_append _ _,k2⟩
abbrev bC:Stmt:=top 40
abbrev iW:List Str:=["text","found","begin","row","e"]
abbrev a8:List Str:=["text"]
theorem bS:FnScope iW a8 (defScope bC):=⟨rfl,rfl,rfl,by decide+kernel,rfl,by decide+kernel,by decide+kernel⟩
def yM(zs:List Str):Prop:=zs.length≤100∧(∀z∈zs,z.length≤mY)∧∀z∈zs,Txt.endswith z " >= 0"=true→∀v e,pxR (Txt.slice z none (some (-5)))=.ok v e→okX v∧aE false v=true
def rL(T:Addr):SpD:=fun ws m Q Qx=>∃z:Str,ws=[.v (.str z)]∧z.length≤mY∧(z="none"→Q (.v (.lst [])) m)∧(z≠"none"→yM (Txt.split z "; ")∧match pfR (Txt.split z "; ") 0 with
 | .er a=>Qx (bI T a) m
 | .ok vs _=>Q (.v (.lst vs)) m)
theorem vY{k:Nat}(hk:20≤k){uE:Value}(c_END:mg "END"=some uE)(k_END:eu K 3 uE (.str " >= 0")=true)(m_len:mg "len"=none)(c_IT:mg "InvalidText"=some (.ref T))(ET:ErrC K T)(xT:PySem.W.exmOne K (.ref T) (.ref T)=some true)(gP:GU P w K mg base k "parse_expression" cD (A4 T))(M:OexM P w K mg base 1 T (cb T 1 fun vs=>[(("at":Str),vs.headD .non),(("code":Str),V.str "InvalidText")]))(MH:OexH P w K mg base 1 T (cb T 1 fun vs=>[(("at":Str),vs.headD .non),(("code":Str),V.str "InvalidText")])):
  BU P w K mg base (k+1) "parse_facts" bC [] a8 (rL T):=fun f fd FD=>by
 refine BC false FD bS ?_ ?_
 ·rintro ws m Q Qx ⟨z,rfl,_⟩
  rfl
 intro cdv A outer s H hr E
 refine ⟨_,(fN (us2 (us fun _=>(aW (ay (fX (u64 hr)) (dv 0) aj (nomark _))
   (af (aq (cf ac)))
   aD)))
  (fN (us2 (us fun _=>(ka (i:=1) (j:=2) rfl bS.nd rfl rfl (by decide) rfl rfl (aa (l8 ac) (aa ah ac)) (by rfl))))
  (fN (Aj rfl (fun _=>(b8 (o3 (dv 0) (aa aj ac)))) (fun _=>(az (i:=3) bS.nd rfl (.inl rfl)))
   (fN (us2 (us fun _=>(aW (bF (aP (sa (dv 3) (aa (eA c_END k_END) ac))))
    (af (bU (f:="at") M (hr.mono (by omega)) c_IT rfl (L2N.takes_of rfl rfl rfl rfl) (aa (aM aG (dv 2) (dm m_len (aa (dv 3) ac))) ac)))
    aD)))
   (fN (Ai (hit:=fun c=>c=.ref T) (i:=4) rfl rfl rfl bS.nd rfl rfl (Ah (dv 1) (rG gP hr (aa (cP (dv 3) jz (aZ (zh tD (dm m_len (aa (eA c_END k_END) ac))))) ac))) (fun E'=>yK rfl c_IT (by decide) xT) (fun C hC Y hK=>by cases hC; exact raises_own (by rw [hK]; exact ET.ox.exC) (by rw [hK]; exact ET.ox.tyC)) MH (hr.mono (by omega)) c_IT (Az (X:=cxOf (L2N.CX P w) P w K mg base iW "parse_facts" (defScope bC) f cdv A outer s H E0) (hit:=fun c=>c=.ref T) (i:=4) (j:=2) (n:="e") (y:="begin") (f:="at") (fun C hC=>by cases hC; exact ⟨ET.ex.xf,ET.ex.no _ (by simp [bE])⟩) (by decide) rfl (.inl rfl) rfl (.inl rfl)))
   (qM (us2 (us fun _=>(wH (i:=2) bS.nd rfl (.inl rfl) (aM aG (dm m_len (aa (dv 3) ac)) ah) wI)))))))
  (Ak 1 (qM (us2 (us fun _=>(aq (dv 1))))))))),fun ws m Q Qx h=>?_⟩
 obtain ⟨z,rfl,hz,q0,q1⟩:=h
 have ln:=sizeLine_eq
 refine ⟨rfl,rfl,Nat.zero_le _,Nat.zero_le _,aN (fun c=>?_) (fun c=>?_)⟩
 ·have c:(z == "none")=true:=c
  exact ⟨by show 0≤sizeLine; omega,List.prefix_refl _,q0 (eq_of_beq c)⟩
 have c:(z == "none")=false:=c
 obtain ⟨rok,q⟩:=q1 (fun e=>by rw [e] at c; exact absurd c (by decide))
 obtain ⟨zs,hzs⟩:∃zs,zs=Txt.split z "; ":=⟨_,rfl⟩
 rw [←hzs] at rok q
 refine ⟨Nat.zero_le _,?_⟩
 refine ⟨trivial,by decide+kernel,by decide,by show z.length+2≤sizeLine; have:mY=20000:=rfl; omega,?_⟩
 rw [←hzs]
 refine iS (fun j en m'=>∃(acc:List D) (b:Nat) (v3:Option W),en=[some (.v (.str z)),some (.loc m.length),some (.v (.int b)),v3,none]∧m'=m++[.lst acc]∧acc.length=j∧pfR zs 0=sW acc (pfR (zs.drop j) b)) ⟨[],0,none,rfl,rfl,rfl,by rw [List.drop_zero]; cases pfR zs 0 <;> rfl⟩ ?_ ?_
 ·rintro j d en m' N' hdj ⟨acc,b,v3,rfl,rfl,hj,hp⟩ r1 r2 r3 hn
  obtain ⟨row,hrow,rfl⟩:∃row,zs[j]? =some row∧d=.str row:=by
   rw [List.getElem?_map] at hdj
   cases hzj:zs[j]? with
   | none=>rw [hzj] at hdj; cases hdj
   | some row=>rw [hzj] at hdj; exact ⟨row,rfl,(Option.some.inj hdj).symm⟩
  have mem:=List.mem_of_getElem? hrow
  have hl:=(List.getElem?_eq_some_iff.mp hrow).1
  have dr:zs.drop j=row::zs.drop (j+1):=by
   rw [List.drop_eq_getElem_cons hl,(List.getElem?_eq_some_iff.mp hrow).2]
  rw [dr] at hp
  have hr:=rok.2.1 row mem
  have mx:mY=20000:=rfl
  have pu:pfR (row::zs.drop (j+1)) b=if Txt.endswith row " >= 0"=true then (match pxR (Txt.slice row none (some (-5))) with
   | .er a=>.er (b+a)
   | .ok v _=>match pfR (zs.drop (j+1)) (b+row.length+2) with
    | .er a=>.er a
    | .ok vs c=>.ok (v::vs) c) else .er (b+row.length):=rfl
  refine ⟨trivial,?_⟩
  refine aN (fun hE=>?_) (fun hE=>?_)
  ·have hE:Txt.endswith row " >= 0"=false:=by simpa using hE
   rw [hE,if_neg (by decide)] at pu
   rw [pu] at hp
   rw [hp] at q
   have fin:N'.xc ⟨T,erF "InvalidText" [(("at":Str),.int ((b:Int)+(row.length:Int)))]⟩ (m++[MO.lst acc]):=by
    rw [r2,show ((b:Int)+(row.length:Int))=((b+row.length:Nat):Int) by omega]
    exact ⟨List.prefix_append _ _,q⟩
   exact ⟨by omega,fin⟩
  ·have hE:Txt.endswith row " >= 0"=true:=by simpa using hE
   rw [hE,if_pos rfl] at pu
   have sln:(Txt.slice row none (some (-5))).length≤row.length:=by
    rw [←C8.cutS_slice]
    show ((((tl row).drop _).take _).toArray).size≤_
    rw [List.size_toArray,List.length_take,List.length_drop]
    show _≤(tl row).length
    omega
   refine ⟨aQ trivial,by show 5≤sizeLine; omega,by omega,Txt.slice row none (some (-5)),rfl,by omega,fun b' hb=>?_,fun v e hv=>?_⟩
   ·rw [hb] at pu
    have pu:pfR (row::zs.drop (j+1)) b=.er (b+b'):=pu
    rw [pu] at hp
    rw [hp] at q
    refine ⟨rfl,b,b',rfl,rfl,?_⟩
    have fin:N'.xc ⟨T,erF "InvalidText" [(("at":Str),.int ((b:Int)+(b':Int)))]⟩ (m++[MO.lst acc]):=by
     rw [r2,show ((b:Int)+(b':Int))=((b+b':Nat):Int) by omega]
     exact ⟨List.prefix_append _ _,q⟩
    exact fin
   ·rw [hv] at pu
    have pu:pfR (row::zs.drop (j+1)) b=(match pfR (zs.drop (j+1)) (b+row.length+2) with
     | .er a=>.er a
     | .ok vs c=>.ok (v::vs) c):=pu
    obtain ⟨k1,k2⟩:=rok.2.2 row mem hE v e hv
    have zl:=rok.1
    refine ⟨k1,k2,aQ ⟨by omega,?_⟩⟩
    rw [ci]
    refine ⟨by omega,?_⟩
    have key:=(hn [some (.v (.str z)),some (.loc m.length),some (.v (.int ((b+row.length+2:Nat):Int))),some (.v (.str row)),none] (m++[MO.lst (acc++[v])]) ⟨acc++[v],b+row.length+2,_,rfl,rfl,by rw [List.length_append,hj]; rfl,?_⟩).1
    ·rw [show ((b+row.length+2:Nat):Int)=((b:Int)+((row.length:Int)+2)) by omega] at key
     exact key
    ·rw [hp,pu]
     cases pfR (zs.drop (j+1)) (b+row.length+2) with
     | er a=>rfl
     | ok vs c=>
      show Rr.ok (acc++v::vs) c=Rr.ok ((acc++[v])++vs) c
      rw [List.append_assoc]
      rfl
 ·rintro en m' ⟨acc,b,v3,rfl,rfl,hj,hp⟩
  rw [List.length_map] at hp
  rw [List.drop_length] at hp
  have hp:pfR zs 0=.ok (acc++[]) b:=hp
  rw [List.append_nil] at hp
  rw [hp] at q
  show sFz 1 (lY (tV 1)) [some (.v (.str z)),some (.loc m.length),some (.v (.int b)),v3,none] (m++[.lst acc]) (pi false m Q Qx)
  refine mr (ds:=acc) rfl ?_
  dsimp only [List.set,List.map]
  rw [jE]
  exact ⟨List.prefix_append _ _,q⟩
end
open TL
theorem lW{its:List D}(h:aE false (.tup its)=true):(cJ its).length≤185:=by
 have:=fP h
 show (cI its++[32,62,61,32,48]).length≤185
 rw [List.length_append]
 show _+5≤_
 omega
theorem nu{its:List D}(h:aE false (.tup its)=true):(ck its).length≤185:=by
 have e:(ck its).length=(cJ its).length:=List.size_toArray ..
 rw [e]
 exact lW h
theorem uU(its:List D):bX its++" >= 0"=ck its:=cB (aK (bX its) " >= 0")
theorem jY{f:List D→Nat}{n:Nat}:∀{xs:List (List D)},(∀x∈xs,f x≤n)→(xs.map f).sum≤xs.length * n
 | [],_=>Nat.zero_le _
 | x::xs,h=>by
  rw [List.map_cons,List.sum_cons,List.length_cons,Nat.add_mul]
  have h1:=h x List.mem_cons_self
  have h2:=jY (f:=f) (xs:=xs) fun z hz=>h z (List.mem_cons_of_mem _ hz)
  omega
theorem jZ{xs:List (List D)}(h:∀x∈xs,aE false (.tup x)=true):(ir xs).length≤xs.length * 187+4:=by
 induction xs with
 | nil=>decide
 | cons x r ih=>
  have h1:=lW (h x List.mem_cons_self)
  have h2:=ih fun z hz=>h z (List.mem_cons_of_mem _ hz)
  cases r with
  | nil=>
   show (cJ x).length≤1 * 187+4
   omega
  | cons y r=>
   show (cJ x++(59::32::ir (y::r))).length≤_
   rw [List.length_append,List.length_cons,List.length_cons,List.length_cons (a:=x)]
   omega
theorem gr{f:List D→Str}:∀{xs:List (List D)} {Q:List Str→Prop},Q (xs.map f)→iR (xs.map fun a=>D.str (f a)) Q
 | [],Q,h=>h
 | x::xs,Q,h=>gr (Q:=fun ys=>Q (f x::ys)) h
theorem rM(s:Str)(rows:List Str):tl (Txt.join s rows)=joinL (tl s) (rows.map tl):=by
 have z:=TL.tl_join s rows
 rw [←PySem.StrLaws.glued_eq_join] at z
 exact z
theorem oG{xs:List (List D)}(h:xs≠[]):Txt.join "; " (xs.map ck)=iM xs:=by
 refine cB ?_
 rw [rM,List.map_map]
 show joinL [59,32] (xs.map (tl ∘ ck))=ir xs
 rw [←oF h]
 rfl
section
variable {P:Program} {w:World} {K:Frag} {mg:Str→Option Value} {base:Heap}
def kW(xs:List (List D)):Prop:=xs.length≤100∧∀x∈xs,aE false (.tup x)=true∧okX (.tup x)
abbrev d6:Stmt:=top 39
abbrev j5:List Str:=["facts","fact"]
abbrev d7:List Str:=["facts"]
abbrev iu:List (Str×Nat):=[("fact",1)]
theorem fG:FnScope j5 d7 (defScope d6):=⟨rfl,rfl,rfl,by decide+kernel,rfl,by decide+kernel,by decide+kernel⟩
def yN:SpD:=fun ws m Q _=>∃xs:List (List D),(ws=[.v (.tup (xs.map .tup))]∨ws=[.v (.lst (xs.map .tup))])∧kW xs∧Q (.v (.str (iM xs))) m
theorem nY{C:Addr}{uE:Value}(c_END:mg "END"=some uE)(k_END:eu K 3 uE (.str " >= 0")=true)(g_format_expression:Gd P w K mg base (L2N.CX P w) 6 "format_expression" bg (lift K (uI C))):Fo P w K mg base (L2N.CX P w) 7 "facts_text" d6 [] [] d7 (lift K yN):=by
 refine cO fG (fun ws m Q Qx h=>?_) (fun f cdv A outer s H E hr=>⟨_,(af (aq (Df (mq aj (aa (qj (own:=iu) rfl fG.nd (b8 (dv 0)) (blkOk_by (own:=iu) (N:=j5) (sc:=defScope d6) (by decide+kernel)) (fun _ _ _ _ _=>(az (i:=1) fG.nd rfl (.inl rfl))) (fun _ _ _ _ _=>cN) (fun _ _ _ _ _=>(aM aG (av g_format_expression (hr.mono (by omega)) md (aa (dv 1) ac)) (eA c_END k_END)))) ac)) (iN aj)))),fun ws m Qd Qx h=>?_⟩) [] []
 ·obtain ⟨xs,rfl | rfl,_⟩:=h <;> rfl
 obtain ⟨xs,hw,⟨hl,hx⟩,q⟩:=h
 have ln:=sizeLine_eq
 have it:∀(w0:W) (x:List D) (_:x∈xs) (Qt:W→Me→Prop),Qt (.v (.str (ck x))) m→gN 1 (.v (.tup x)) [some w0,none] m fun en1 m1=>tO2 (oL ja) (l9 (uI C) (tCn (tV 1) tN)) (tK (.str " >= 0")) en1 m1 Qt noX:=fun w0 x hm Qt hq=>by
  obtain ⟨h1,h2⟩:=hx x hm
  have xl:=fP h1
  have ol:(bX x).length=(cI x).length:=List.size_toArray ..
  refine ⟨.tup x,rfl,h2,(fun e=>by rw [h1] at e; cases e),fun _ its e=>?_⟩
  cases e
  refine ⟨by rw [ol]; show _+5≤_; omega,?_⟩
  rw [uU]
  exact hq
 have fin:(fun xs_1 m2=>m1 wD (.v (.str "; ")) xs_1 m2 fun d m3=>(fun x m1=>∃z:Str,x=.v (.str z)∧z.length≤sizeLine∧if ((z.length:Int) != 0)=true then (fun x m1=>(oN m Qd Qx).rt x m1) x m1 else (oN m Qd Qx).rt (.v (.str "none")) m1) (.v d) m3) [.v (.lst (xs.map fun x=>.str (ck x)))] m:=by
  refine (gr (f:=ck) ?_:iR (xs.map fun a=>D.str (ck a)) _)
  have sl:=jY (f:=fun x=>(ck x).length) (n:=185) (xs:=xs) fun x h=>nu (hx x h).1
  refine ⟨?_,?_⟩
  ·rw [List.map_map,List.length_map]
   show (xs.map fun x=>(ck x).length).sum+xs.length * 2≤_
   omega
  ·by_cases hn:xs=[]
   ·subst hn
    exact ⟨_,rfl,by show 0≤sizeLine; omega,List.prefix_refl _,q⟩
   ·rw [oG hn]
    have fl:=jZ fun x h=>(hx x h).1
    have e:(iM xs).length=(ir xs).length:=List.size_toArray ..
    refine ⟨_,rfl,by rw [e]; omega,?_⟩
    have f0:(ir xs).length≠0:=by
     cases xs with
     | nil=>exact absurd rfl hn
     | cons x r=>
      cases r with
      | nil=>
       show (cI x++[32,62,61,32,48]).length≠0
       rw [List.length_append]
       show _+5≠0
       omega
      | cons y r=>
       show (cJ x++(59::32::ir (y::r))).length≠0
       rw [List.length_append,List.length_cons]
       omega
    rw [if_pos (by rw [e]; exact bne_iff_ne.mpr (by omega))]
    exact ⟨List.prefix_refl _,q⟩
 rcases hw with rfl | rfl
 ·refine ⟨trivial,?_⟩
  exact nr (f:=fun x=>.str (ck x)) (by show 0+_≤_; omega) (it _) fin
 ·refine ⟨trivial,?_⟩
  exact nr (f:=fun x=>.str (ck x)) (by show 0+_≤_; omega) (it _) fin
abbrev bN:Stmt:=top 59
abbrev fm:List Str:=["_law_facts_z","_law_rows","_law_fact"]
abbrev db:List Str:=["_law_facts_z"]
abbrev dP:List (Str×Nat):=[("_law_fact",2)]
theorem cE:FnScope fm db (defScope bN):=⟨rfl,rfl,rfl,by decide+kernel,rfl,by decide+kernel,by decide+kernel⟩
def A5:SpD:=fun ws m Q _=>∃xs:List (List D),ws=[.v (.lst (xs.map .tup))]∧kW xs∧Q (.v (.str (iM xs))) m
theorem jv(G:Gs K mg "_law_facts_text" bN)(g__law_expression_text:Gd P w K mg base (L2N.CX P w) 2 "_law_expression_text" aV (lift K uN)):Gd P w K mg base (L2N.CX P w) 3 "_law_facts_text" db (lift K A5):=by
 refine Fo.gd (cO cE (fun ws m Q Qx h=>?_) (fun f cdv A outer s H E hr=>⟨_,(ad (qt (i:=1) rfl rfl (sw_true rfl rfl rfl (by decide+kernel)) (own:=dP) rfl cE.nd (b8 (dv 0)) (blkOk_by (own:=dP) (N:=fm) (sc:=defScope bN) (by decide+kernel)) (fun _ _ _ _ _=>(az (i:=2) cE.nd rfl (.inl rfl))) (fun _ _ _ _ _=>cN) (fun _ _ _ _ _=>(aM aG (av g__law_expression_text (hr.mono (by omega)) md (aa (dv 2) ac)) aj)))
  (af (aq (j7 (ay (gZ (u64 hr)) (dv 1) (cf ac) (nomark _)) (mq aj (aa (dv 1) ac)) aj)))),fun ws m Qd Qx h=>?_⟩) [] []) G (fun _ _ _ _ _ _ us hl=>match us,hl with | [_],_=>rfl)
 ·obtain ⟨_,rfl,_⟩:=h
  rfl
 obtain ⟨xs,rfl,⟨hl,hx⟩,q⟩:=h
 have ln:=sizeLine_eq
 refine nr (f:=fun x=>.str (ck x)) (by show 0+_≤_; omega) (fun x hm Qt hq=>?_) ?_
 ·obtain ⟨h1,h2⟩:=hx x hm
  have xl:=fP h1
  have ol:(bX x).length=(cI x).length:=List.size_toArray ..
  refine ⟨x,rfl,h1,?_⟩
  refine ⟨by rw [ol]; show _+5≤_; omega,?_⟩
  rw [uU]
  exact hq
 ·have em:(xs.map fun x=>D.str (ck x))=(xs.map ck).map D.str:=by rw [List.map_map]; rfl
  obtain ⟨p1,p2⟩:=kH (xs.map ck)
  rw [←em] at p1 p2
  have pl:b7 (.lst (xs.map fun x=>D.str (ck x)))=true:=p1
  have dl:kY (.lst (xs.map fun x=>D.str (ck x)))≤64:=by
   show depL _+1≤64
   rw [p2]
   decide
  refine ⟨Nat.zero_le _,pl,rfl,dl,by decide,aN (fun c=>?_) (fun c=>?_)⟩
  ·have hn:xs≠[]:=fun e=>by
    subst e
    cases c
   have fl:=jZ fun x h=>(hx x h).1
   have sl:=jY (f:=fun x=>(ck x).length) (n:=185) (xs:=xs) fun x h=>nu (hx x h).1
   refine ⟨trivial,(gr (f:=ck) ?_:iR (xs.map fun a=>D.str (ck a)) _)⟩
   refine ⟨?_,?_⟩
   ·rw [List.map_map,List.length_map]
    show (xs.map fun x=>(ck x).length).sum+xs.length * 2≤_
    omega
   ·rw [oG hn]
    exact ⟨List.prefix_refl _,q⟩
  ·have hn:xs=[]:=by
    cases xs with
    | nil=>rfl
    | cons x r=>cases c
   subst hn
   exact ⟨List.prefix_refl _,q⟩
theorem lx{k:Nat}{sp:SpD}(G:Gs K mg "parse_facts" bC)(F:BU P w K mg base k "parse_facts" bC [] a8 sp):GUk2 P w K mg base k "parse_facts" 0 ["text"] gK a8 sp:=by
 obtain ⟨f,fd,g,a,b,c,D⟩:=G.k0 (ps:=a8) 0 ["text"] (fun us ws=>gK us ws) (fun _ r=>r) (fun kV doc pm an cdv ct us ws l1 l2=>match us,ws,l1,l2 with | [],[_],_,_=>rfl)
 exact ⟨f,fd,g,a,b,c,F f fd D⟩
end
open TL
abbrev yO(K:Frag):Addr:=(He.cT K ("law",none)).2
def m0(K:Frag):Me:=[MO.bag,MO.tab (yO K) "law.<locals>.<lambda>"]
theorem B9{K:Frag}:wP (m0 K) (yO K) "law.<locals>.<lambda>":=⟨⟨1,rfl⟩,fun n P2 q2 e=>by
 match n,e with
 | 0,e=>cases e
 | 1,e=>cases e; exact ⟨rfl,rfl⟩
 | n+2,e=>cases e⟩
theorem yP{n m:Nat}{d:D}(h:k9 n d)(l:n≤m):k9 m d:=by
 induction l with
 | refl=>exact h
 | step _ ih=>exact mJ ih
theorem vZ{x:D}(h:aE false x=true):k9 4 x:=by
 obtain ⟨its,rfl,l1,l6,hi⟩:=im h
 refine ⟨Nat.lt_of_le_of_lt l6 (by decide),fun d hd=>?_⟩
 obtain ⟨a,b,x,rfl,_⟩:=eM (hi d hd)
 refine ⟨by show 2<2 ^ 20; decide,fun e he=>?_⟩
 simp only [List.mem_cons,List.not_mem_nil,or_false] at he
 rcases he with rfl | rfl
 ·refine ⟨by show 2<2 ^ 20; decide,fun e he=>?_⟩
  simp only [List.mem_cons,List.not_mem_nil,or_false] at he
  rcases he with rfl | rfl <;> exact rfl
 ·exact rfl
theorem v0{xs:List (List D)}(h:kW xs):k9 24 (.lst (xs.map .tup)):=by
 refine yP (n:=5) ⟨by rw [List.length_map]; exact Nat.lt_of_le_of_lt h.1 (by decide),fun e he=>?_⟩ (by decide)
 obtain ⟨x,hx,rfl⟩:=List.mem_map.mp he
 exact vZ (h.2 x hx).1
theorem AA{n:Nat}{a b:D}(ha:k9 n a)(hb:k9 n b):k9 (n+1) (.lst [a,b]):=by
 refine ⟨by show 2<2 ^ 20; decide,fun e he=>?_⟩
 simp only [List.mem_cons,List.not_mem_nil,or_false] at he
 rcases he with rfl | rfl
 ·exact ha
 ·exact hb
theorem AB{i:Nat}{ds ys:List D}(h:All2 (fun _ _ y=>∃x:List D,y=.tup x∧aE false (.tup x)=true∧okX (.tup x)) i ds ys):∃xs:List (List D),ys=xs.map .tup∧xs.length=ds.length∧∀x∈xs,aE false (.tup x)=true∧okX (.tup x):=by
 induction h with
 | nil=>exact ⟨[],rfl,rfl,fun x hx=>nomatch hx⟩
 | cons h1 _ ih=>
  obtain ⟨x,rfl,hx⟩:=h1
  obtain ⟨xs,rfl,hl,hs⟩:=ih
  exact ⟨x::xs,rfl,by rw [List.length_cons,List.length_cons,hl],fun z hz=>by
   rcases List.mem_cons.mp hz with rfl | hz
   ·exact hx
   ·exact hs z hz⟩
def kK(x:List D):Str:=bX x++" >= 0; "
theorem uV(x:List D):tl (kK x)=cJ x++[59,32]:=by
 show tl (bX x++" >= 0; ")=_
 rw [aK]
 show cI x++[32,62,61,32,48,59,32]=(cI x++[32,62,61,32,48])++[59,32]
 rw [List.append_assoc]
 rfl
theorem wb(ls:List (List Nat)):joinL [] ls=ls.flatten:=by
 induction ls with
 | nil=>rfl
 | cons p r ih=>
  cases r with
  | nil=>show p=[p].flatten; simp
  | cons q r=>
   show p++([]++joinL [] (q::r))=_
   rw [ih,List.nil_append]
   rfl
theorem rN(xs:List (List D)):tl (Txt.join "" (xs.map kK))=dc xs:=by
 rw [rM,List.map_map,show tl ("":Str)=[] from rfl,wb]
 unfold dc
 rw [List.flatMap_def]
 congr 1
 exact List.map_congr_left fun x _=>uV x
theorem uW{xs:List (List D)}(h:∀x∈xs,aE false (.tup x)=true):(dc xs).length≤xs.length * 187:=by
 induction xs with
 | nil=>exact Nat.le_refl _
 | cons x r ih=>
  have h1:=lW (h x List.mem_cons_self)
  have h2:=ih fun z hz=>h z (List.mem_cons_of_mem _ hz)
  show ((cJ x++[59,32])++dc r).length≤_
  rw [List.length_append,List.length_append,List.length_cons (a:=x)]
  show _+2+_≤_
  omega
theorem oH{xs:List (List D)}(h:kW xs)(h6:xs.length≤99){rest:List Str}(hr:rest.length≤1)(hm:∀t∈rest,t.length≤mY∧∀v e,Txt.endswith t " >= 0"=true→pxR (Txt.slice t none (some (-5)))≠ .ok v e):yM (xs.map ck++rest):=by
 have mx:mY=20000:=rfl
 refine ⟨by rw [List.length_append,List.length_map]; omega,fun z hz=>?_,fun z hz he v e hv=>?_⟩
 ·rcases List.mem_append.mp hz with hz | hz
  ·obtain ⟨x,hx,rfl⟩:=List.mem_map.mp hz
   have:=nu (h.2 x hx).1
   omega
  ·exact (hm z hz).1
 ·rcases List.mem_append.mp hz with hz | hz
  ·obtain ⟨x,hx,rfl⟩:=List.mem_map.mp hz
   obtain ⟨g1,g2⟩:=h.2 x hx
   rw [uS (l:=cI x) rfl,show ofL (cI x)=bX x from rfl,rK g1] at hv
   cases hv
   exact ⟨g2,g1⟩
  ·exact absurd hv ((hm z hz).2 v e he)
theorem yQ{xs:List (List D)}(hn:xs≠[]):iM xs≠"none":=fun e=>by
 have e:ir xs=[110,111,110,101]:=congrArg tl e
 cases xs with
 | nil=>exact hn rfl
 | cons x r=>
  have el:=congrArg List.length e
  cases r with
  | nil=>
   have el:(cI x++[32,62,61,32,48]).length=4:=el
   rw [List.length_append] at el
   have el:_+5=4:=el
   omega
  | cons y r=>
   have el:((cI x++[32,62,61,32,48])++(59::32::ir (y::r))).length=4:=el
   rw [List.length_append,List.length_append] at el
   have el:_+5+_=4:=el
   omega
theorem yR{t:Str}{k:Nat}(h:tlB t k=true):∀v e,Txt.endswith t " >= 0"=true→pxR (Txt.slice t none (some (-5)))≠ .ok v e:=fun v e he hv=>by
 have h2:=(Bool.and_eq_true_iff.mp h).2
 rw [he,if_pos rfl,hv] at h2
 cases h2
theorem yS{d:D}(h:d∈([.tup [.str "a.w",.int 3],.tup [.str "a.w > 0",.int 7],.tup [.str "a.x >= 0",.int 0],.tup [.str "3/1 >= 0",.int 2],.tup [.str "a.w +  >= 0",.int 6],.tup [.str "",.int 0],.tup [.str " >= 0",.int 0]]:List D)):∃(t:Str) (k:Nat),d=.tup [.str t,.int k]∧tlB t k=true∧t.length≤20∧t≠"none":=by
 have z:=List.all_eq_true.mp De
 have go:∀(t:Str) (k:Nat),(t,k)∈[(("a.w":Str),3),("a.w > 0",7),("a.x >= 0",0),("3/1 >= 0",2),("a.w +  >= 0",6),("",0),(" >= 0",0)]→tlB t k=true:=fun t k hm=>z (t,k) hm
 simp only [List.mem_cons,List.not_mem_nil,or_false] at h
 rcases h with rfl | rfl | rfl | rfl | rfl | rfl | rfl
 ·exact ⟨"a.w",3,rfl,go _ _ (by simp),by decide,by decide⟩
 ·exact ⟨"a.w > 0",7,rfl,go _ _ (by simp),by decide,by decide⟩
 ·exact ⟨"a.x >= 0",0,rfl,go _ _ (by simp),by decide,by decide⟩
 ·exact ⟨"3/1 >= 0",2,rfl,go _ _ (by simp),by decide,by decide⟩
 ·exact ⟨"a.w +  >= 0",6,rfl,go _ _ (by simp),by decide,by decide⟩
 ·exact ⟨"",0,rfl,go _ _ (by simp),by decide,by decide⟩
 ·exact ⟨" >= 0",0,rfl,go _ _ (by simp),by decide,by decide⟩
theorem AC{xs:List (List D)}(h:kW xs)(h6:xs.length≤6){T:Addr}{m:Me}{Q:W→Me→Prop}{Qx:QX}(q:Q (.v (.lst (xs.map .tup))) m):rL T [.v (.str (iM xs))] m Q Qx:=by
 have mx:mY=20000:=rfl
 have fl:=jZ fun x hx=>(h.2 x hx).1
 have fe:(iM xs).length=(ir xs).length:=List.size_toArray ..
 refine ⟨iM xs,rfl,by omega,fun e=>?_,fun ne=>?_⟩
 ·by_cases hn:xs=[]
  ·subst hn
   exact q
  ·exact absurd e (yQ hn)
 ·have hn:xs≠[]:=fun e=>ne (by rw [e]; rfl)
  obtain ⟨c,hc⟩:=BZ fun x hx=>(h.2 x hx).1
  rw [vX hn fun x hx=>(h.2 x hx).1]
  refine ⟨?_,?_⟩
  ·have z:=oH h (by omega) (rest:=[]) (Nat.zero_le _) (fun t ht=>nomatch ht)
   rw [List.append_nil] at z
   exact z
  ·rw [hc]
   exact q
theorem AD{xs:List (List D)}{t:Str}{k:Nat}(h:kW xs)(h6:xs.length≤6)(ht:tlB t k=true)(tl20:t.length≤20)(tn:t≠"none"){hd:Str}(hh:hd=Txt.join "" (xs.map kK)){T:Addr}{m:Me}{Q:W→Me→Prop}{Qx:QX}(q:Qx (bI T ((dc xs).length+k)) m):rL T [.v (.str (hd++t))] m Q Qx:=by
 subst hh
 have mx:mY=20000:=rfl
 have ge:∀x∈xs,aE false (.tup x)=true:=fun x hx=>(h.2 x hx).1
 have hl:=uW ge
 have e:tl (Txt.join "" (xs.map kK)++t)=dc xs++tl t:=by rw [aK,rN]
 have el:(Txt.join "" (xs.map kK)++t).length=(dc xs).length+t.length:=by
  have:=congrArg List.length e
  rw [List.length_append] at this
  exact this
 refine ⟨_,rfl,by omega,fun en=>?_,fun ne=>⟨?_,?_⟩⟩
 ·rw [en] at e
  cases xs with
  | nil=>exact absurd (iF (e.trans (List.nil_append _))).symm tn
  | cons x r=>
   have m59:59∈dc (x::r)++tl t:=List.mem_append_left _ (by
    show 59∈(cJ x++[59,32])++dc r
    simp)
   rw [←e] at m59
   have:∀c∈tl "none",c≠59:=by decide+kernel
   exact absurd rfl (this _ m59)
 ·rw [oE (uT ht 0).1 ge e]
  exact oH h (by omega) (Nat.le_refl 1) fun t' h'=>by
   rw [List.mem_singleton.mp h']
   exact ⟨by omega,yR ht⟩
 ·rw [B8 ge e ht]
  exact q
section
variable {P:Program} {w:World} {K:Frag} {mg:Str→Option Value} {base:Heap}
theorem Ca{fd:FuncData}{c1 c2 c3 T:Addr}(FD:FunD K "law" "law" (defArgs mG) (defBody mG) (defScope mG) [] [] (He.ga K "law") fd)(hb:∀(s:Shared) (v:Value),BindsTo s fd ⟨[v],[]⟩ [("_law_script",v)])(TB:LamX.TabB base mg (He.cT K ("law",none)).1 (yO K)){cs:List (Addr×Addr)}(hcs:∃c,(c,yO K)∈cs)
  (Gt:Gs K mg "_law_try" ak) (Gf:Gs K mg "_law_field" aY) (m1:mg "FrameError"=some (.ref c1)) (m2:mg "Missing"=some (.ref c2)) (m3:mg "NothingLeft"=some (.ref c3))
  (ET:ErrC K T) (xT:PySem.W.exmAny K (.ref T) [.ref c1,.ref c2,.ref c3]=some true)
  (g__law_bag:Gd P w K mg base CX0 1 "_law_bag" iZ (AG K)) (m_range:mg "range"=none) (m_tuple:mg "tuple"=none) (m_len:mg "len"=none) (g__law_names:Gd P w K mg base (L2N.CX P w) 2 "_law_names" gc (lift K qK)) (g__law_pull:Gd P w K mg base (L2N.CX P w) 1 "_law_pull" br (lift K eT))
  (g__law_any_expression:Gd P w K mg base (L2N.CX P w) 5 "_law_any_expression" bH (lift K yF)) (g__law_expression_text:Gd P w K mg base (L2N.CX P w) 2 "_law_expression_text" aV (lift K uN)) (g__law_facts_text:Gd P w K mg base (L2N.CX P w) 3 "_law_facts_text" db (lift K A5)) (g__law_same:Gd P w K mg base (L2N.CX P w) 26 "_law_same" hU (lift K (ui 25)))
  (g_facts_text:Gd P w K mg base (L2N.CX P w) 7 "facts_text" d7 (lift K yN)) (gk_facts_text:Gk P w K mg base (L2N.CX P w) 7 "facts_text" 0 ["facts"] (fun _ zs=>zs) d7 (lift K yN)∧Reo K (fun _ zs=>zs) (fun _ zs=>zs)) (gu_pfacts:GU2 P w K mg base 30 "parse_facts" a8 (rL T)) (guk_pfacts:GUk2 P w K mg base 30 "parse_facts" 0 ["text"] gK a8 (rL T)):LawOkT P w K mg base 63 cs (He.ga K "law"):=by
 refine zL (k:=112) (nn:=9) (d:=("law",none)) (PT:=yO K) (qT:="law.<locals>.<lambda>") FD rfl hcs dz ⟨rfl,by decide,by decide⟩ rfl hb fun s H a ns hr hP hS hl=>⟨⟨_,ps_set (i:=1) dz.nd rfl (.inr rfl) (Cc g__law_bag (hr.mono (by omega)) pass0 (pa_cons (pv 0) pa_nil)),?_⟩,_,(bR (t4 rfl (xj fun _=>(fJ m_range (aa ah ac))) (fun _=>(az (i:=2) dz.nd rfl (.inl rfl)))
   (bR (us fun _=>(aC (i:=3) dz.nd rfl (.inr rfl) (av g__law_names (hr.mono (by omega)) (aw (L2N.takes_of rfl rfl rfl rfl)) (aa (dv 1) (aa ah ac)))))
   (bR (us fun _=>(qt (i:=4) rfl rfl (sw_true rfl rfl rfl (by decide+kernel)) (own:=t7) rfl dz.nd (fJ m_range (aa (av g__law_pull (hr.mono (by omega)) (aw (L2N.takes_of rfl rfl rfl rfl)) (aa (dv 1) (aa ah ac))) ac)) (blkOk_by (own:=t7) (N:=xo) (sc:=defScope mG) (by decide+kernel)) (fun _ _ _ _ _=>(az (i:=9) dz.nd rfl (.inl rfl))) (fun _ _ _ _ _=>cN) (fun _ _ _ _ _=>(av g__law_any_expression (hr.mono (by omega)) md (aa (dv 1) (aa (dv 3) ac))))))
   (bR (us fun _=>(aC (i:=5) dz.nd rfl (.inl rfl) (av g__law_facts_text (hr.mono (by omega)) (aw (L2N.takes_of rfl rfl rfl rfl)) (aa (dv 4) ac))))
   (bR (AS (xh (xg (tY rfl rfl rfl g__law_same (hr.mono (by omega)) (eV (AR (eV (ue fun _=>(wK gk_facts_text (hr.mono (by omega)) (aw (L2N.takes_of rfl rfl rfl rfl)) (tJ (oX m_tuple (aa (dv 4) ac)) wM))) (eV (vx guk_pfacts Reo.gK (hr.mono (by omega)) (uk fun _=>(tJ (dv 5) wM))) ph))) (eV (ue fun _=>(cf (aa (dv 5) (aa (dv 4) ac)))) ph)))))
    (f7 (us fun _=>(aq lX)))
    tZ)
   (bR (us fun _=>(aC (i:=6) dz.nd rfl (.inr rfl) (mq aj (aa (qj (own:=uc) rfl dz.nd (b8 (cP (dv 4) jz (aZ ah))) (blkOk_by (own:=uc) (N:=xo) (sc:=defScope mG) (by decide+kernel)) (fun _ _ _ _ _=>(az (i:=10) dz.nd rfl (.inl rfl))) (fun _ _ _ _ _=>cN) (fun _ _ _ _ _=>(aM aG (av g__law_expression_text (hr.mono (by omega)) md (aa (dv 10) ac)) aj))) ac))))
   (f7 (t4 rfl (xj fun _=>(b8 (cf (aa (bQ (aa aj (aa ah ac))) (aa (bQ (aa aj (aa ah ac))) (aa (bQ (aa aj (aa ah ac))) (aa (bQ (aa aj (aa ah ac))) (aa (bQ (aa aj (aa ah ac))) (aa (bQ (aa aj (aa ah ac))) (aa (bQ (aa aj (aa ah ac))) ac)))))))))) (fun _=>(j9 (n:=2) rfl (aS (az (i:=7) dz.nd rfl (.inr rfl)) (aS (az (i:=8) dz.nd rfl (.inl rfl)) eR))))
    (f7 (AS (xh (xg (tY rfl rfl rfl g__law_same (hr.mono (by omega)) (eV (CY (k:=105) Gt Gf m1 m2 m3 TB rfl (hr.mono (by omega)) (fun A outer s H E f c' hr'=>zK rfl rfl rfl gu_pfacts (hr'.mono (by omega)) (ua fun _=>(aa (aM aG (dv 6) (dv 7)) ac)))) (eV (ue fun _=>(bQ (aa aj (aa (aM aG (dm m_len (aa (dv 6) ac)) (dv 8)) ac)))) ph)))))
     (f7 (us fun _=>(aq lX)))
     tZ))))))))))
  (f7 (By (CN (fun _=>(fX (u64 hr))) (AR (eV (ue fun _=>(av g_facts_text (hr.mono (by omega)) (aw (L2N.takes_of rfl rfl rfl rfl)) (aa (cf ac) ac))) (eV (xq gu_pfacts (hr.mono (by omega)) (ua fun _=>(aa aj ac))) ph))) (ue fun _=>(cf (aa aj (aa (cf ac) ac)))) (nomark _))))),?_⟩
 ·intro D h
  exact ⟨_,rfl,a,ns,rfl,hS,fun p l H1 np s1 B1=>h p l H1 B1 s1⟩
 have ln:=sizeLine_eq
 have mx:mY=20000:=rfl
 refine ⟨by decide,by decide,?_⟩
 refine iS (fun _ en m=>∃v2 v3 v4 v5 v6 v7 v8 v9 v10,en=[none,some (.loc 0),v2,v3,v4,v5,v6,v7,v8,v9,v10]∧m=m0 K) ⟨none,none,none,none,none,none,none,none,none,rfl,rfl⟩ ?_ ?_
 ·rintro j d en m N' hd ⟨v2,v3,v4,v5,v6,v7,v8,v9,v10,rfl,rfl⟩ r1 r2 r3 hn
  refine ⟨0,2,rfl,rfl,by decide,fun stem first at_ h1 h2 h3 h4=>?_⟩
  obtain ⟨zs,hzs⟩:∃zs,zs=eG stem first at_ 2:=⟨_,rfl⟩
  rw [←hzs]
  have zl:zs.length=2:=by
   rw [hzs]
   unfold eG
   rw [List.length_map,List.length_range]
  have zth:∀x∈zs,thS x=true:=by
   rw [hzs]
   exact yC h1 h2 h4 (by omega)
  have znd:zs.Nodup:=by
   rw [hzs]
   exact yB (by omega)
  have zb:∀z∈zs,z.length≤100:=fun z hz=>Nat.le_trans (sU (zth z hz)).2.2 (by decide)
  have ns:=fun x h=>Nat.le_trans (xG zb x h) (show 200≤20000 by decide)
  have ovX:∀ys,zT (jp zs) 6 ys→mR (jp zs) 6 (ys.map itD):=fun ys h=>⟨by rw [List.length_map]; exact h.1,by rw [List.length_map]; exact h.2.1,fun it hi=>by
   obtain ⟨x,hx,rfl⟩:=List.mem_map.mp hi
   exact ⟨x.1,x.2,rfl,h.2.2.1 x hx⟩⟩
  refine ⟨0,7,rfl,rfl,by decide,by decide,fun kk k0 k1=>⟨by omega,by omega,?_⟩⟩
  refine lC (fun _ _ y=>∃x:List D,y=.tup x∧aE false (.tup x)=true∧okX (.tup x)) 0 (by rw [ej]; show 0+_≤_; omega) (fun j d Qt hj hq=>?_) (fun ys ha=>?_)
  ·exact ⟨0,zs,rfl,rfl,by omega,zb,fun xs hx=>hq _ ⟨xs.map itD,rfl,vV zth znd hx,xJ ns (ovX xs hx)⟩⟩
  obtain ⟨xs,rfl,hxl,hxs⟩:=AB ha
  rw [ej] at hxl
  have gx:kW xs:=⟨by omega,hxs⟩
  have h6:xs.length≤6:=by omega
  rw [List.nil_append]
  have ge:∀x∈xs,aE false (.tup x)=true:=fun x hx=>(hxs x hx).1
  have fl:=jZ ge
  have fe:(iM xs).length=(ir xs).length:=List.size_toArray ..
  refine ⟨xs,rfl,gx,?_⟩
  refine ⟨rfl,rfl,xs,.inl rfl,gx,rfl,rfl,AC gx h6 ?_⟩
  have sz2:2≤sizeLine:=by omega
  refine ⟨sz2,sz2,.lst [.str (iM xs),.lst (xs.map .tup)],rfl,AA (n:=24) rfl (v0 gx),?_⟩
  refine ⟨trivial,?_⟩
  refine (?_:lcL (gN 10) tYs (tO2 (oL ja) (l9 uN (tCn (tV 10) tN)) (tK (.str " >= 0; "))) _ (kZ (xs.map .tup) none (some ((3:Nat):Int))) [] _ _)
  rw [tO,←List.map_take]
  obtain ⟨ys,hys⟩:∃ys,ys=xs.take 3:=⟨_,rfl⟩
  rw [←hys]
  have gy:kW ys:=by
   rw [hys]
   exact ⟨by rw [List.length_take]; omega,fun x hx=>hxs x (List.mem_of_mem_take hx)⟩
  have y6:ys.length≤6:=by
   rw [hys,List.length_take]
   omega
  refine nr (f:=fun x=>.str (kK x)) (by show 0+_≤_; omega) (fun x hm Qt hq=>?_) ?_
  ·obtain ⟨g1,g2⟩:=gy.2 x hm
   have xl:=fP g1
   have ol:(bX x).length=(cI x).length:=List.size_toArray ..
   exact ⟨x,rfl,g1,by rw [ol]; show _+7≤_; omega,hq⟩
  have hl:=uW fun x hx=>(gy.2 x hx).1
  have hj:=rN ys
  have hjl:(Txt.join "" (ys.map kK)).length=(dc ys).length:=congrArg List.length hj
  refine (gr (f:=kK) ?_:iR (ys.map fun a=>D.str (kK a)) _)
  have sl:=jY (f:=fun x=>(kK x).length) (n:=187) (xs:=ys) fun x h=>by
   have e:(kK x).length=(cJ x++[59,32]).length:=congrArg List.length (uV x)
   have:=lW (gy.2 x h).1
   rw [e,List.length_append]
   show _+2≤_
   omega
  refine ⟨by rw [List.map_map,List.length_map]; show (ys.map fun x=>(kK x).length).sum+ys.length * 0≤_; omega,?_⟩
  obtain ⟨hd,hhd⟩:∃hd,hd=Txt.join "" (ys.map kK):=⟨_,rfl⟩
  rw [←hhd] at hj hjl ⊢
  have sz2:2≤sizeLine:=by omega
  refine ⟨sz2,sz2,sz2,sz2,sz2,sz2,sz2,by show 7≤sizeLine; omega,?_⟩
  refine iS (fun _ en m=>∃v7 v8,en=[none,some (.loc 0),some (.v d),some (.v (.lst (zs.map .str))),some (.v (.lst (xs.map .tup))),some (.v (.str (iM xs))),some (.v (.str hd)),v7,v8,v9,v10]∧m=m0 K) ⟨v7,v8,rfl,rfl⟩ ?_ ?_
  ·rintro j1 d1 en m N1 hd1 ⟨v7,v8,rfl,rfl⟩ q1 q2 q3 hn1
   obtain ⟨t,k,rfl,ht,t20,tn⟩:=yS (List.mem_of_getElem? hd1)
   refine ⟨rfl,?_⟩
   refine ⟨B9,by omega,?_⟩
   dsimp only [tN,List.set]
   refine AD gy y6 ht t20 tn hhd ?_
   refine ⟨⟨ET.ex,xT⟩,"InvalidText",.int (((dc ys).length+k:Nat):Int),rfl,rfl,rfl,?_⟩
   have hk:((hd.length:Int)+(k:Int))=(((dc ys).length+k:Nat):Int):=by omega
   refine ⟨by omega,sz2,.tup [.str "InvalidText",.int (((dc ys).length+k:Nat):Int)],congrArg (fun n:Int=>[W.v (D.tup [.str "InvalidText",.int (((dc ys).length+k:Nat):Int)]),W.v (D.tup [.str "InvalidText",.int n])]) hk,?_,?_⟩
   ·refine yP (n:=2) ⟨by show 2<2 ^ 20; decide,fun e he=>?_⟩ (by decide)
    simp only [List.mem_cons,List.not_mem_nil,or_false] at he
    rcases he with rfl | rfl <;> exact rfl
   ·exact (hn1 _ _ ⟨_,_,rfl,rfl⟩).1
  ·rintro en m ⟨v7,v8,rfl,rfl⟩
   exact (hn _ _ ⟨_,_,_,_,_,_,_,_,_,rfl,rfl⟩).1
 ·rintro en m ⟨v2,v3,v4,v5,v6,v7,v8,v9,v10,rfl,rfl⟩
  have sz2:2≤sizeLine:=by omega
  refine ⟨Nat.zero_le _,[],.inr rfl,⟨Nat.zero_le _,fun x hx=>nomatch hx⟩,"none",rfl,by decide,fun _=>?_,fun ne=>absurd rfl ne⟩
  refine ⟨sz2,Nat.zero_le _,sz2,?_⟩
  refine ⟨rfl,rfl,by decide,by decide,?_⟩
  have e:deq (.lst [.str (iM []),.lst []]) (.lst [.str "none",.lst []])=true:=by decide+kernel
  show BB.rt (.v (.bl (deq (.lst [.str (iM []),.lst []]) (.lst [.str "none",.lst []])))) (m0 K)
  rw [e]
  exact rfl
end
theorem Dh{P:Program}{w:World}{K:Frag}{h:Heap}{mg:Str→Option Value}{f:Addr}(X:K.In h)(G:h.Ns mainGlobals mg)(hfa:mg ("law":Str)=some (.ref f))(c:He.SaysX fa fn tsL tf exB w h K)(cy:cmW cms K=cv):
  ∀base:Heap,K.In base→base.Ns mainGlobals mg→(∀p∈tf.map (He.cT K),LamX.TabB base mg p.1 p.2)→LawOkT P w K mg base 63 (cTs K) f:=by
 have d:=c.t.d
 obtain ⟨fd,FL⟩:=d.def_ 34 (d:=dD "law" mG) rfl
 have e:=hfa.symm.trans (He.glo_ok X G (d.fact 34 (f:=.glo "law") rfl))
 cases e
 have b:=FunD.bindsA (ps:=["_law_script"]) FL fun _ _ _ _ _ _ us hl=>match us,hl with | [_],_=>rfl
 replace b:∀(s:Shared) (v:Value),BindsTo s fd ⟨[v],[]⟩ [("_law_script",v)]:=fun s v=>b s [v] rfl
 intro base _ _ TBs
 have TB:=TBs _ (List.mem_map.mpr ⟨("law",none),by decide,rfl⟩)
 have G_common_factor:=aO X G d 0 0 "common_factor" dE rfl rfl
 have G_is_whole:=aO X G d 1 1 "is_whole" ji rfl rfl
 have G_is_ratio:=aO X G d 2 2 "is_ratio" jk rfl rfl
 have G_ratio_text:=aO X G d 3 3 "ratio_text" gh rfl rfl
 have G_read_digits:=aO X G d 4 4 "read_digits" fC rfl rfl
 have G_read_positive:=aO X G d 5 5 "read_positive" dF rfl rfl
 have G_is_thing:=aO X G d 6 6 "is_thing" eI rfl rfl
 have G_is_size:=aO X G d 7 7 "is_size" kn rfl rfl
 have G_is_edge:=aO X G d 8 8 "is_edge" kr rfl rfl
 have G_is_factor:=aO X G d 9 9 "is_factor" ia rfl rfl
 have G_check_expression:=aO X G d 10 10 "check_expression" bv rfl rfl
 have G_item_text:=aO X G d 11 11 "item_text" io rfl rfl
 have G_format_expression:=aO X G d 12 12 "format_expression" be rfl rfl
 have G_parse_expression:=aO X G d 13 13 "parse_expression" cC rfl rfl
 have G_facts_text:=aO X G d 14 14 "facts_text" d6 rfl rfl
 have G_parse_facts:=aO X G d 15 15 "parse_facts" bC rfl rfl
 have G__law_bag:=aO X G d 16 16 "_law_bag" iY rfl rfl
 have G__law_pull:=aO X G d 17 17 "_law_pull" gR rfl rfl
 have G__law_of:=aO X G d 18 18 "_law_of" kf rfl rfl
 have G__law_mixed:=aO X G d 19 19 "_law_mixed" gj rfl rfl
 have G__law_same:=aO X G d 20 20 "_law_same" eY rfl rfl
 have G__law_field:=aO X G d 21 21 "_law_field" aY rfl rfl
 have G__law_try:=aO X G d 22 22 "_law_try" ak rfl rfl
 have G__law_low:=aO X G d 23 23 "_law_low" jc rfl rfl
 have G__law_names:=aO X G d 24 24 "_law_names" dU rfl rfl
 have G__law_flat:=aO X G d 25 25 "_law_flat" ii rfl rfl
 have G__law_factor:=aO X G d 26 26 "_law_factor" fA rfl rfl
 have G__law_expression:=aO X G d 27 27 "_law_expression" bJ rfl rfl
 have G__law_size_names:=aO X G d 28 28 "_law_size_names" bK rfl rfl
 have G__law_edge_names:=aO X G d 29 29 "_law_edge_names" bL rfl rfl
 have G__law_ratio_text:=aO X G d 30 30 "_law_ratio_text" cS rfl rfl
 have G__law_any_expression:=aO X G d 31 31 "_law_any_expression" bG rfl rfl
 have G__law_expression_text:=aO X G d 32 32 "_law_expression_text" bA rfl rfl
 have G__law_facts_text:=aO X G d 33 33 "_law_facts_text" bN rfl rfl
 have c_FrameError:=He.glo_ok X G (d.fact 35 (f:=.glo "FrameError") rfl)
 have c_Missing:=He.glo_ok X G (d.fact 36 (f:=.glo "Missing") rfl)
 have c_NothingLeft:=He.glo_ok X G (d.fact 37 (f:=.glo "NothingLeft") rfl)
 have c_InvalidExpression:=He.glo_ok X G (d.fact 38 (f:=.glo "InvalidExpression") rfl)
 have c_InvalidText:=He.glo_ok X G (d.fact 39 (f:=.glo "InvalidText") rfl)
 have c_Reader:=He.glo_ok X G (d.fact 40 (f:=.glo "Reader") rfl)
 have c_ONE:=He.glo_ok X G (d.fact 41 (f:=.glo "ONE") rfl)
 have c_WORDS:=He.glo_ok X G (d.fact 42 (f:=.glo "WORDS") rfl)
 have c_AXES:=He.glo_ok X G (d.fact 43 (f:=.glo "AXES") rfl)
 have c_EDGES:=He.glo_ok X G (d.fact 44 (f:=.glo "EDGES") rfl)
 have c_ROOMS:=He.glo_ok X G (d.fact 45 (f:=.glo "ROOMS") rfl)
 have c_is_expression:=He.glo_ok X G (d.fact 46 (f:=.glo "is_expression") rfl)
 have m_int:=bT X G d 47 "int" rfl
 have m_list:=bT X G d 48 "list" rfl
 have m_len:=bT X G d 49 "len" rfl
 have m_isinstance:=bT X G d 50 "isinstance" rfl
 have m_tuple:=bT X G d 51 "tuple" rfl
 have m_all:=bT X G d 52 "all" rfl
 have m_range:=bT X G d 53 "range" rfl
 have m_dict:=bT X G d 54 "dict" rfl
 have m_bool:=bT X G d 55 "bool" rfl
 have m_str:=bT X G d 56 "str" rfl
 have m_abs:=bT X G d 57 "abs" rfl
 have m_any:=bT X G d 58 "any" rfl
 have m_set:=bT X G d 59 "set" rfl
 have more:=c.more
 unfold exB at more
 simp only [Bool.and_eq_true] at more
 obtain ⟨⟨⟨⟨⟨⟨⟨⟨⟨⟨⟨x1,x2⟩,x3⟩,x4⟩,x5⟩,x6⟩,xOne⟩,xI0⟩,xRc⟩,xRm⟩,xRn⟩,xRs⟩:=more
 obtain ⟨TE3,k1,k2⟩:=qb x1 "InvalidText" (by simp)
 have cx3:=rS x2 "InvalidText" (by simp)
 obtain ⟨TE4,l1,l2⟩:=qb x1 "InvalidExpression" (by simp)
 have e0:=of_decide_eq_true xI0
 have rcl:=zp xRc
 have rna:=Aw xRn
 have SPR:∀m∈(["ahead","take","letters","finish","item","expression"]:List Str),SpecC K (He.ga K "Reader") m:=fun m hm=>qA (List.all_eq_true.mp xRs m hm)
 obtain ⟨fdX,FX⟩:=d.def_ 35 rfl
 obtain ⟨fdE,FE⟩:=d.def_ 36 rfl
 obtain ⟨fdT,FT⟩:=d.def_ 37 rfl
 obtain ⟨fr0,FR0⟩:=d.def_ 38 rfl
 obtain ⟨fr1,FR1⟩:=d.def_ 39 rfl
 obtain ⟨fr2,FR2⟩:=d.def_ 40 rfl
 obtain ⟨fr3,FR3⟩:=d.def_ 41 rfl
 obtain ⟨fr5,FR5⟩:=d.def_ 42 rfl
 obtain ⟨fr6,FR6⟩:=d.def_ 43 rfl
 obtain ⟨fr7,FR7⟩:=d.def_ 44 rfl
 obtain ⟨tG,c_DIGITS⟩:=He.int_ok X G (d.fact 60 rfl)
 obtain ⟨tM,c_ITEMS⟩:=He.int_ok X G (d.fact 61 rfl)
 obtain ⟨tF,c_FACTOR⟩:=He.int_ok X G (d.fact 62 rfl)
 obtain ⟨tC,c_CONST⟩:=He.str_ok X G (d.fact 63 rfl)
 obtain ⟨tE,c_END⟩:=He.str_ok X G (d.fact 64 rfl)
 obtain ⟨tQ,c_LETTERS⟩:=He.str_ok X G (d.fact 65 rfl)
 have kC:eu K 3 (.str "one" tC) (.str km)=true:=by
  show (decide (("one":Str)=km)&&okS km)=true
  decide+kernel
 have kE:eu K 3 (.str " >= 0" tE) (.str " >= 0")=true:=by
  show (decide ((" >= 0":Str)=" >= 0")&&okS " >= 0")=true
  decide+kernel
 have gBag:=qg (P:=P) (w:=w) (base:=base) G__law_bag m_int m_list
 have gPull:=CD (oK (P:=P) (w:=w) (base:=base) G__law_pull m_int m_len)
 have gOf:=sE G__law_of gPull m_len
 have gSame:=pA (P:=P) (w:=w) (base:=base) G__law_same m_isinstance m_tuple m_list m_all m_range m_len m_dict m_int m_bool m_str 25
 have gNames:=nE G__law_names gPull m_range m_int
 have gMixed:=mW G__law_mixed m_len gPull
 have gG:=kj (P:=P) (w:=w) (base:=base) G_common_factor m_abs
 have gLow:=qS (P:=P) (w:=w) (base:=base) G__law_low m_abs
 have gThing:=qU (P:=P) (w:=w) (base:=base) G_is_thing m_len c_WORDS x3 m_isinstance m_str m_all
 have gSize:=sK G_is_size m_isinstance m_str c_AXES x4 gThing
 have gEdge:=sL G_is_edge m_isinstance m_str c_EDGES x5 gThing
 have gWhole:=qX (P:=P) (w:=w) (base:=base) G_is_whole m_isinstance m_bool m_int
 have gRatio:=qZ G_is_ratio gWhole m_len m_isinstance m_tuple gG
 have gFactor:=pF (F:=1000000) G_is_factor c_FACTOR rfl ⟨_,rfl⟩ m_abs gRatio
 have fE:=kx (P:=P) (w:=w) (base:=base) m_len c_ITEMS ⟨_,rfl⟩ c_ROOMS x6 c_CONST kC m_isinstance m_tuple gFactor gEdge gSize
 have GE:Gsd K mg "is_expression" cq [] [("sizes_only",.bl false)]:=⟨_,fdX,c_is_expression,FX⟩
 have gE:=fE.gkwo GE (by simp) (fun D doc pm an cdv ct us mv l1 l2=>match us,mv,l1,l2 with | [_],[_],_,_=>.one rfl rfl rfl)
 have M0:OexM P w K mg base 1 (He.ga K "InvalidExpression") (cb (He.ga K "InvalidExpression") 0 fun _=>[("code",.str "InvalidExpression")]):=⟨TE4.ox,_,_,["self"],l1,l2,gB FE TE4,FE.bindsN fun _ _ _ _ _ _ us hl=>match us,hl with | [_],_=>rfl⟩
 have MT:OexM P w K mg base 1 (He.ga K "InvalidText") (cb (He.ga K "InvalidText") 1 fun vs=>[("at",vs.headD .non),("code",.str "InvalidText")]):=⟨TE3.ox,_,_,["self","at"],k1,k2,kX FT TE3,FT.bindsN fun _ _ _ _ _ _ us hl=>match us,hl with | [_,_],_=>rfl⟩
 have MH:OexH P w K mg base 1 (He.ga K "InvalidText") (cb (He.ga K "InvalidText") 1 fun vs=>[("at",vs.headD .non),("code",.str "InvalidText")]):=⟨TE3.ox,_,_,["self","at"],k1,k2,kI FT TE3,FT.bindsN fun _ _ _ _ _ _ us hl=>match us,hl with | [_,_],_=>rfl⟩
 have gFlat:=pI (P:=P) (w:=w) (base:=base) G__law_flat m_list
 have gAny:=fS G__law_any_expression (jo G__law_edge_names gFlat) (jn G__law_size_names gFlat) (iI G__law_expression gMixed gPull m_tuple (mV G__law_factor gOf gPull gLow))
 have gRt:=nM (P:=P) (w:=w) (base:=base) G_ratio_text m_str
 have gLRt:=jf (P:=P) (w:=w) (base:=base) G__law_ratio_text m_str
 have gChk:=(iH ⟨gE,fun _=>.cons (.bl _) .nil⟩ c_InvalidExpression M0).gd G_check_expression fun _ _ _ _ _ _ us hl=>match us,hl with | [_],_=>rfl
 have gIt:=pY G_item_text m_abs c_CONST kC c_ONE xOne gRt
 have gFe:=iq G_format_expression gChk gIt
 have gRead:=mZ (P:=P) (w:=w) (base:=base) G_read_digits c_DIGITS ⟨_,rfl⟩ m_len m_int c_InvalidText MT
 have gPos:=ky G_read_positive gRead gG c_InvalidText MT
 have gC:GmC P w K mg base 1 "Reader" (He.ga K "Reader") (yi (He.ga K "Reader")):=⟨_,_,_,c_Reader,Bs xRm,FR0.bindsN fun _ _ _ _ _ _ us hl=>match us,hl with | [_,_],_=>rfl,BQ FR0 rcl rna⟩
 have gAhe:=vM rcl (SPR "ahead" (by simp)).meth (FR1.bindsN fun _ _ _ _ _ _ us hl=>match us,hl with | [_,_],_=>rfl) (xX (P:=P) (w:=w) (mg:=mg) (base:=base) FR1 rcl rna)
 have gTak:=vM rcl (SPR "take" (by simp)).meth (FR2.bindsN fun _ _ _ _ _ _ us hl=>match us,hl with | [_,_],_=>rfl) (zW FR2 rcl rna c_InvalidText MT)
 have gLet:=vM rcl (SPR "letters" (by simp)).meth (FR3.bindsN fun _ _ _ _ _ _ us hl=>match us,hl with | [_],_=>rfl) (sP (P:=P) (w:=w) (base:=base) FR3 rcl rna m_len c_LETTERS ⟨_,rfl⟩)
 have gFin:=vM rcl (SPR "finish" (by simp)).meth (FR5.bindsN fun _ _ _ _ _ _ us hl=>match us,hl with | [_],_=>rfl) (vK FR5 rcl rna m_len c_InvalidText MT)
 have gItm:=vM rcl (SPR "item" (by simp)).meth (FR6.bindsN fun _ _ _ _ _ _ us hl=>match us,hl with | [_,_],_=>rfl) (Aa FR6 rcl rna c_ONE xOne c_CONST kC gPos ⟨gE,fun _=>.cons (.bl _) .nil⟩ gAhe gLet gTak c_InvalidText MT)
 have gXpr:=vM rcl (SPR "expression" (by simp)).meth (FR7.bindsN fun _ _ _ _ _ _ us hl=>match us,hl with | [_],_=>rfl) (nX FR7 rcl rna m_tuple gAhe gTak gItm)
 have uChk:=gu0 G_check_expression (vT ⟨gE,fun _=>.cons (.bl _) .nil⟩ c_InvalidExpression M0) fun _ _ _ _ _ _ us hl=>match us,hl with | [_],_=>rfl
 have fPx:=yL (k:=20) (by decide) c_Reader rcl rna gC gXpr gAhe gFin (uChk.mono (by decide)) c_InvalidText MT
 have uPx:=gu0 G_parse_expression fPx fun _ _ _ _ _ _ us hl=>match us,hl with | [_],_=>rfl
 have fPf:=vY (k:=29) (by decide) c_END kE m_len c_InvalidText TE3 e0 (uPx.mono (by decide)) MT MH
 have uPf:=DY G_parse_facts fPf fun _ _ _ _ _ _ us hl=>match us,hl with | [_],_=>rfl
 have gLxt:=fR G__law_expression_text gLRt m_abs
 have gLft:=jv G__law_facts_text gLxt
 have fFt:=nY c_END kE gFe
 have gFt:=fFt.gd G_facts_text (fun _ _ _ _ _ _ us hl=>match us,hl with | [_],_=>rfl)
 have gFk:=fFt.gk G_facts_text 0 ["facts"] (fun _ ws=>ws) (fun _ r=>r) (fun _ _ _ _ _ _ us ws l1 l2=>match us,ws,l1,l2 with | [],[_],_,_=>rfl)
 exact Ca FL b TB ⟨_,zq K⟩ G__law_try G__law_field c_FrameError c_Missing c_NothingLeft TE3 cx3 gBag m_range m_tuple m_len gNames gPull gAny gLxt gLft gSame gFt ⟨gFk,fun _ _ _ _ _ _ _ r=>r⟩ uPf (lx G_parse_facts fPf)
end Fs
open PySem PySem.W PySem.Calls PyProof.Rows
theorem PySem.Challenge.cw_framesure_k60_texts_of_facts_holds : PySem.Challenge.rw_framesure_k60_texts_of_facts.Holds := by
 w_on; o_law
 refine Fs.CQ (r := OpenLaw.row PySem.Challenge.rw_framesure_k60_texts_of_facts) (q := view (OpenLaw.row PySem.Challenge.rw_framesure_k60_texts_of_facts).prog [60]) (H := Fs.hk) (ob := Fs.ob) (M := 16000) (loose := Fs.loose) (d := HandSHeadRun.topDef (OpenLaw.row PySem.Challenge.rw_framesure_k60_texts_of_facts).prog 60) (kwd := []) Fs.CI
  (by kernel_rfl) (fun s => by kernel_rfl) Fs.run (by kernel_rfl) (by kernel_rfl) (by kernel_rfl) (by rfl) (by first | assumption | decide +kernel) (by decide +kernel) ⟨rfl, rfl, rfl, rfl, rfl, by decide +kernel⟩ ?hw ?hc
 case hw => w_witness2
 case hc =>
  refine Fs.BE (l := PySem.Challenge.rw_framesure_k60_texts_of_facts) (n := 63) rfl (by decide) (by kernel_rfl) ?F
  intro w mg fa h Y G hmg0
  obtain ⟨K, KX, c, cy⟩ := Y
  have hmg : mg ("law" : PySem.Str) = some (.ref fa) := by
   have e : (HandSHeadRun.topDef (OpenLaw.row PySem.Challenge.rw_framesure_k60_texts_of_facts).prog 60).name = ("law" : PySem.Str) := by kernel_rfl
   rw [← e]
   exact hmg0
  refine ⟨K, KX, Fs.cTs K, fun q hq => ?_, fun q hq => ?_, fun q hq => ?_, Fs.Dh (P := (PySem.Challenge.rw_framesure_k60_texts_of_facts).prog) (w := w) KX G hmg c cy⟩
  ·obtain ⟨p, hp, rfl⟩ := Fs.inT hq
   exact c.empty p hp
  ·obtain ⟨p, hp, rfl⟩ := Fs.inT hq
   exact c.out p hp
  ·obtain ⟨p, hp, rfl⟩ := Fs.inT hq
   exact PySem.W.codeHd_of_K KX (c.hd p hp)
