import PyProof.Rows.All
import Wide.All
import OpenK.AllK
import Wide.FinOn
import Lean
import PySem.Challenge.RW_pf0218_01
set_option Elab.async false
set_option maxRecDepth 100000
set_option maxHeartbeats 4000000
set_option linter.all false
set_option compiler.extract_closed false
set_option bootstrap.genMatcherCode false
set_option genInjectivity false
set_option genSizeOfSpec false
set_option tactic.hygienic false
namespace Mine
open PySem PySem.W PySem.Calls PyProof.Rows

theorem bq {p:Prop}(h:¬p→False):p:=Classical.byContradiction h
theorem ft {p:Prop}(h:false=true):p:=absurd h Bool.false_ne_true
theorem tf {p:Prop}(h:true=false):p:=absurd h.symm Bool.false_ne_true
theorem p6 {m i:Nat}(m3:m≤3)(hi:i≤m):i+1<6:=Nat.lt_of_le_of_lt (Nat.succ_le_succ (Nat.le_trans hi m3)) (by decide)
theorem vy {b w S L:Nat}(d:b≤w∧w≤S∧S≤L)(e:0=min (S - b) (L - b)):b=S:=by
 rw [Nat.min_eq_left (Nat.sub_le_sub_right d.2.2 b)] at e
 exact Nat.le_antisymm (Nat.le_trans d.1 d.2.1) (Nat.le_of_sub_eq_zero e.symm)
theorem jp {a b:Nat}:2*a+1≠2*b:=by omega
noncomputable def Lr {α:Type}(a b:α)(c:Value→α)(f:Flow):α:= @Flow.rec (λ_=>α) a b a c f
noncomputable abbrev F1:Value→Shared→Prop:=λ_ _=>False
noncomputable def jB:List String:=["bytearray.__contains__","bytearray.__mod__","bytearray.__rmod__","_struct.pack_into.held","bytearray.find.held"]++Builtin.Bytes.decodersThatHold
noncomputable def Iq:Code→Bool
 | .builtin id _=> !jB.contains id
 |_=>true
noncomputable def qc (l:List (Code×Pos)):Prop:=∀x∈l,Iq x.1=true
noncomputable def aT {α:Type}(M:Model)(A:Around)(t:Sem α)(Q:α→Shared→Prop)(s:Shared):Prop:=
 ∀Γ p,Γ.In A→Iq Γ.code=true→qc Γ.below→Sem.wp M Γ t (λa _ s'=>Q a s') (λ_ _ _=>False) p s
noncomputable def bK (M:Model)(A:Around)(c:Code)(R:Result→Shared→Prop)(s:Shared):Prop:=
 ∀Γ p,Γ.code=c→Γ.Below A→qc Γ.below→wpCode M Γ R p s
section
variable {α β:Type}{M:Model}{A:Around}{s:Shared}
theorem aT.of {t:Sem α}{Q:α→Shared→Prop}(h:wpAny M A t Q F1 s):aT M A t Q s:=λΓ p hΓ _ _=>h Γ p hΓ
theorem bK.of {c:Code}{R:Result→Shared→Prop}(h:codeAny M A c R s):bK M A c R s:=λΓ p hc hΓ _=>h Γ p hc hΓ
theorem a8 {a:α}{Q:α→Shared→Prop}(h:Q a s):aT M A (pure a) Q s:=λ_ _ _ _ _=>h
theorem a9 {t:Sem α}{Q Q':α→Shared→Prop}(h:aT M A t Q s)(hQ:∀a s,Q a s→Q' a s):aT M A t Q' s:=
 λΓ p hΓ h1 h2=>Sem.wp_mono M Γ t (λa _ s=>hQ a s) (λ_ _ _ e=>e) p s (h Γ p hΓ h1 h2)
theorem a7 {m:Sem α}{f:α→Sem β}{Q:β→Shared→Prop}(h:aT M A m (λa s'=>aT M A (f a) Q s') s):aT M A (m>>=f) Q s:=λΓ p hΓ h1 h2=>by
 rw [Sem.wp_bind']
 exact Sem.wp_mono M Γ m (λa p' s' h'=>h' Γ p' hΓ h1 h2) (λ_ _ _ h'=>h') p s (h Γ p hΓ h1 h2)
theorem bC {m:Sem α}{f:α→Sem β}{Q:β→Shared→Prop}(h:wpAny M A m (λa s'=>aT M A (f a) Q s') F1 s):aT M A (m>>=f) Q s:=a7 (aT.of h)
theorem cS {m:Sem α}{k:Value→Sem Unit}{Q:α→Shared→Prop}(h:aT M A m Q s):aT M A (m.onRaise k) Q s:=λΓ p hΓ h1 h2=>by
 rw [Sem.wp_onRaise]
 exact Sem.wp_mono M Γ m (λ_ _ _ h'=>h') (λe p' s' h'=>h'.elim) p s (h Γ p hΓ h1 h2)
theorem jy {m:Sem α}{Q:Except Value α→Shared→Prop}(h:aT M A m (λa=>Q (.ok a)) s):aT M A m.attempt Q s:=λΓ p hΓ h1 h2=>by
 rw [Sem.wp_attempt]
 exact Sem.wp_mono M Γ m (λ_ _ _ h'=>h') (λe p' s' h'=>h'.elim) p s (h Γ p hΓ h1 h2)
theorem b0 {vs:List Value}{m:Sem α}{Q:α→Shared→Prop}(h:aT M A m Q s):aT M A (holding vs m) Q s:=
 λΓ p hΓ h1 h2=>by rw [Sem.wp_holding];exact h Γ p hΓ h1 h2
theorem CY {vs:List Value}{m:Sem α}{Q:α→Shared→Prop}(h:aT M A m Q s):aT M A (m.keep vs) Q s:=
 λΓ p hΓ h1 h2=>by rw [Sem.wp_keep];exact h Γ p hΓ h1 h2
theorem bz {pos:Pos}{Q:Unit→Shared→Prop}(h:Q () s):aT M A (standAt pos) Q s:=λ_ _ _ _ _=>h
theorem jO {Q:Unit→Shared→Prop}(h:Q () s):aT M A point Q s:=λ_ _ _ _ _=>h
theorem mh {tag:String}{Q:Unit→Shared→Prop}(h:Q () s):aT M A (rule tag) Q s:=λ_ _ _ _ _=>h
theorem Ge {Q:Setting→Shared→Prop}(h:Q ⟨M.prog,M.w.params⟩ s):aT M A ask Q s:=λ_ _ _ _ _=>h
theorem pA {a:Addr}{o:Obj}{Q:Obj→Shared→Prop}(ho:s.heap.get? a=some o)(h:Q o s):aT M A (load a) Q s:=
 λΓ p _ _ _=>(Sem.wp_load_of M Γ _ p s ho _).mpr h
theorem bJ {t u:Sem α}{Q:α→Shared→Prop}(e:t=u)(h:aT M A u Q s):aT M A t Q s:=by rw [e];exact h
theorem BN {Q:List (Code×Pos)→Shared→Prop}(h:∀st,qc st→Q st s):aT M A stack Q s:=λΓ p hΓ h1 h2=>by
 show Q ((Γ.code,p)::Γ.below) s
 refine h _ λx hx=> ?_
 rcases List.mem_cons.mp hx with rfl|hx
 ·exact h1
 ·exact h2 x hx
theorem fb {c:Code}{R R':Result→Shared→Prop}(h:bK M A c R s)(hR:∀r s,R r s→R' r s):bK M A c R' s:=
 λΓ p hc hΓ hl=>wpCode_mono hR (h Γ p hc hΓ hl)
theorem nv {Γ:Ctx}{p:Pos}(h1:Iq Γ.code=true)(h2:qc Γ.below):qc ((Γ.code,p)::Γ.below):=λx hx=>by
 rcases List.mem_cons.mp hx with rfl|hx
 ·exact h1
 ·exact h2 x hx
theorem zO {c:Code}{h:Option Value}{Q:Flow→Shared→Prop}(hc:bK M (A.mark h) c (λr s'=>match r with| .ok f=>Q f s'| .error _=>False) s)(hnb:h≠some byPass:=by intro x;cases x):
  aT M A (run c h) Q s:=
 λΓ p hΓ h1 h2=>by rw [Sem.wp_run];exact hc _ p rfl (hΓ.enter c h p hnb) (nv h1 h2)
theorem oX {c:Code}{env:Env}{Q:Flow→Shared→Prop}(hc:bK M A c (λr s'=>match r with| .ok f=>Q f s'| .error _=>False) s):aT M A (runOwn c env none) Q s:=by
 unfold runOwn
 exact cS (zO hc)
theorem ik {f:Value}{pos:List Value}{Q:Value→Shared→Prop}(hc:bK M A (.call f ⟨pos,[]⟩) (λr s'=>∃v,r= .ok (.ret v)∧Q v s') s):aT M A (call f pos []) Q s:=
 λΓ p hΓ h1 h2=>by
  show Sem.wp M Γ (runValue _) _ _ p s
  rw [Sem.wp_runValue]
  refine wpCode_mono (λr s' ⟨v,e,q⟩=> ?_) (hc _ p rfl (hΓ.enter _ none p (by intro x;cases x)) (nv h1 h2))
  subst e;exact q
theorem bo {c:Code}{R:Result→Shared→Prop}(nb:Iq c=true)
  (h:aT M (A.under c) (M.den c) (λfin s'=>match fin with| .done f=>R (.ok f) s'| .again c'=>c'.quiet=true∧bK M A c' R s') s):bK M A c R s:=λΓ p hc hΓ hl=>by
 rw [wpCode_iff_wp,hc]
 refine Sem.wp_mono M Γ _ (λfin p' s' h'=> ?_) (λ_ _ _ h'=>h'.elim) p s (h Γ p (hc▸hΓ.in) (by rw [hc];exact nb) hl)
 cases fin with
 |done f=>exact h'
 |again c'=>exact ⟨h'.1,h'.2 (Γ.goto c') p' rfl (hΓ.goto c') hl⟩
theorem kz {c:Code}{R:Result→Shared→Prop}(nb:Iq c=true)(hq:c.quiet=true)(I:Nat→Shared→Prop)
  (turn:∀n s,I n s→aT M (A.under c) (M.den c)
   (λfin s'=>match fin with| .done f=>R (.ok f) s'| .again c'=>(c'=c∧∃m,m<n∧I m s')∨(c'.quiet=true∧bK M A c' R s')) s)
  (n:Nat) (h:I n s):bK M A c R s:=by
 induction n using Nat.strongRecOn generalizing s with
 |ind n ih=>
  refine bo nb (a9 (turn n s h) (λfin s' hf=> ?_))
  cases fin with
  |done f=>exact hf
  |again c'=>
   refine bq λzq=> ?_
   rcases hf with ⟨rfl,m,hm,hI⟩|hf
   ·apply zq;clear zq
    exact ⟨hq,ih m hm hI⟩
   ·apply zq;clear zq
    exact hf
end
section
variable {prog:Program}{w:World}{A:Around}{R:Result→Shared→Prop}{s:Shared}
theorem zd {body env}(h:aT (model prog w) (A.deeper env) (execs body env) (λf s'=>R (.ok (.ret (match f with| .ret v=>v|_=> .none))) s') s):
  bK (model prog w) A (.func body env) R s:=by
 refine bo rfl ?_
 show aT _ (A.deeper env) (do point;match←(execs body env).onRaise (leaving env) with| .ret v=>ret v|_=>ret .none) _ s
 refine a7 (jO (a7 (cS (a9 h (λf s' h'=> ?_)))))
 cases f<;>exact a8 h'
theorem jP {a:Addr}{args:Args}{o:Obj}{fd:FuncData}{body:List Stmt}(hroom:A.depth<recursionLimit)(ho:s.heap.get? a=some o)
  (hd':o.data= .func fd) (hco:fd.scope.isCoroutine=false) (hgen:fd.scope.isGenerator=false) (hbody:fd.body= .stmts body) (hcd:s.heap.CodeRec fd.code fd.qualname)
  (h:aT (model prog w) A.in1 (bindArgs fd args) (λbinds s₁=>
   aT (model prog w) A.in1 (newFunctionEnv fd.scope fd.globals fd.closure binds (fd.qualname++".<locals>.") (some a) fd.code none fd.builtins)
    (λenv s₂=>s₂.heap.NoLimit∧bK (model prog w) A (.func body env) R s₂) s₁) s):
  bK (model prog w) A (.call (.ref a) args) R s:=by
 refine bo rfl ?_
 show aT _ A.in1 (callAny (.ref a) args) _ s
 simp only [callAny]
 refine a7 (pA ho ?_)
 refine bq λzq=> ?_
 obtain ⟨c,oc,vs,tq,hc,hoc,hdc,hq⟩:=hcd
 apply zq;clear zq
 simp only [hd',callFunction,hco,hgen,hbody,hc]
 rw [hc] at h
 refine bC (m:=field (.ref c) 1) (wpAny_field hoc hdc hq (a7 (a8 ?_)))
 exact a7 (a9 h (λbinds s₁ h₁=>a7 (a9 h₁ (λenv s₂ h₂=>bC (wpAny_enterFrame h₂.1 hroom
  (a8 (And.intro rfl h₂.2)))))))
theorem wg {stmts env}(h:aT (model prog w) A (execs stmts env) (λf s'=>R (.ok f) s') s):bK (model prog w) A (.block stmts env) R s:=by
 refine bo rfl ?_
 rw [Around.under_of_weight rfl]
 show aT _ A (do return Fin.done (←(execs stmts env).onRaise (λx=>do noteFrame x env;theTreesLotGoes x))) _ s
 exact a7 (cS (a9 h λf s' h'=>a8 h'))
theorem qH {target it body orelse env}(I:Nat→Shared→Prop)
  (turn:∀n s,I n s→aT (model prog w) A (pyNext it) (λr s₁=>match r with
   |none=>aT (model prog w) A (execs orelse env) (λf s₃=>R (.ok f) s₃) s₁
   |some v=>aT (model prog w) A (letOwnedTupleGo target it v) (λ_ s₁'=>
     aT (model prog w) A (assign target env v) (λ_ s₂=>aT (model prog w) A (execs body env) (Lr (λs₃=>∃m,m<n∧I m s₃) (R (.ok .next)) λv=>R (.ok (.ret v))) s₂) s₁') s₁) s)
  (n:Nat) (h:I n s):bK (model prog w) A (.forLoop target it body orelse env) R s:=by
 refine kz rfl rfl I (λn s hI=> ?_) n h
 show aT _ A ((forTurn target it body orelse env).onRaise (λx=>do noteFrame x env;theTreesLotGoes x)) _ s
 refine cS ?_
 simp only [forTurn]
 refine a7 (bz (a7 (cS (a9 (turn n s hI) (λr s₁ h₁=> ?_)))))
 cases r with
 |none=>exact a8 (.inr ⟨rfl,wg h₁⟩)
 |some v=>
  refine a7 (a9 h₁ (λ_ s₁' h₁'=> ?_))
  refine a7 (a9 h₁' (λ_ s₂ h₂=>a7 (a9 h₂ (λf s₃ h₃=> ?_))))
  cases f with
  |next=>exact a8 (.inl ⟨rfl,h₃⟩)
  |cont=>exact a8 (.inl ⟨rfl,h₃⟩)
  |brk=>exact a8 h₃
  |ret v=>exact a8 h₃
theorem ot {test body orelse env}(I:Nat→Shared→Prop)
  (turn:∀n s,I n s→
   aT (model prog w) A (isTrue test env (eval test env)) (λb s₂=>
    if b then aT (model prog w) A (execs body env) (Lr (λs₃=>∃m,m<n∧I m s₃) (R (.ok .next)) λv=>R (.ok (.ret v))) s₂
    else aT (model prog w) A (execs orelse env) (λf s₃=>R (.ok f) s₃) s₂) s)
  (n:Nat) (h:I n s):bK (model prog w) A (.whileLoop test body orelse env) R s:=by
 refine kz rfl rfl I (λn s hI=> ?_) n h
 show aT _ A ((whileTurn test body orelse env).onRaise (λx=>do noteFrame x env;theTreesLotGoes x)) _ s
 refine cS ?_
 simp only [whileTurn]
 refine a7 (a9 (turn n s hI) (λb s₂ h₂=> ?_))
 cases b with
 |false=>
  simp only [Bool.false_eq_true,if_false] at h₂⊢
  exact a7 (a9 h₂ (λf s₃ h₃=>a8 h₃))
 |true=>
  simp only [if_true] at h₂⊢
  refine a7 (a9 h₂ (λf s₃ h₃=> ?_))
  cases f with
  |next=>exact a8 (.inl ⟨rfl,h₃⟩)
  |cont=>exact a8 (.inl ⟨rfl,h₃⟩)
  |brk=>exact a8 h₃
  |ret v=>exact a8 h₃
theorem FQ {env:Env} {target iter body orelse pos}{Q:Flow→Shared→Prop}
  (h:aT (model prog w) A (eval iter env) (λx s₁=>aT (model prog w) A (pyIter x) (λit s₂=>
   bK (model prog w) A (.forLoop target it body orelse env) (λr s'=>match r with| .ok f=>Q f s'| .error _=>False) s₂) s₁) s)
  (hs:∀x,foldedSetIterable iter env x=pure x):aT (model prog w) A (exec (.For target iter body orelse pos) env) Q s:=by
 rw [exec_For]
 exact a7 (bz (a7 (a9 h (λx s₁ h₁=>a7 (bJ (hs x) (a8 (a7 (bz (a7 (b0
  (a9 h₁ (λit s₂ h₂=>oX h₂))))))))))))
theorem Ai {env:Env} {test body orelse pos}{Q:Flow→Shared→Prop}
  (h:bK (model prog w) A (.whileLoop test body orelse env) (λr s'=>match r with| .ok f=>Q f s'| .error _=>False) s):
  aT (model prog w) A (exec (.While test body orelse pos) env) Q s:=by
 rw [exec_While];exact a7 (bz (oX h))
theorem fa {id:String}{args:Args}{b:Builtin}(nb:Iq (.builtin id args)=true)(hq:(Code.builtin id args).quiet=true)(hb:entryFor table id=some b)
  (h:aT (model prog w) A.in1 (checkBuiltinCall id args) (λ_ s₁=>aT (model prog w) (A.under (.builtin id args)) (b args)
   (λfin s'=>match fin with| .done f=>R (.ok f) s'| .again c'=>c'.quiet=true∧bK (model prog w) A c' R s') s₁) s):bK (model prog w) A (.call (.builtin id) args) R s:=by
 refine bo rfl ?_
 show aT _ A.in1 (do checkBuiltinCall id args;again (.builtin id args)) _ s
 refine a7 (a9 h (λ_ s₁ h₁=>a8 (And.intro hq (bo nb ?_))))
 show aT _ _ (match entryFor table id with|some b=>b args|none=>unsupported ((withoutEnding? id "#data").getD id)) _ s₁
 rw [hb];exact h₁
theorem yt {h:Heap} {g d t os}{C:Addr}{rest:List Value}{init:Value}(Y:Makes (model prog w) h C)(hi:Looks (model prog w) h (typeLookup (.ref C) "__init__") (some init))
  (hb:∀self,Looks (model prog w) h (bindSpecial init self) (init,[self])) (hne:(some init !=some (Value.builtin "object.__init__"))=true)
  (hq:bK (model prog w) (A.under (.builtin "type.__call__" ⟨.ref C::rest,[]⟩)) (.call init ⟨.ref (h.objs.size+1)::rest,[]⟩) (λr s'=>r= .ok (.ret .none)∧R (.ok (.ret (.ref (h.objs.size+1)))) s')
   ⟨(h.push emptyDict).push (instObj C h.objs.size),g,d,t,os⟩):
  bK (model prog w) A (.call (.ref C) ⟨rest,[]⟩) R ⟨h,g,d,t,os⟩:=by
 have Y':=Y
 refine bq λzq=> ?_
 obtain ⟨⟨oc,od,cd,sl,hC,e1,e2,e4⟩,made,base,self,top,call,typ⟩:=Y
 apply zq;clear zq
 refine bo rfl ?_
 show aT _ _ (callAny (.ref C) _) _ _
 unfold callAny
 refine a7 (pA hC ?_)
 show aT _ _ (callAny.viaDunder (.ref C) _) _ _
 unfold callAny.viaDunder
 refine bC (call.at ?_)
 dsimp only
 rw [tc_bind]
 refine a7 (a8 (a7 (a8 ?_)))
 refine a8 (a:=Fin.again (.call (.builtin "type.__call__") ⟨.ref C::rest,[]⟩)) (And.intro rfl ?_)
 refine fa rfl (Code.quiet_builtin _ (by decide+kernel)) entry_typeCall (aT.of (check_slot tc_kind tc_split typ (tc_args _ _ _) ?_))
 have hm:Looks (model prog w) h (mroOf (.ref C)) cd.mro:=((Looks.ld (part:=none) hC).andThen .now).andThen .now
 unfold Builtin.«type.__call__»
 dsimp only
 rw [if_neg (by simp)]
 refine bC (hm.at ?_)
 rw [e4]
 simp only [Bool.false_eq_true,if_false]
 refine bC (made.at ?_)
 dsimp only
 refine a7 (a8 ?_)
 refine bC (wpAny_holding (wpAny_call (new_K Y' hi (.inl hne) ?_)))
 have k:∀b o,h.get? b=some o→((h.push emptyDict).push (instObj C h.objs.size)).get? b=some o:=λb o e=>Heap.get?_push_of_some _ (Heap.get?_push_of_some _ e)
 have hx:((h.push emptyDict).push (instObj C h.objs.size)).get? (h.objs.size+1)=some (instObj C h.objs.size):=by
  have:=Heap.get?_push_size (o:=instObj C h.objs.size) (h.push emptyDict) rfl
  rwa [Heap.size_push] at this
 have t1:Looks (model prog w) ((h.push emptyDict).push (instObj C h.objs.size)) (typeOf (.ref (h.objs.size+1))) (.ref C):=(Looks.ld hx).andThen .now
 have s1:=self.keeps k
 have i1:=hi.keeps k
 have b1:=(hb (.ref (h.objs.size+1))).keeps k
 dsimp only
 unfold isInstance callSpecial? specialOf
 refine a7 (bC (t1.at (aT.of (s1.at ?_))))
 simp only [Bool.not_true,Bool.false_eq_true,if_false]
 refine a7 (b0 (a7 (bC (t1.at (aT.of (i1.at ?_))))))
 dsimp only
 refine b0 (bC (b1.at ?_))
 dsimp only
 refine a7 (ik (fb hq λr s' ⟨e,z⟩=>⟨.none,e,?_⟩))
 refine a8 ?_
 dsimp only
 exact a8 z
theorem vX {α:Type}{c:Prop} [Decidable c] {pos:Pos}{k:PUnit→Sem α}{Q:α→Shared→Prop}(h:aT (model prog w) A (k ()) Q s):
  aT (model prog w) A (if c then (standAt pos>>=k) else k ()) Q s:=by
 split
 ·exact a7 (bz h)
 ·exact h
noncomputable def gZ (M:Model)(A:Around)(Q:Value→Shared→Prop):Option (Value→Sem Unit)→Value→Addr→Shared→Prop
 |none,acc,C,s'=>∃m,s'.heap.Ns C m∧∀h',Heap.SameBut C s'.heap h'→Q acc {s' with heap:=h'}
 |some u,acc,C,s'=>aT M A (u acc) (λ_ s''=>∃m,s''.heap.Ns C m∧∀h',Heap.SameBut C s''.heap h'→Q .none {s'' with heap:=h'}) s'
theorem me {env:Env}{e:Expr}{scope:Scope}{pos:Pos}{newAcc first:Sem Value}{g:Comprehension}{gs:List Comprehension}{cl:List (Str×Addr)}{use:Option (Value→Sem Unit)}{Q:Value→Shared→Prop}
  (hcl:clausesOf e=g::gs) (hs:∀x,foldedSetIterable g.iter env x=pure x) (hclos:closureFor scope env=pure cl)
  (hkind:scope.kind= .function) (hnames:∀x∈scope.names,x.2= .local→scope.names.lookup x.1=some .local)
  (h:aT (model prog w) A first (λx s₁=>aT (model prog w) A (pyIter x) (λit s₂=>aT (model prog w) A newAcc (λacc s₃=>
   aT (model prog w) A (newFunctionEnv scope env.globals cl [] env.qual none .none (some env)) (λcenv s₄=>
    bK (model prog w) A (.compStart e 0 it acc {cenv with scope:=relabel scope env}) (λr s'=>∃f,r= .ok f∧gZ (model prog w) A Q use acc cenv.locals s') s₄) s₃) s₂) s₁) s):
  aT (model prog w) A (comprehension e scope env pos newAcc false first use) Q s:=by
 unfold comprehension
 rw [hclos,hcl]
 refine a7 (a9 h (λx s₁ h₁=> ?_))
 refine a7 (bz (a7 (bJ (hs x) (a8 ?_))))
 refine a7 (b0 (a9 h₁ (λit s₂ h₂=> ?_)))
 refine vX (a7 (a9 h₂ (λacc s₃ h₃=> ?_)))
 refine a7 (a8 (a7 (a9 h₃ (λcenv s₄ h₄=> ?_))))
 dsimp only
 have hv:∀x∈(scope.names.filter λx=>(x.2== .local||x.2== .cell)&&x.1 !=(".0":Str)).reverse,x.2= .local→
   Env.kindOf {cenv with scope:=relabel scope env} x.1=some .local:=λx hx hl=>lookup_relabel_local (hnames x (List.mem_filter.mp (List.mem_reverse.mp hx)).1 hl)
 have hv':∀x∈(scope.names.filter λx=>(x.2== .local||x.2== .cell)&&x.1 !=(".0":Str)).reverse.drop 1++(scope.names.filter λx=>(x.2== .local||x.2== .cell)&&x.1 !=(".0":Str)).reverse.take 1,
   x.2= .local→Env.kindOf {cenv with scope:=relabel scope env} x.1=some .local:=λx hx hl=>by
  rcases List.mem_append.mp hx with h1|h1
  ·exact hv x (List.mem_of_mem_drop h1) hl
  ·exact hv x (List.mem_of_mem_take h1) hl
 refine b0 (a7 (jy (b0 (zO (fb h₄ λr s' hr=> ?_)))))
 obtain ⟨f,rfl,hr⟩:=hr
 cases use with
 |none=>
  refine bq λzq=> ?_
  obtain ⟨m,hn,hr⟩:=hr
  apply zq;clear zq
  exact a7 (b0 (aT.of (wpAny_comp_letGo (cenv:={cenv with scope:=relabel scope env}) hkind _ s' m hv hn λh' m' _ hs'=>a8 (hr h' hs'))))
 |some u=>
  refine a7 (mh (a7 (b0 (a9 hr (λ_ s'' hr'=> ?_)))))
  obtain ⟨m,hn,hr'⟩:=hr'
  exact bC (wpAny_comp_letGo (cenv:={cenv with scope:=relabel scope env}) hkind _ s'' m hv' hn λh' m' _ hs'=>a8 (hr' h' hs'))
theorem oD {elt target iter ifs rest scope pos it acc env}
  (h0:bK (model prog w) A (.compLoop (.ListComp elt (⟨target,iter,ifs,0⟩::rest) scope pos) 0 it acc env) R s)
  (h:∀A',aT (model prog w) A' (pyIter it) (λit' s'=>bK (model prog w) A (.compLoop (.ListComp elt (⟨target,iter,ifs,0⟩::rest) scope pos) 0 it' acc env) R s') s):
  bK (model prog w) A (.compStart (.ListComp elt (⟨target,iter,ifs,0⟩::rest) scope pos) 0 it acc env) R s:=by
 refine bo rfl ?_
 show aT _ _ ((compStart (.ListComp elt (⟨target,iter,ifs,0⟩::rest) scope pos) 0 it acc env).onRaise (λx=>do noteFrame x env;standAt theWindowsPlace)) _ s
 refine cS ?_
 unfold compStart
 show aT _ _ (ask>>=_) _ s
 refine a7 (Ge ?_)
 split
 ·first
   |exact a7 (a8 (a8 (And.intro rfl h0)))
   |exact a8 (And.intro rfl h0)
 ·first
   |exact a7 (mh (a7 (bz (a7 (a9 (h _) (λit' s' h'=>a8 (And.intro rfl h')))))))
   |(refine a7 (mh ?_);show aT _ _ (standAt iter.pos>>=_) _ s;exact a7 (bz (a7 (a9 (h _) (λit' s' h'=>a8 (And.intro rfl h'))))))
noncomputable def kQ (ifs:List Expr)(env:Env):Sem Bool:=forIn ifs true λc r=>if r=true then do let ok←isTrue c env (eval c env);pure (ForInStep.yield ok) else pure (ForInStep.yield r)
theorem pJ {env:Env}{elt target iter:Expr}{ifs:List Expr}{scope:Scope}{pos:Pos}{it acc:Value}(I:Nat→Shared→Prop)
  (turn:∀n s,I n s→aT (model prog w) A (pyNext it) (λr s₁=>match r with
   |none=>R (.ok .next) s₁
   |some v=>aT (model prog w) A (letOwnedTupleGo target it v) (λ_ s₁'=>aT (model prog w) A (assign target env v) (λ_ s₂=>
     aT (model prog w) A (kQ ifs env) (λok s₃=>
      if ok=true then aT (model prog w) A (eval elt env) (λx s₄=>
       aT (model prog w) A (call (.builtin "list.append") [acc,x]) (λ_ s₅=>∃m,m<n∧I m s₅) s₄) s₃
      else ∃m,m<n∧I m s₃) s₂) s₁') s₁) s)
  (n:Nat) (h:I n s):
  bK (model prog w) A (.compLoop (.ListComp elt [⟨target,iter,ifs,0⟩] scope pos) 0 it acc env) R s:=by
 refine kz rfl rfl I (λn s hI=> ?_) n h
 show aT _ A ((compTurn (.ListComp elt [⟨target,iter,ifs,0⟩] scope pos) 0 it acc env).onRaise (λx=>do noteFrame x env;theTreesLotGoes x)) _ s
 refine cS ?_
 rw [compTurn_list]
 refine a7 (bz (a7 (a9 (turn n s hI) (λr s₁ h₁=> ?_))))
 cases r with
 |none=>exact a8 h₁
 |some v=>
  refine a7 (a9 h₁ (λ_ s₁' h₁'=> ?_))
  refine a7 (a9 h₁' (λ_ s₂ h₂=>a7 (a9 h₂ (λok s₃ h₃=> ?_))))
  cases ok with
  |false=>exact a8 (.inl ⟨rfl,h₃⟩)
  |true=>
   exact a7 (a7 (a9 h₃ (λx s₄ h₄=>a7 (a9 h₄ (λ_ s₅ h₅=>a8 (a8 (.inl ⟨rfl,h₅⟩)))))))
theorem lE {P:Heap→Prop}{pos:Pos}{f:Value}{first:List Value}{args:List (Bool×Sem Value)}{Q:Value→Shared→Prop}(hplain:args.any (·.1)=false)
  (hk:∀h,P h→∃k,(k=Keeper.frame∨k=Keeper.machine∨k=Keeper.boundFrame)∧Looks (model prog w) h (keeperOf f) k)
  (h:aT (model prog w) A (evalArgs f true args []) (λa s₁=>P s₁.heap∧a.kw=[]∧aT (model prog w) A (call f (first++a.pos) []) Q s₁) s):aT (model prog w) A (callWith pos f first args []) Q s:=by
 unfold callWith
 refine a7 (b0 (a9 h (λa s₁ h₁=>a7 (bz ?_))))
 refine bq λzq=> ?_
 obtain ⟨hP,hkw,h₁⟩:=h₁
 obtain ⟨k,hk',L⟩:=hk _ hP
 apply zq;clear zq
 simp only [hplain,List.any_nil,Bool.or_false,hkw]
 refine bC (L.here ?_)
 have tail:∀{t:Sem Value},aT (model prog w) A t Q s₁→aT (model prog w) A (t>>=λr=>holding [r] point>>=λ_=>pure r) Q s₁:=
  λht=>a7 (a9 ht (λr s₂ hr=>a7 (b0 (jO (a8 hr)))))
 have marked (mk:Value):aT (model prog w) A (callMarked mk f (first++a.pos) []) Q s₁:=by unfold callMarked;exact CY h₁
 rcases hk' with rfl|rfl|rfl<;>dsimp only<;>first|exact tail h₁|(split<;>first|exact tail h₁|exact tail (marked _))
end
noncomputable def bN {α β:Type}(R:α→β→Prop):List α→List β→Prop
 |[],[]=>True
 |a::l,b::r=>R a b∧bN R l r
 |_,_=>False
set_option genInjectivity true in
inductive V where
 |none|bool (b:Bool)|int (i:Int)|str (x:Str)|bytes (b:List UInt8)|ref (a:Addr)|bi (i:String)|ty (n:String)|other
noncomputable def er:Value→V
 | .none=> .none
 | .bool b=> .bool b
 | .int i _=> .int i
 | .str x _=> .str x
 | .bytes b _=> .bytes b.toList
 | .ref a=> .ref a
 | .builtin i=> .bi i
 | .type n=> .ty n
 |_=> .other
inductive O where
 |inst (C d:Addr)
 |attrs (kv:List (Str×V))
 |list (vs:List V)
 |tup (vs:List V)
 |barr (b:List UInt8)
 |idict (kv:List (Int×V))
 |fields (c:String) (vs:List V)
noncomputable def pU (P:Params)(x:Str×V)(e:DictEntry):Prop:=(∃t,e.key= .str x.1 t)∧e.hash=PyData.keyHash P x.1∧er e.val=x.2
noncomputable def Jy (x:Int×V)(e:DictEntry):Prop:=(∃t,e.key= .int x.1 t)∧e.hash=hashInt x.1∧er e.val=x.2
noncomputable def RO (P:Params):O→Obj→Prop
 | .inst C d,o=>o=instObj C d
 | .attrs kv,o=>∃es n,o=dictOf es n∧bN (pU P) kv es∧kv.length≤900∧(kv.map (·.1)).Nodup
 | .list vs,o=>∃ws n,o=listOf ws n∧ws.toList.map er=vs∧vs.length≤100000
 | .tup vs,o=>∃ws n,o={cls:= .type "tuple",data:= .seq ws n}∧ws.toList.map er=vs∧vs.length≤100000
 | .barr b,o=>o={cls:= .type "bytearray",data:= .bytearray b.toArray 0}∧b.length≤100000
 | .idict kv,o=>∃es n,o=dictOf es n∧bN Jy kv es∧kv.length≤900∧(kv.map (·.1)).Nodup
 | .fields c vs,o=>∃ws,o={cls:= .type c,data:= .fields ws}∧ws.toList.map er=vs
theorem RO.free {P:Params}{o:O}{x:Obj}(h:RO P o x):x.isFreed=false:=by
 cases o<;>simp only [RO] at h
 ·subst h;rfl
 ·obtain ⟨_,_,rfl,_⟩:=h;rfl
 ·obtain ⟨_,_,rfl,_⟩:=h;rfl
 ·obtain ⟨_,_,rfl,_⟩:=h;rfl
 ·obtain ⟨rfl,_⟩:=h;rfl
 ·obtain ⟨_,_,rfl,_⟩:=h;rfl
 ·obtain ⟨_,rfl,_⟩:=h;rfl
noncomputable abbrev H:=Addr→Option O
noncomputable def H.put (h:H)(a:Addr)(o:O):H:=λx=>if x=a then some o else h x
@[simp] theorem H.put_same (h:H)(a:Addr)(o:O):h.put a o a=some o:=by simp [H.put]
theorem H.put_ne {h:H}{a b:Addr}{o:O}(x:b≠a):h.put a o b=h b:=by simp [H.put,x]
theorem H.put_put (h:H)(a:Addr)(o o':O):(h.put a o).put a o'=h.put a o':=by
 funext x;simp only [H.put];split<;>rfl
structure Wd where
 prog:Program
 w:World
 base:Heap
 os:OsState
 K:Frag
 hK:K.In base
 mg:Str→Option Value
 mb:Str→Option Value
 g:base.Ns mainGlobals mg
 b:base.Ns builtinsNs mb
 nolimit:base.NoLimit
 builtins:∀x:Str,x≠ "__name__"→mb x=bootBuiltins x
 low:base.get? sysModules≠none
noncomputable abbrev Fz:=Addr→Option Obj
structure HR (W:Wd)(fr:Fz)(hp:H)(s:Shared):Prop where
 hb:∀a o,W.base.get? a=some o→fr a=some o
 keep:∀a o,fr a=some o→s.heap.get? a=some o
 dom:∀a o,hp a=some o→fr a=none∧∃x,s.heap.get? a=some x∧RO W.w.params o x
 gens:s.gens= #[]
 os:s.os=W.os
 size:W.base.objs.size≤s.heap.objs.size
section
variable {W:Wd}{fr:Fz}{hp:H}{s:Shared}
theorem HR.stays (R:HR W fr hp s):W.base.StaysIn s.heap:=λa o e=>R.keep a o (R.hb a o e)
theorem HR.In (R:HR W fr hp s):W.K.In s.heap:=λa o e=>R.stays a o (W.hK a o e)
theorem HR.tok (R:HR W fr hp s)(t:Nat):HR W fr hp {s with toks:=t}:=⟨R.hb,R.keep,R.dom,R.gens,R.os,R.size⟩
theorem HR.get (R:HR W fr hp s){a:Addr}{o:O}(e:hp a=some o):∃x,s.heap.get? a=some x∧RO W.w.params o x:=(R.dom a o e).2
theorem HR.notSys (R:HR W fr hp s){a:Addr}{o:O}(e:hp a=some o):(a==sysModules)=false:=by
 refine beq_eq_false_iff_ne.mpr λq=> ?_
 subst q
 have h:=(R.dom _ _ e).1
 cases g:W.base.get? sysModules with
 |none=>exact W.low g
 |some x=>rw [R.hb _ _ g] at h;cases h
theorem HR.less {hp':H}(R:HR W fr hp s)(h:∀a o,hp' a=some o→hp a=some o):HR W fr hp' s:=⟨R.hb,R.keep,λa o e=>R.dom a o (h a o e),R.gens,R.os,R.size⟩
theorem HR.new_none (R:HR W fr hp s):hp s.heap.objs.size=none:=by
 cases e:hp s.heap.objs.size with
 |none=>rfl
 |some o=>obtain ⟨_,x,hx,_⟩:=R.dom _ _ e;exact absurd (Heap.lt_size hx) (Nat.lt_irrefl _)
theorem HR.new_fr (R:HR W fr hp s):fr s.heap.objs.size=none:=by
 cases e:fr s.heap.objs.size with
 |none=>rfl
 |some o=>exact absurd (Heap.lt_size (R.keep _ _ e)) (Nat.lt_irrefl _)
theorem HR.push (R:HR W fr hp s)(x:Obj):HR W fr hp {s with heap:=s.heap.push x}:=
 ⟨R.hb,λa o e=>Heap.get?_push_of_some _ (R.keep a o e),λa o e=>⟨(R.dom a o e).1,let ⟨x,hx,r⟩:=(R.dom a o e).2;⟨x,Heap.get?_push_of_some _ hx,r⟩⟩,R.gens,R.os,by show _≤(s.heap.push x).objs.size;simp only [Heap.size_push];exact Nat.le_succ_of_le R.size⟩
theorem HR.alloc (R:HR W fr hp s){o:O}{x:Obj}(r:RO W.w.params o x):HR W fr (hp.put s.heap.objs.size o) {s with heap:=s.heap.push x}:=by
 have R':=R.push x
 refine ⟨R'.hb,R'.keep,λa o' e=> ?_,R'.gens,R'.os,R'.size⟩
 by_cases h:a=s.heap.objs.size
 ·subst h
  rw [H.put_same] at e;cases e
  exact ⟨R.new_fr,x,Heap.get?_push_size _ r.free,r⟩
 ·rw [H.put_ne h] at e;exact R'.dom a o' e
theorem HR.upd (R:HR W fr hp s){a:Addr}{o o':O}{h':Heap}{tk:Nat}{x:Obj}(e:hp a=some o)(hs:Heap.SameBut a s.heap h')(hx:h'.get? a=some x)(r:RO W.w.params o' x):
  HR W fr (hp.put a o') {s with heap:=h',toks:=tk}:=by
 have hf:=(R.dom a o e).1
 refine ⟨R.hb,λb ob eb=> ?_,λb ob eb=> ?_,R.gens,R.os,by show _≤h'.objs.size;simp only [hs.1];exact R.size⟩
 ·have:b≠a:=by rintro rfl;rw [hf] at eb;cases eb
  exact (hs.2 b this).trans (R.keep b ob eb)
 ·by_cases h:b=a
  ·subst h;rw [H.put_same] at eb;cases eb;exact ⟨hf,x,hx,r⟩
  ·rw [H.put_ne h] at eb
   refine bq λzq=> ?_
   obtain ⟨q,y,hy,ry⟩:=R.dom b ob eb
   apply zq;clear zq
   exact ⟨q,y,(hs.2 b h).trans hy,ry⟩
theorem HR.side (R:HR W fr hp s){a:Addr}{h':Heap}{tk:Nat}(hs:Heap.SameBut a s.heap h')(hf:fr a=none)(hn:hp a=none):HR W fr hp {s with heap:=h',toks:=tk}:=by
 refine ⟨R.hb,λb ob eb=>(hs.2 b (by rintro rfl;rw [hf] at eb;cases eb)).trans (R.keep b ob eb),λb ob eb=> ?_,R.gens,R.os,by show _≤h'.objs.size;rw [hs.1];exact R.size⟩
 refine bq λzq=> ?_
 obtain ⟨q,y,hy,ry⟩:=R.dom b ob eb
 apply zq;clear zq
 exact ⟨q,y,(hs.2 b (by rintro rfl;rw [hn] at eb;cases eb)).trans hy,ry⟩
noncomputable def iV (hp:H)(s:Shared):Fz:=λa=>match hp a with|some _=>none|none=>s.heap.get? a
theorem HR.ice (R:HR W fr hp s):HR W (iV hp s) hp s:=by
 refine ⟨λa o e=> ?_,λa o e=> ?_,λa o e=>⟨?_,(R.dom a o e).2⟩,R.gens,R.os,R.size⟩
 ·unfold iV
  cases h:hp a with
  |some o'=>have:=(R.dom a o' h).1;rw [R.hb a o e] at this;cases this
  |none=>exact R.stays a o e
 ·unfold iV at e;split at e
  ·cases e
  ·exact e
 ·unfold iV;rw [e]
theorem HR.thaw {hp':H}{s':Shared}(R:HR W fr hp s)(R':HR W (iV hp s) hp' s'):HR W fr hp' s':=by
 have key:∀a o,fr a=some o→iV hp s a=some o:=λa o e=>by
  unfold iV
  cases h:hp a with
  |some o'=>have:=(R.dom a o' h).1;rw [e] at this;cases this
  |none=>exact R.keep a o e
 refine ⟨R.hb,λa o e=>R'.keep a o (key a o e),λa o e=>⟨?_,(R'.dom a o e).2⟩,R'.gens,R'.os,R'.size⟩
 cases h:fr a with
 |none=>rfl
 |some x=>have:=(R'.dom a o e).1;rw [key a x h] at this;cases this
end
noncomputable def TW (W:Wd)(A:Around){α:Type}(t:Sem α)(hp:H)(Q:α→H→Prop):Prop:=
 ∀fr s,HR W fr hp s→wpAny (model W.prog W.w) A t (λv s'=>∃hp',HR W fr hp' s'∧Q v hp') F1 s
section
variable {W:Wd}{A:Around}{α β:Type}{hp:H}
theorem TW.pure {a:α}{Q:α→H→Prop}(h:Q a hp):TW W A (pure a) hp Q:=λ_ _ R=>wpAny_pure ⟨hp,R,h⟩
theorem TW.bind {t:Sem α}{f:α→Sem β}{Q:β→H→Prop}(h:TW W A t hp λa hp'=>TW W A (f a) hp' Q):TW W A (t>>=f) hp Q:=λfr s R=>
 wpAny_bind (wpAny_mono (h fr s R) (λ_ s' z=>z.elim λ_ z=>z.2 fr s' z.1) λ_ _ e=>e)
theorem TW.mono {t:Sem α}{Q Q':α→H→Prop}(h:TW W A t hp Q)(k:∀a hp',Q a hp'→Q' a hp'):TW W A t hp Q':=λfr s R=>
 wpAny_mono (h fr s R) (λa s' z=>z.elim λhp' z=>⟨hp',z.1,k a hp' z.2⟩) λ_ _ e=>e
end
structure FR (W:Wd)(env:Env)(fr:Fz)(vars:List (Str×V))(hp:H)(s:Shared):Prop where
 hr:HR W fr hp s
 ns:∃m,s.heap.Ns env.locals m∧∀n x,vars.lookup n=some x→env.kindOf n=some .local→∃v,m n=some v∧er v=x
 cell:∀n c,env.cells.lookup n=some c→∃v,s.heap.IsCell c v∧(env.kindOf n=some .cell∨env.kindOf n=some .free)∧(∀x,vars.lookup n=some x→∃v',v=some v'∧er v'=x)
 has:∀n x,vars.lookup n=some x→env.kindOf n=some .local∨(env.cells.lookup n).isSome=true
 Lfree:fr env.locals=none∧hp env.locals=none
 own:∀n c,env.cells.lookup n=some c→hp c=none∧c≠env.locals∧(env.func.isSome=true→env.kindOf n=some .cell→fr c=none)
 apart:∀n n' c,env.cells.lookup n=some c→env.cells.lookup n'=some c→n=n'
 above:W.base.objs.size≤env.locals
section
variable {W:Wd}{A:Around}{α β:Type}{env:Env}{fr:Fz}{vars:List (Str×V)}{hp:H}{s:Shared}
theorem FR.of_ice {hp':H}{s':Shared}(F:FR W env fr vars hp s)(R':HR W (iV hp s) hp' s'):FR W env fr vars hp' s':=by
 have stay:∀a o,hp a=none→s.heap.get? a=some o→s'.heap.get? a=some o∧hp' a=none:=λa o n e=>by
  have k:iV hp s a=some o:=by unfold iV;rw [n];exact e
  refine ⟨R'.keep a o k,?_⟩
  cases q:hp' a with
  |none=>rfl
  |some x=>have:=(R'.dom a x q).1;rw [k] at this;cases this
 refine ⟨F.hr.thaw R',?_,λn c e=> ?_,F.has,⟨F.Lfree.1,?_⟩,λn c e=> ?_,F.apart,F.above⟩
 ·refine bq λzq=> ?_
  obtain ⟨m,⟨o,es,ep,ho,r⟩,h⟩:=F.ns
  apply zq;clear zq
  exact ⟨m,⟨o,es,ep,(stay _ _ F.Lfree.2 ho).1,r⟩,h⟩
 ·refine bq λzq=> ?_
  obtain ⟨v,⟨o,ho,hd⟩,r⟩:=F.cell n c e
  apply zq;clear zq
  exact ⟨v,⟨o,(stay _ _ (F.own n c e).1 ho).1,hd⟩,r⟩
 ·refine bq λzq=> ?_
  obtain ⟨m,⟨o,es,ep,ho,r⟩,h⟩:=F.ns
  apply zq;clear zq
  exact (stay _ _ F.Lfree.2 ho).2
 ·refine bq λzq=> ?_
  obtain ⟨v,⟨o,ho,hd⟩,r⟩:=F.cell n c e
  apply zq;clear zq
  exact ⟨(stay _ _ (F.own n c e).1 ho).2,(F.own n c e).2⟩
theorem FR.tok (F:FR W env fr vars hp s)(t:Nat):FR W env fr vars hp {s with toks:=t}:=⟨F.hr.tok t,F.ns,F.cell,F.has,F.Lfree,F.own,F.apart,F.above⟩
theorem FR.less {vars':List (Str×V)}(F:FR W env fr vars hp s)(h:∀n x,vars'.lookup n=some x→vars.lookup n=some x):FR W env fr vars' hp s:=
 ⟨F.hr,F.ns.imp λm z=>⟨z.1,λn x e=>z.2 n x (h n x e)⟩,λn c e=>(F.cell n c e).imp λv z=>⟨z.1,z.2.1,λx q=>z.2.2 x (h n x q)⟩,λn x e=>F.has n x (h n x e),F.Lfree,F.own,F.apart,F.above⟩
noncomputable def EW (W:Wd)(A:Around)(env:Env)(vars:List (Str×V)){α:Type}(t:Sem α)(hp:H)(Q:α→H→Prop):Prop:=
 ∀fr s,FR W env fr vars hp s→aT (model W.prog W.w) A t (λv s'=>∃hp',FR W env fr vars hp' s'∧Q v hp') s
noncomputable def SW (W:Wd)(A:Around)(env:Env){α:Type}(t:Sem α)(vars:List (Str×V))(hp:H)(Q:α→List (Str×V)→H→Prop):Prop:=
 ∀fr s,FR W env fr vars hp s→aT (model W.prog W.w) A t (λv s'=>∃vars' hp',FR W env fr vars' hp' s'∧Q v vars' hp') s
theorem EW.lift {t:Sem α}{Q:α→H→Prop}(h:TW W A t hp Q):EW W A env vars t hp Q:=λfr s F=>
 aT.of (wpAny_mono (h _ s F.hr.ice) (λ_ _ z=>z.elim λhp' z=>⟨hp',F.of_ice z.1,z.2⟩) λ_ _ e=>e)
theorem EW.pure {a:α}{Q:α→H→Prop}(h:Q a hp):EW W A env vars (pure a) hp Q:=EW.lift (TW.pure h)
theorem EW.bind {t:Sem α}{f:α→Sem β}{Q:β→H→Prop}(h:EW W A env vars t hp λa hp'=>EW W A env vars (f a) hp' Q):EW W A env vars (t>>=f) hp Q:=λfr s R=>
 a7 (a9 (h fr s R) (λ_ s' z=>z.elim λ_ z=>z.2 fr s' z.1))
theorem EW.mono {t:Sem α}{Q Q':α→H→Prop}(h:EW W A env vars t hp Q)(k:∀a hp',Q a hp'→Q' a hp'):EW W A env vars t hp Q':=λfr s R=>
 a9 (h fr s R) (λa s' z=>z.elim λhp' z=>⟨hp',z.1,k a hp' z.2⟩)
theorem EW.hold {t:Sem α}{vs:List Value}{Q:α→H→Prop}(h:EW W A env vars t hp Q):EW W A env vars (holding vs t) hp Q:=λfr s R=>b0 (h fr s R)
theorem EW.at_ {pos:Pos}{Q:Unit→H→Prop}(h:Q () hp):EW W A env vars (standAt pos) hp Q:=λfr s R=>bz ⟨hp,R,h⟩
theorem EW.point {Q:Unit→H→Prop}(h:Q () hp):EW W A env vars point hp Q:=λfr s R=>jO ⟨hp,R,h⟩
theorem TW.hold {t:Sem α}{vs:List Value}{Q:α→H→Prop}(h:TW W A t hp Q):TW W A (holding vs t) hp Q:=λfr s R=>wpAny_holding (h fr s R)
theorem TW.at_ {pos:Pos}{Q:Unit→H→Prop}(h:Q () hp):TW W A (standAt pos) hp Q:=λfr s R=>wpAny_standAt ⟨hp,R,h⟩
theorem TW.point {Q:Unit→H→Prop}(h:Q () hp):TW W A point hp Q:=λfr s R=>wpAny_point ⟨hp,R,h⟩
theorem SW.of_EW {t:Sem α}{Q:α→List (Str×V)→H→Prop}(h:EW W A env vars t hp λa hp'=>Q a vars hp'):SW W A env t vars hp Q:=λfr s F=>
 a9 (h fr s F) (λa s' z=>z.elim λhp' z=>⟨vars,hp',z⟩)
theorem SW.bind {t:Sem α}{f:α→Sem β}{Q:β→List (Str×V)→H→Prop}(h:SW W A env t vars hp λa vars' hp'=>SW W A env (f a) vars' hp' Q):SW W A env (t>>=f) vars hp Q:=λfr s R=>
 a7 (a9 (h fr s R) (λ_ s' z=>z.elim λ_ z=>z.elim λ_ z=>z.2 fr s' z.1))
theorem SW.mono {t:Sem α}{Q Q':α→List (Str×V)→H→Prop}(h:SW W A env t vars hp Q)(k:∀a vars' hp',Q a vars' hp'→Q' a vars' hp'):SW W A env t vars hp Q':=λfr s R=>
 a9 (h fr s R) (λa s' z=>z.elim λvars' z=>z.elim λhp' z=>⟨vars',hp',z.1,k a vars' hp' z.2⟩)
theorem SW.pure {a:α}{Q:α→List (Str×V)→H→Prop}(h:Q a vars hp):SW W A env (pure a) vars hp Q:=λ_ _ R=>a8 ⟨vars,hp,R,h⟩
theorem SW.hold {t:Sem α}{vs:List Value}{Q:α→List (Str×V)→H→Prop}(h:SW W A env t vars hp Q):SW W A env (holding vs t) vars hp Q:=λfr s R=>b0 (h fr s R)
theorem SW.at_ {pos:Pos}{Q:Unit→List (Str×V)→H→Prop}(h:Q () vars hp):SW W A env (standAt pos) vars hp Q:=λfr s R=>bz ⟨vars,hp,R,h⟩
theorem SW.point {Q:Unit→List (Str×V)→H→Prop}(h:Q () vars hp):SW W A env point vars hp Q:=λfr s R=>jO ⟨vars,hp,R,h⟩
theorem SW.eb {t:Sem α}{f:α→Sem β}{Q:β→List (Str×V)→H→Prop}(h:EW W A env vars t hp λa hp'=>SW W A env (f a) vars hp' Q):SW W A env (t>>=f) vars hp Q:=SW.bind (SW.of_EW h)
noncomputable def fC (n:Str)(x:V):List (Str×V)→List (Str×V)
 |[]=>[(n,x)]
 |(k,v)::r=>if n=k then (k,x)::r else (k,v)::fC n x r
theorem cW (n k:Str)(x:V):∀l:List (Str×V),(fC n x l).lookup k=if k=n then some x else l.lookup k
 |[]=>by
  simp only [fC,List.lookup_cons,List.lookup_nil]
  by_cases h:k=n
  ·simp [h]
  ·simp [h,beq_eq_false_iff_ne.mpr h]
 |(k',v)::r=>by
  have ih:=cW n k x r
  simp only [fC]
  by_cases h:n=k'
  ·subst h
   rw [if_pos rfl,List.lookup_cons,List.lookup_cons]
   by_cases q:k=n
   ·subst q;simp
   ·simp [q,beq_eq_false_iff_ne.mpr q]
  ·rw [if_neg h,List.lookup_cons,List.lookup_cons,ih]
   by_cases q:k=k'
   ·subst q;simp [Ne.symm h]
   ·simp [beq_eq_false_iff_ne.mpr q]
theorem wM {n:Str}{x:V}{Q:Value→H→Prop}(hk:env.scope.kind= .function)(hl:env.kindOf n=some .local)(hv:vars.lookup n=some x)
  (h:∀v,er v=x→Q v hp):EW W A env vars (loadName env n) hp Q:=λfr s F=>by
 refine bq λzq=> ?_
 obtain ⟨m,N,k⟩:=F.ns
 obtain ⟨v,hm,hx⟩:=k n x hv hl
 apply zq;clear zq
 exact aT.of (wpAny_loadName_local hk hl N hm ⟨hp,F,h v hx⟩)
theorem oP {n:Str}{x:V}{Q:Value→H→Prop}(hk:env.scope.kind= .function)(hl:env.kindOf n=some .cell∨env.kindOf n=some .free)(hv:vars.lookup n=some x)
  (hn:(n==("__classdict__":Str))=false) (h:∀v,er v=x→Q v hp):EW W A env vars (loadName env n) hp Q:=λfr s F=>by
 have hc:(env.cells.lookup n).isSome=true:=by
  rcases F.has n x hv with q|q
  ·rcases hl with e|e<;>rw [e] at q<;>cases q
  ·exact q
 refine bq λzq=> ?_
 obtain ⟨c,hc⟩:=Option.isSome_iff_exists.mp hc
 obtain ⟨v,hcell,_,k⟩:=F.cell n c hc
 obtain ⟨v',rfl,hx⟩:=k x hv
 rcases hl with hl|hl
 ·apply zq;clear zq
  exact aT.of (wpAny_loadName_cell hk hl hc hcell ⟨hp,F,h v' hx⟩)
 ·apply zq;clear zq
  exact aT.of (wpAny_loadName_free hk hl hc hcell ⟨hp,F,h v' hx⟩ hn)
theorem Ed {n:Str}{v:Value}{Q:Unit→List (Str×V)→H→Prop}(hk:env.scope.kind= .function)(hl:env.kindOf n=some .local)(h:Q () (fC n (er v) vars) hp):
  SW W A env (storeName env n v) vars hp Q:=λfr s F=>by
 refine bq λzq=> ?_
 obtain ⟨m,N,k⟩:=F.ns
 apply zq;clear zq
 refine aT.of ?_
 refine wpAny_storeName_local hl N (λh' N' hs=>⟨_,hp,⟨F.hr.side hs F.Lfree.1 F.Lfree.2,⟨_,N',λn' x e hl'=> ?_⟩,λn' c e=> ?_,λn' x e=> ?_,F.Lfree,F.own,F.apart,F.above⟩,h⟩)
  (by rw [hk];rfl)
 ·rw [cW] at e
  by_cases q:n'=n
  ·subst q;rw [if_pos rfl] at e;cases e;exact ⟨v,by simp,rfl⟩
  ·rw [if_neg q] at e
   obtain ⟨v',a,b⟩:=k n' x e hl'
   exact ⟨v',by simp [q,a],b⟩
 ·refine bq λzq=> ?_
  obtain ⟨v',hc,kd,k'⟩:=F.cell n' c e
  apply zq;clear zq
  refine ⟨v',hc.sameBut hs (F.own n' c e).2.1,kd,λx q=> ?_⟩
  rw [cW] at q
  by_cases z:n'=n
  ·subst z;rw [hl] at kd;rcases kd with y|y<;>cases y
  ·rw [if_neg z] at q;exact k' x q
 ·rw [cW] at e
  by_cases q:n'=n
  ·have q:=q.symm;subst q;exact .inl hl
  ·rw [if_neg q] at e;exact F.has n' x e
theorem qZ {n:Str}{c:Addr}{v:Value}{Q:Unit→List (Str×V)→H→Prop}(hfn:env.func.isSome=true)(hk:env.scope.kind= .function)(hl:env.kindOf n=some .cell)(hc:env.cells.lookup n=some c)
  (h:Q () (fC n (er v) vars) hp):SW W A env (storeName env n v) vars hp Q:=λfr s F=>by
 refine bq λzq=> ?_
 obtain ⟨v₀,hcell,_,_⟩:=F.cell n c hc
 apply zq;clear zq
 have hfr:=(F.own n c hc).2.2 hfn hl
 refine aT.of ?_
 refine wpAny_storeName_cell hk hl hc hcell λh' hcell' hs=>⟨_,hp,⟨F.hr.side (tk:=s.toks) hs hfr (F.own n c hc).1,?_,λn' c' e=> ?_,λn' x e=> ?_,F.Lfree,F.own,F.apart,F.above⟩,h⟩
 ·obtain ⟨m,N,k⟩:=F.ns
  refine ⟨m,N.sameBut hs (Ne.symm (F.own n c hc).2.1),λn' x e hl'=> ?_⟩
  rw [cW] at e
  by_cases q:n'=n
  ·have q:=q.symm;subst q;rw [hl] at hl';cases hl'
  ·rw [if_neg q] at e;exact k n' x e hl'
 ·by_cases q:n'=n
  ·subst q;rw [hc] at e;cases e
   refine ⟨_,hcell',.inl hl,λx e=> ?_⟩
   rw [cW,if_pos rfl] at e;cases e;exact ⟨v,rfl,rfl⟩
  ·have z:c'≠c:=λy=>q (F.apart n' n c (y▸e) hc)
   refine bq λzq=> ?_
   obtain ⟨v',a,kd,b⟩:=F.cell n' c' e
   apply zq;clear zq
   refine ⟨v',a.sameBut hs z,kd,λx y=> ?_⟩
   rw [cW,if_neg q] at y;exact b x y
 ·rw [cW] at e
  by_cases q:n'=n
  ·subst q;exact .inr (by rw [hc];rfl)
  ·rw [if_neg q] at e;exact F.has n' x e
theorem BE {n:Str}{v:Value}{Q:Value→H→Prop}(hk:env.scope.kind= .function)(hx:env.kindOf n=some .globalImplicit)(hg:env.globals=mainGlobals)(e:nsIn W.K mainGlobals n=some (some v))(h:Q v hp)
  :EW W A env vars (loadGlobal env n) hp Q:=λfr s F=>
 aT.of (loadGlobal_global (hg▸W.g.keeps F.hr.stays) (mg_of W.hK W.g e) ⟨hp,F,h⟩)
theorem xM {n:Str}{v:Value}{Q:Value→H→Prop}(hk:env.scope.kind= .function)(hx:env.kindOf n=some .globalImplicit)(hg:env.globals=mainGlobals)(hb:env.builtins=builtinsNs)
  (e:nsIn W.K mainGlobals n=some none) (hv:bootBuiltins n=some v) (hn:n≠ "__name__") (h:Q v hp):EW W A env vars (loadGlobal env n) hp Q:=λfr s F=>
 aT.of (loadGlobal_builtin (hg▸W.g.keeps F.hr.stays) (mg_none_of W.hK W.g e) (hb▸W.b.keeps F.hr.stays) ((W.builtins n hn).trans hv) ⟨hp,F,h⟩)
end
noncomputable def gJ (k:Nat)(A:Around):Prop:=A.depth+2*k≤900∧A.units+20*k≤9000∧A.handled=none
theorem gJ.le {j k:Nat}{A:Around}(h:gJ k A)(l:j≤k):gJ j A:=⟨by have:=h.1;exact Nat.le_trans (Nat.add_le_add_left (Nat.mul_le_mul_left _ l) _) this,by have:=h.2.1;exact Nat.le_trans (Nat.add_le_add_left (Nat.mul_le_mul_left _ l) _) this,h.2.2⟩
theorem gJ.in1 {k:Nat}{A:Around}(h:gJ (k+1) A):gJ k A.in1:=⟨by have:=h.1;simp only [Around.in1_depth];exact Nat.le_trans (Nat.add_le_add_left (Nat.mul_le_mul_left _ (Nat.le_succ _)) _) this,by have:=h.2.1;simp only [Around.in1_units];lia,h.2.2⟩
theorem gJ.deeper {k:Nat}{A:Around}{env:Env}(h:gJ (k+1) A):gJ k (A.deeper env):=⟨by have:=h.1;simp only [Around.deeper];lia,by have:=h.2.1;simp only [Around.deeper];lia,h.2.2⟩
theorem gJ.depth {k:Nat}{A:Around}(h:gJ k A):A.depth<recursionLimit:=by have:=h.1;unfold recursionLimit;lia
theorem gJ.units {k:Nat}{A:Around}(h:gJ k A):A.units<cLine:=by have:=h.2.1;unfold cLine;lia
noncomputable def V.nb:V→Bool
 | .bi _=>false
 |_=>true
theorem sG {v:Value}(h:(er v).nb=true):handedIn v=true:=by cases v<;>first|rfl|cases h
@[elab_as_elim] theorem bN.ind {α β:Type}{R:α→β→Prop}{P:List α→List β→Prop}(n:P [] [])(c:∀a b l r,R a b→bN R l r→P l r→P (a::l) (b::r)){l:List α}{r:List β}(h:bN R l r):P l r:=by
 induction l generalizing r with
 |nil=>cases r with
  |nil=>exact n
  |cons=>exact h.elim
 |cons a l ih=>cases r with
  |nil=>exact h.elim
  |cons b r=>exact c a b l r h.1 h.2 (ih h.2)
theorem pU.key {P:Params}{p:Str×V}{e:DictEntry}(h:pU P p e)(name:Str):e.key.isStr name=(p.1==name):=h.1.elim λt hk=>by rw [hk];rfl
theorem Bo {P:Params}{name:Str}{kv:List (Str×V)}{es:List DictEntry}(h:bN (pU P) kv es):
  (match kv.lookup name with
   |some x=>∃e,es.find? (·.key.isStr name)=some e∧er e.val=x
   |none=>es.find? (·.key.isStr name)=none):=
 bN.ind rfl (λp e r es h _ ih=>by
  rw [List.lookup_cons,List.find?_cons,h.key]
  by_cases q:p.1=name
  ·rw [q,beq_self_eq_true];exact ⟨e,rfl,h.2.2⟩
  ·rw [beq_eq_false_iff_ne.mpr q,beq_eq_false_iff_ne.mpr (Ne.symm q)];exact ih) h
theorem nP {P:Params}{kv:List (Str×V)}{es:List DictEntry}(h:bN (pU P) kv es):es.any (·.refKey)=false:=
 bN.ind (P:=λ_ es=>es.any (·.refKey)=false) rfl (λp e r es h _ ih=>by
  rw [List.any_cons,ih,Bool.or_false]
  exact h.1.elim λt hk=>by unfold DictEntry.refKey;rw [hk]) h
set_option tactic.hygienic true in
theorem wu {P:Params}{name:Str}{kv:List (Str×V)}{es:List DictEntry}(h:bN (pU P) kv es):
  (match kv.lookup name with
   |some x=>∃v,getL name es=some (some v)∧er v=x
   |none=>getL name es=some none):=by
 have f:=Bo (name:=name) h
 unfold getL
 split at f
 ·rename_i x hx
  refine bq λzq=> ?_
  obtain ⟨e,he,hv⟩:=f
  apply zq;clear zq
  rw [he];exact ⟨_,rfl,hv⟩
 ·rename_i hx
  rw [f,nP h];rfl
theorem bN.length {α β:Type}{R:α→β→Prop}:∀{l:List α}{r:List β},bN R l r→l.length=r.length
 |[],[],_=>rfl
 |[],_::_,h=>h.elim
 |_::_,[],h=>h.elim
 |_::_,_::_,h=>by rw [List.length_cons,List.length_cons,bN.length h.2]
theorem Cg {P:Params}{name:Str}{t:Tok}{v:Value}{kv:List (Str×V)}{es:List DictEntry}(h:bN (pU P) kv es):bN (pU P) (fC name (er v) kv) (putL name (PyData.keyHash P name) (.str name t) v es):=
 bN.ind ⟨⟨⟨t,rfl⟩,rfl,rfl⟩,trivial⟩ (λp e r es h h2 ih=>by
  unfold fC putL
  rw [h.key]
  by_cases q:p.1=name
  ·rw [q,beq_self_eq_true,if_pos rfl,if_pos rfl]
   exact ⟨⟨q▸h.1,q▸h.2.1,rfl⟩,h2⟩
  ·rw [beq_eq_false_iff_ne.mpr q,if_neg (Ne.symm q),if_neg Bool.false_ne_true]
   exact ⟨h,ih⟩) h
theorem rm (n:Str)(x:V):∀l:List (Str×V),(fC n x l).map (·.1)=if n∈l.map (·.1) then l.map (·.1) else l.map (·.1)++[n]
 |[]=>by simp [fC]
 |(k,v)::r=>by
  have ih:=rm n x r
  unfold fC
  by_cases h:n=k
  ·subst h;simp
  ·rw [if_neg h,List.map_cons,List.map_cons,ih]
   by_cases q:n∈r.map (·.1)
   ·rw [if_pos q,if_pos (List.mem_cons_of_mem _ q)]
   ·rw [if_neg q,if_neg (λz=>(List.mem_cons.mp z).elim h q)];rfl
theorem pB {n:Str}{x:V}{l:List (Str×V)}(h:(l.map (·.1)).Nodup):((fC n x l).map (·.1)).Nodup:=by
 rw [rm]
 split
 ·exact h
 ·rename_i q
  exact List.nodup_append.mpr ⟨h,by simp,λa ha b hb=>by rw [List.mem_singleton] at hb;subst hb;exact λe=>q (e▸ha)⟩
theorem gS (n:Str)(x:V):∀l:List (Str×V),(fC n x l).length≤l.length+1
 |[]=>by simp [fC]
 |(k,v)::r=>by
  have:=gS n x r
  unfold fC;split<;>simp<;>omega
noncomputable def yx (K:Frag)(C:Addr)(name:Str):Bool:=plainGet K C name&&hasDictIn K C&&(match findIn K (.ref C) name with|some a=>noGet K a|none=>false)
noncomputable def Ez (K:Frag)(C:Addr)(name:Str):Bool:=(findIn K (.ref C) "__setattr__"==some (some (.builtin "object.__setattr__")))&&plainOver K C&&(takerIn K C name==some none)&&hasDictIn K C
noncomputable def yS (K:Frag)(C:Addr)(name:Str)(f:Addr):Bool:=plainGet K C name&&(findIn K (.ref C) name==some (some (.ref f)))&&isFn K (.ref f)
noncomputable def fm (K:Frag)(C fI:Addr):Bool:=makesIn K C&&(findIn K (.ref C) "__init__"==some (some (.ref fI)))&&(typeIn K (.ref fI)==some (.type "function"))
section
variable {W:Wd}{A:Around}{α β:Type}{hp:H}{a C d:Addr}{kv:List (Str×V)}{name:Str}
theorem tx {fr:Fz}{s:Shared}(R:HR W fr hp s)(h1:hp a=some (.inst C d))(h2:hp d=some (.attrs kv)):
  ∃es n,InstAt s.heap a (instObj C d) C (some (dictOf es n))∧s.heap.get? d=some (dictOf es n)∧bN (pU W.w.params) kv es∧kv.length≤900∧(kv.map (·.1)).Nodup:=by
 refine bq λzq=> ?_
 obtain ⟨x,hx,r⟩:=R.get h1
 obtain ⟨y,hy,es,n,r2,q,l⟩:=R.get h2
 apply zq;clear zq
 subst r r2
 exact ⟨es,n,⟨hx,rfl,rfl,hy⟩,hy,q,l⟩
set_option tactic.hygienic true in
theorem pu {x:V}{b:Bool}{Q:Value→H→Prop}(h1:hp a=some (.inst C d))(h2:hp d=some (.attrs kv))(ok:yx W.K C name=true)(hl:kv.lookup name=some x)(nb:x.nb=true)
  (h:∀v,er v=x→Q v hp):TW W A (getAttr (.ref a) name b) hp Q:=λfr s R=>by
 refine bq λzq=> ?_
 obtain ⟨es,n,I,_,q,_⟩:=tx R h1 h2
 apply zq;clear zq
 unfold yx at ok
 simp only [Bool.and_eq_true] at ok
 refine bq λzq=> ?_
 obtain ⟨⟨o1,o2⟩,o3⟩:=ok
 apply zq;clear zq
 split at o3
 ·rename_i at_ ha
  have g:=wu (name:=name) q
  rw [hl] at g
  obtain ⟨v,g,e⟩:=g
  exact get_value R.In I (plainGet_of o1).1 (findObj_own o2 ha o3 g) (sG (e▸nb)) ⟨hp,R.tok _,h v e⟩
 ·cases o3
theorem s5 {f:Addr}{pl:Sem Bool}{Q:Value×List Value→H→Prop}(h1:hp a=some (.inst C d))(h2:hp d=some (.attrs kv))(ok:yS W.K C name f=true)(hl:kv.lookup name=none)
  (h:Q (.ref f,[.ref a]) hp):TW W A (getMethod (.ref a) name pl) hp Q:=λfr s R=>by
 refine bq λzq=> ?_
 obtain ⟨es,n,I,_,q,_⟩:=tx R h1 h2
 apply zq;clear zq
 unfold yS at ok
 simp only [Bool.and_eq_true,beq_iff_eq] at ok
 refine bq λzq=> ?_
 obtain ⟨⟨o1,o2⟩,o3⟩:=ok
 apply zq;clear zq
 have g:=wu (name:=name) q
 rw [hl] at g
 exact method_fn R.In I (plainGet_of o1).1 (plainGet_of o1).2 o2 (beq_iff_eq.mp o3) (by show (lookIn name (dictOf es n)).map _=_;rw [lookIn_dict,g];rfl) ⟨hp,R,h⟩
theorem qr {v:Value}{Q:Unit→H→Prop}(h1:hp a=some (.inst C d))(h2:hp d=some (.attrs kv))(ok:Ez W.K C name=true)(hz:kv.length≤800)
  (h:Q () (hp.put d (.attrs (fC name (er v) kv)))):TW W A (setAttr (.ref a) name v) hp Q:=λfr s R=>by
 refine bq λzq=> ?_
 obtain ⟨es,n,I,hd,q,_,nd⟩:=tx R h1 h2
 apply zq;clear zq
 unfold Ez at ok
 simp only [Bool.and_eq_true,beq_iff_eq] at ok
 refine bq λzq=> ?_
 obtain ⟨⟨⟨o1,o2⟩,o3⟩,o4⟩:=ok
 apply zq;clear zq
 refine set_plain R.In I o1 (osa_open (s:={s with toks:=s.toks+1}) (R.tok _).In I o2 o3 λb=> ?_)
 refine bq λzq=> ?_
 obtain ⟨cd,hc,hd'⟩:=any_some o4
 apply zq;clear zq
 refine wpAny_bind (wpAny_pure (wpAny_bind (wpAny_bind (wpAny_loadPart I.at_ (wpAny_bind ((looks_clsIn (R.tok (s.toks+1)).In hc).here ?_))))))
 rw [hd']
 refine wpAny_pure (a:=some d) (wpAny_bind (wpAny_pure (wpAny_bind ?_)))
 unfold nsSet
 refine wpAny_bind (wpAny_bind (wpAny_askSetting (wpAny_pure (wpAny_bind (wpAny_mkText (wpAny_bind (wpAny_loadPart hd ?_)))))))
 dsimp only
 have c:(!es.toArray.any (·.key.isStr name)&&es.toArray.any (·.refKey))=false:=by
  rw [←Array.any_toList,←Array.any_toList,nP q,Bool.and_false]
 rw [aRefKeyMayBeTheName_at,c]
 have e:Obj.putName name (PyData.keyHash W.w.params name) (.str name (s.toks+1)) v (dictOf es n)=_:=putName_dict ..
 have q':=Cg (name:=name) (t:=s.toks+1) (v:=v) q
 have len:=gS name (er v) kv
 refine wpAny_updatePart hd ?_
 have D':(s.heap.update d (Obj.putName name (PyData.keyHash W.w.params name) (.str name (s.toks+1)) v)).get? d=some _:=Heap.get?_update_self _ hd (by rw [e];rfl)
 rw [e] at D'
 refine wpAny_bind (wpAny_lookBehind D' (pastItsLine_dict (by rw [List.size_toArray,sizeLine_eq,←q'.length];lia)) ?_)
 exact wpAny_pure ⟨_,R.upd (o':= .attrs (fC name (er v) kv)) h2 (Heap.SameBut.update ..) D' ⟨_,_,rfl,q',by lia,pB nd⟩,h⟩
end
noncomputable def CW (W:Wd)(k:Nat)(f:Addr)(xs:List V)(hp:H)(Q:V→H→Prop):Prop:=
 ∀A fr s vs,gJ k A→HR W fr hp s→vs.map er=xs→bK (model W.prog W.w) A (.call (.ref f) ⟨vs,[]⟩) (λr s'=>∃v hp',r= .ok (.ret v)∧HR W fr hp' s'∧Q (er v) hp') s
structure vo (env:Env)(sc:Scope)(fn:Bool):Prop where
 scope:env.scope=sc
 kind:sc.kind= .function
 globals:env.globals=mainGlobals
 builtins:env.builtins=builtinsNs
 cells:∀n,sc.names.lookup n=some .cell→(env.cells.lookup n).isSome=true
 func:fn=true→env.func.isSome=true
noncomputable def II:Flow→V
 | .ret v=>er v
 |_=> .none
noncomputable def M5 (W:Wd)(k:Nat)(sc:Scope)(body:List Stmt)(vars:List (Str×V))(hp:H)(Q:V→H→Prop):Prop:=
 ∀A env,gJ k A→vo env sc true→SW W A env (execs body env) vars hp (λfl _ hp'=>Q (II fl) hp')
section
variable {W:Wd}{A:Around}{hp:H}{fr:Fz}{s:Shared}
theorem CW.mono {k j:Nat}{f:Addr}{xs:List V}{Q Q':V→H→Prop}(h:CW W k f xs hp Q)(l:k≤j)(q:∀v hp',Q v hp'→Q' v hp'):CW W j f xs hp Q':=λA fr s vs r R e=>
 fb (h A fr s vs (r.le l) R e) λ_ _ z=>z.elim λv z=>z.elim λhp' z=>⟨v,hp',z.1,z.2.1,q _ _ z.2.2⟩
theorem HR.keeps {h':Heap}{tk:Nat}(R:HR W fr hp s)(k:∀b o,s.heap.get? b=some o→h'.get? b=some o)(hs:s.heap.objs.size≤h'.objs.size):HR W fr hp {s with heap:=h',toks:=tk}:=
 ⟨R.hb,λa o e=>k _ _ (R.keep a o e),λa o e=>⟨(R.dom a o e).1,let ⟨x,hx,r⟩:=(R.dom a o e).2;⟨x,k _ _ hx,r⟩⟩,R.gens,R.os,Nat.le_trans R.size hs⟩
theorem wj (kind:Str→Option NameKind)(n:Str)(hl:kind n=some .local):∀(binds:List (Str×Value))(m:Str→Option Value),(binds.map (·.1)).Nodup→
  bindL kind binds m n=(binds.lookup n).or (m n)
 |[],m,_=>rfl
 |(k,v)::r,m,h=>by
  rw [List.map_cons,List.nodup_cons] at h
  unfold bindL
  rw [wj kind n hl r _ h.2,List.lookup_cons]
  by_cases q:n=k
  ·subst q
   have:r.lookup n=none:=by
    cases e:r.lookup n with
    |none=>rfl
    |some x=>exact absurd (List.mem_map_of_mem (f:=(·.1)) (mem_of_lookup e)) h.1
   rw [this,if_pos hl];simp
  ·rw [beq_eq_false_iff_ne.mpr q]
   congr 1
   split
   ·exact if_neg q
   ·rfl
theorem wX (kind:Str→Option NameKind)(n:Str)(hl:kind n≠some .local):∀(binds:List (Str×Value))(m:Str→Option Value),(binds.map (·.1)).Nodup→
  bindC kind binds m n=(binds.lookup n).or (m n)
 |[],m,_=>rfl
 |(k,v)::r,m,h=>by
  rw [List.map_cons,List.nodup_cons] at h
  unfold bindC
  rw [wX kind n hl r _ h.2,List.lookup_cons]
  by_cases q:n=k
  ·subst q
   have:r.lookup n=none:=by
    cases e:r.lookup n with
    |none=>rfl
    |some x=>exact absurd (List.mem_map_of_mem (f:=(·.1)) (mem_of_lookup e)) h.1
   rw [this,if_neg hl];simp
  ·rw [beq_eq_false_iff_ne.mpr q]
   congr 1
   split
   ·rfl
   ·exact if_neg q
theorem fG (n:Str):∀l:List (Str×Value),(l.map λp=>(p.1,er p.2)).lookup n=(l.lookup n).map er
 |[]=>rfl
 |(k,v)::r=>by
  rw [List.map_cons,List.lookup_cons,List.lookup_cons,fG n r]
  cases n==k<;>rfl
structure Jv (K:Frag)(f:Addr)(fd:FuncData)(body:List Stmt):Prop where
 at_:∃oc od sl,K.lookup f=some ⟨oc,od,.func fd,sl⟩
 body:fd.body= .stmts body
 code:codeIn K fd.code fd.qualname=true
 co:fd.scope.isCoroutine=false
 gen:fd.scope.isGenerator=false
 kind:fd.scope.kind= .function
 glob:fd.globals=mainGlobals
 blt:fd.builtins=builtinsNs
 clo:fd.closure=[]
theorem dk:∀(names:List (Str×NameKind))(n:Nat)(acc:List (Str×Addr))(x:Str)(c:Addr),(names.map (·.1)).Nodup→(cellsFrom n names acc).lookup x=some c→names.lookup x=some .cell∨acc.lookup x=some c
 |[],_,_,_,_,_,h=> .inr h
 |(y,k)::r,n,acc,x,c,nd,h=>by
  rw [List.map_cons,List.nodup_cons] at nd
  unfold cellsFrom at h
  have nk:r.lookup x=some .cell→x≠y:=λq e=>nd.1 (e▸List.mem_map_of_mem (f:=(·.1)) (mem_of_lookup q))
  by_cases hk:(k== .cell)=true
  ·rw [if_pos hk] at h
   rcases dk r _ _ x c nd.2 h with q|q
   ·left;rw [List.lookup_cons,beq_eq_false_iff_ne.mpr (nk q)];exact q
   ·rw [List.lookup_cons] at q
    by_cases hy:x=y
    ·left;subst hy;rw [List.lookup_cons];simp [beq_iff_eq.mp hk]
    ·rw [beq_eq_false_iff_ne.mpr hy] at q;exact .inr q
  ·rw [if_neg hk] at h
   rcases dk r _ _ x c nd.2 h with q|q
   ·left;rw [List.lookup_cons,beq_eq_false_iff_ne.mpr (nk q)];exact q
   ·exact .inr q
theorem Ca {k:Nat}{f:Addr}{fd:FuncData}{body:List Stmt}{xs:List V}{vars:List (Str×V)}{Q:V→H→Prop}(ok:Jv W.K f fd body)
  (hb:∀s vs,W.K.In s.heap→vs.map er=xs→∃binds,BindsTo s fd ⟨vs,[]⟩ binds∧binds.map (λp=>(p.1,er p.2))=vars)
  (hn:(vars.all λy=>fd.scope.names.lookup y.1==some .local||fd.scope.names.lookup y.1==some .cell)=true) (nd:(vars.map (·.1)).Nodup) (nd':(fd.scope.names.map (·.1)).Nodup)
  (h:M5 W k fd.scope body vars hp Q):CW W (k+1) f xs hp Q:=λA fr s vs r R e=>by
 refine bq λzq=> ?_
 obtain ⟨binds,hbind,hvars⟩:=hb s vs R.In e
 obtain ⟨oc,od,sl,hat⟩:=ok.at_
 apply zq;clear zq
 have names:binds.map (·.1)=vars.map (·.1):=by rw [←hvars,List.map_map];rfl
 have ndb:(binds.map (·.1)).Nodup:=names▸nd
 have kinds:=kindsX (scope:=fd.scope) (binds:=binds) (by
  rw [List.all_eq_true] at hn⊢
  intro x hx
  exact hn (x.1,er x.2) (by rw [←hvars];exact List.mem_map_of_mem (f:=λp:Str×Value=>(p.1,er p.2)) hx))
 refine jP r.depth (R.In _ _ hat) rfl ok.co ok.gen ok.body (codeRec_of R.In ok.code) (aT.of (hbind _ _ _ _ ?_))
 rw [ok.clo]
 refine aT.of (wpAny_newFunctionEnv_cells ok.kind (kinds _) λenv he s' x=> ?_)
 subst he
 refine bq λzq=> ?_
 obtain ⟨h₁,tk,rfl,kp⟩:=x.done
 apply zq;clear zq
 refine ⟨W.nolimit.keeps λb o e=>kp b o (R.stays b o e),zd ?_⟩
 have F:FR W (newEnv fd.scope s.heap.objs.size fd.globals (cellsFrom (s.heap.objs.size+1) fd.scope.names []) (fd.qualname++".<locals>.") (some f) fd.code none fd.builtins) fr vars hp {s with heap:=h₁,toks:=tk}:=by
  have big:∀c,s.heap.objs.size≤c→hp c=none∧fr c=none:=λc hc=>by
   constructor
   ·cases q:hp c with
    |none=>rfl
    |some o=>obtain ⟨_,y,hy,_⟩:=R.dom _ _ q;exact absurd (Heap.lt_size hy) (Nat.not_lt.mpr hc)
   ·cases q:fr c with
    |none=>rfl
    |some o=>exact absurd (Heap.lt_size (R.keep _ _ q)) (Nat.not_lt.mpr hc)
  have isc:∀n c,(cellsFrom (s.heap.objs.size+1) fd.scope.names []).lookup n=some c→fd.scope.names.lookup n=some .cell:=λn c q=>by
   rcases dk fd.scope.names _ _ n c nd' q with y|y
   ·exact y
   ·cases y
  refine ⟨R.keeps kp (Nat.le_of_lt x.toInCall.ns.lt),⟨_,x.toInCall.ns,λn y hv hl=> ?_⟩,λn c hc=>⟨_,x.cell n c hc,.inl (isc n c hc),λy hv=> ?_⟩,λn y hv=> ?_,⟨(big _ (Nat.le_refl _)).2,(big _ (Nat.le_refl _)).1⟩,λn c hc=> ?_,λn n' c a b=>name_of_addr x.apart (mem_of_lookup a) (mem_of_lookup b),R.size⟩
  ·rw [wj _ n hl _ _ ndb]
   rw [←hvars,fG] at hv
   obtain ⟨v,a,b⟩:=Option.map_eq_some_iff.mp hv
   exact ⟨v,by rw [a];rfl,b⟩
  ·have hl:=isc n c hc
   rw [wX _ n (by show fd.scope.names.lookup n≠_;rw [hl];decide) _ _ ndb]
   rw [←hvars,fG] at hv
   refine bq λzq=> ?_
   obtain ⟨v,a,b⟩:=Option.map_eq_some_iff.mp hv
   apply zq;clear zq
   exact ⟨v,by rw [a];rfl,b⟩
  ·rw [←hvars,fG] at hv
   refine bq λzq=> ?_
   obtain ⟨v,a,b⟩:=Option.map_eq_some_iff.mp hv
   apply zq;clear zq
   exact (kinds (s.heap.objs.size+1) (n,v) (mem_of_lookup a)).imp id (·.2)
  ·have:=x.above n c (mem_of_lookup hc)
   have b:=big c (Nat.le_of_lt this)
   exact ⟨b.1,Nat.ne_of_gt this,λ_ _=>b.2⟩
 refine a9 (h _ _ r.deeper ⟨rfl,ok.kind,ok.glob,ok.blt,λn hl=>cellsFrom_some _ _ _ (.inl hl),λ_=>rfl⟩ fr _ F) (λfl s' ⟨vars',hp',F',q⟩=> ?_)
 cases fl<;>exact ⟨_,hp',rfl,F'.hr,q⟩
theorem HI {k:Nat}{C fI:Addr}{xs:List V}{Q:V→H→Prop}(ok:fm W.K C fI=true)
  (h:∀a d,hp a=none→hp d=none→a≠d→CW W k fI (.ref a::xs) ((hp.put d (.attrs [])).put a (.inst C d)) λv hp'=>v= .none∧Q (.ref a) hp'):CW W (k+1) C xs hp Q:=λA fr s vs r R e=>by
 unfold fm at ok
 simp only [Bool.and_eq_true,beq_iff_eq] at ok
 obtain ⟨⟨o1,o2⟩,o3⟩:=ok
 obtain ⟨hh,g,dr,t,os⟩:=s
 refine yt (makes_of R.In o1) (looks_findIn R.In o2) (λself=>bind_fn R.In self o3) rfl ?_
 have R1:=R.alloc (o:= .attrs []) (x:=emptyDict) ⟨[],0,rfl,trivial,by simp,by simp⟩
 have R2:=R1.alloc (o:= .inst C hh.objs.size) (x:=instObj C hh.objs.size) rfl
 have sz:(hh.push emptyDict).objs.size=hh.objs.size+1:=Heap.size_push ..
 simp only [sz] at R2
 have n1:=R.new_none
 have n2:hp (hh.objs.size+1)=none:=by
  cases q:hp (hh.objs.size+1) with
  |none=>rfl
  |some o=>obtain ⟨_,y,hy,_⟩:=R.dom _ _ q;exact absurd (Heap.lt_size hy) (Nat.not_lt.mpr (Nat.le_succ _))
 have ru:gJ k (A.under (.builtin "type.__call__" ⟨.ref C::vs,[]⟩)):=by
  have hw:(Code.builtin "type.__call__" ⟨.ref C::vs,[]⟩).weight≤2∧(Code.builtin "type.__call__" ⟨.ref C::vs,[]⟩).cUnits≤20:=by
   have e1:∀l:List Value,(Code.builtin "type.__call__" ⟨.ref C::l,[]⟩).weight=(Code.builtin "type.__call__" ⟨.ref C::[],[]⟩).weight:=λl=>rfl
   have e2:∀l:List Value,(Code.builtin "type.__call__" ⟨.ref C::l,[]⟩).cUnits=(Code.builtin "type.__call__" ⟨.ref C::[],[]⟩).cUnits:=λl=>rfl
   rw [e1,e2]
   exact ⟨Nat.le_of_ble_eq_true rfl,Nat.le_of_ble_eq_true rfl⟩
  obtain ⟨r1,r2,r3⟩:=r
  refine ⟨?_,?_,r3⟩
  ·show A.depth+_+_≤_;lia
  ·show A.units+_+_≤_;lia
 refine fb (h (hh.objs.size+1) hh.objs.size n2 n1 (Nat.succ_ne_self _) _ fr _ (.ref (hh.objs.size+1)::vs) ru R2 (by rw [List.map_cons,e];rfl)) λr s' ⟨v,hp',a,b,c,q⟩=> ?_
 subst a
 cases v<;>first|exact ⟨rfl,_,hp',rfl,b,q⟩|cases c
end
noncomputable def Pf (v:Value):V→Prop
 | .int i=>∃t,v= .int i t
 | .str x=>∃t,v= .str x t
 | .bytes b=>∃t,v= .bytes b.toArray t
 | .ref a=>v= .ref a
 | .none=>v= .none
 | .bool b=>v= .bool b
 | .bi i=>v= .builtin i
 | .ty i=>v= .type i
 | .other=>True
theorem KU (v:Value):Pf v (er v):=by cases v<;>first|exact ⟨_,rfl⟩|rfl|trivial
theorem nG {v:Value}{x:V}(h:er v=x):Pf v x:=h▸KU v
theorem au {v:Value}{i:Int}(h:er v= .int i):∃t,v= .int i t:=nG h
theorem iJ {v:Value}{x:Str}(h:er v= .str x):∃t,v= .str x t:=nG h
theorem cM {v:Value}{b:List UInt8}(h:er v= .bytes b):∃t,v= .bytes b.toArray t:=nG h
theorem ah {v:Value}{a:Addr}(h:er v= .ref a):v= .ref a:=nG h
theorem gy {v:Value}(h:er v= .none):v= .none:=nG h
theorem sP {v:Value}{b:Bool}(h:er v= .bool b):v= .bool b:=nG h
theorem M2 {v:Value}{i:String}(h:er v= .bi i):v= .builtin i:=nG h
theorem IB {v:Value}{i:String}(h:er v= .ty i):v= .type i:=nG h
theorem jI (b:List UInt8)(t:Tok):er (.bytes b.toArray t)= .bytes b:=rfl
inductive PD (hp:H):V→PyData→Prop
 |none:PD hp .none .none
 |bool (b):PD hp (.bool b) (.bool b)
 |int (i):PD hp (.int i) (.int i)
 |str (x):PD hp (.str x) (.str x)
 |tup {a vs ds}:hp a=some (.tup vs)→vs.length=ds.length→(∀i (h:i<vs.length) (h':i<ds.length),PD hp vs[i] ds[i])→PD hp (.ref a) (.tuple ds)
 |list {a vs ds}:hp a=some (.list vs)→vs.length=ds.length→(∀i (h:i<vs.length) (h':i<ds.length),PD hp vs[i] ds[i])→PD hp (.ref a) (.list ds)
theorem jD {h:Heap}:∀{vs:List Value}{ds:List PyData},vs.length=ds.length→(∀i (q:i<vs.length)(q':i<ds.length),∃as,Reads h vs[i] ds[i] as)→∃as,ReadsAll h vs ds as
 |[],[],_,_=>⟨_,.nil⟩
 |v::vs,d::ds,l,k=>by
  obtain ⟨a,ha⟩:=k 0 (by simp) (by simp)
  obtain ⟨b,hb⟩:=jD (vs:=vs) (ds:=ds) (by simpa using l) (λi q q'=>k (i+1) (Nat.succ_lt_succ q) (Nat.succ_lt_succ q'))
  exact ⟨_,.cons ha hb⟩
section
variable {W:Wd}{A:Around}{hp:H}
theorem PD.reads {fr:Fz}{s:Shared}(R:HR W fr hp s){x:V}{d:PyData}(p:PD hp x d):∀v,er v=x→∃as,Reads s.heap v d as:=by
 induction p with
 |none=>intro v e;rw [gy e];exact ⟨_,.none⟩
 |bool b=>intro v e;rw [sP e];exact ⟨_,.bool b⟩
 |int i=>intro v e;obtain ⟨t,rfl⟩:=au e;exact ⟨_,.int i t⟩
 |str i=>intro v e;obtain ⟨t,rfl⟩:=iJ e;exact ⟨_,.str i t⟩
 |tup ha hl hi ih=>
  intro v e
  refine bq λzq=> ?_
  obtain rfl:=ah e
  obtain ⟨o,ho,ws,n,rfl,rfl,_⟩:=R.get ha
  obtain ⟨as,k⟩:=jD (h:=s.heap) (vs:=ws.toList) (by simpa using hl) (λi q q'=>ih i (by simpa using q) q' _ (by simp))
  apply zq;clear zq
  exact ⟨_,.tuple ho rfl rfl k⟩
 |list ha hl hi ih=>
  intro v e
  refine bq λzq=> ?_
  obtain rfl:=ah e
  obtain ⟨o,ho,ws,n,rfl,rfl,_⟩:=R.get ha
  obtain ⟨as,k⟩:=jD (h:=s.heap) (vs:=ws.toList) (by simpa using hl) (λi q q'=>ih i (by simpa using q) q' _ (by simp))
  apply zq;clear zq
  exact ⟨_,.list ho rfl rfl k⟩
end
inductive Lk (hp:H):V→V→Bool→Prop
 |int (i j):Lk hp (.int i) (.int j) (i==j)
 |str (x y):Lk hp (.str x) (.str y) (x==y)
 |bytes (x y):Lk hp (.bytes x) (.bytes y) (x==y)
 |data {x y d e}:PD hp x d→PD hp y e→d.canLay0=true→e.canLay0=true→min d.depth e.depth≤50→Lk hp x y (PyData.eqv d e)
 |lens {a b xs ys}:hp a=some (.list xs)→hp b=some (.list ys)→xs.length≠ys.length→Lk hp (.ref a) (.ref b) false
 |same {a b xs}:hp a=some (.list xs)→hp b=some (.list xs)→(∀x∈xs,∃c,x= .ref c)→Lk hp (.ref a) (.ref b) true
inductive Mo (hp:H):V→V→Bool→Prop
 |int (i j):Mo hp (.int i) (.int j) (i !=j)
 |str (x y):Mo hp (.str x) (.str y) (x !=y)
 |bytes (x y):Mo hp (.bytes x) (.bytes y) (x !=y)
 |data {x y d e}:PD hp x d→PD hp y e→d.canLay0=true→e.canLay0=true→min d.depth e.depth≤50→Mo hp x y (!PyData.eqv d e)
theorem b5 {W:Wd}{fr:Fz}{hp:H}{s:Shared}(R:HR W fr hp s){a:Addr}{xs:List V}(h:hp a=some (.list xs)):∃ws:Array Value,s.heap.IsList a ws∧ws.toList.map er=xs∧xs.length≤100000:=by
 refine bq λzq=> ?_
 obtain ⟨o,ho,ws,n,rfl,e,l⟩:=R.get h
 apply zq;clear zq
 exact ⟨ws,⟨_,ho,rfl,n,rfl⟩,e,l⟩
theorem ie {W:Wd}{fr:Fz}{hp:H}{s:Shared}(R:HR W fr hp s){a:Addr}{xs:List V}(h:hp a=some (.tup xs)):∃ws:Array Value,s.heap.IsTuple a ws∧ws.toList.map er=xs∧xs.length≤100000:=by
 refine bq λzq=> ?_
 obtain ⟨o,ho,ws,n,rfl,e,l⟩:=R.get h
 apply zq;clear zq
 exact ⟨ws,⟨_,ho,rfl,n,rfl⟩,e,l⟩
theorem aX {ws:Array Value}{xs:List V}(e:ws.toList.map er=xs):ws.size=xs.length:=by rw [←e];simp
section
variable {W:Wd}{A:Around}{hp:H}{k:Nat}
theorem rH {x y:V}{b:Bool}{v u:Value}{Q:Value→H→Prop}(r:gJ (k+10) A)(e:Lk hp x y b)(hv:er v=x)(hu:er u=y)(h:Q (.bool b) hp):TW W A (compareOp .Eq v u) hp Q:=λfr s R=>by
 have ru:A.units+200≤9000:=by have:=r.2.1;exact Nat.le_trans (Nat.add_le_add_left (Nat.mul_le_mul_left 20 (Nat.le_add_left 10 _)) _) this
 cases e with
 |int i j=>obtain ⟨t,rfl⟩:=au hv;obtain ⟨t',rfl⟩:=au hu;exact PyProof.Rows.eq_int ⟨hp,R,h⟩
 |str i j=>obtain ⟨t,rfl⟩:=iJ hv;obtain ⟨t',rfl⟩:=iJ hu;exact PyProof.Rows.eq_str ⟨hp,R,h⟩
 |bytes i j=>obtain ⟨t,rfl⟩:=cM hv;obtain ⟨t',rfl⟩:=cM hu;exact eq_bytes ⟨hp,R,h⟩
 |data p q l1 l2 dd=>
  refine bq λzq=> ?_
  obtain ⟨as,ra⟩:=p.reads R v hv
  obtain ⟨bs,rb⟩:=q.reads R u hu
  apply zq;clear zq
  exact SeqAt.compareEq_reads ra rb l1 l2 (by unfold cLine;exact Nat.lt_of_le_of_lt (Nat.add_le_add_left (Nat.le_trans dd (by decide)) _) (Nat.lt_of_le_of_lt ru (by decide))) ⟨hp,R,h⟩
 |lens p q ne=>
  refine bq λzq=> ?_
  obtain rfl:=ah hv;obtain rfl:=ah hu
  obtain ⟨ws,hl,e1,_⟩:=b5 R p
  obtain ⟨us,hl',e2,_⟩:=b5 R q
  apply zq;clear zq
  exact SeqAt.eq_list_lengthsAt hl hl' (by rw [aX e1,aX e2];simpa using ne) (by unfold cLine;exact Nat.lt_of_le_of_lt (Nat.le_add_right _ 200) (Nat.lt_of_le_of_lt ru (by decide))) ⟨hp,R,h⟩
 | @same _ _ xs p q refs=>
  refine bq λzq=> ?_
  obtain rfl:=ah hv;obtain rfl:=ah hu
  obtain ⟨ws,hl,e1,_⟩:=b5 R p
  obtain ⟨us,hl',e2,_⟩:=b5 R q
  apply zq;clear zq
  have hs:ws.size=us.size:=by rw [aX e1,aX e2]
  refine SeqAt.eq_listAt (e:=λ_=>true) hl hl' hs (by unfold cLine;exact Nat.lt_of_le_of_lt (Nat.le_add_right _ 200) (Nat.lt_of_le_of_lt ru (by decide))) (λj h1 h2=> ?_) ?_
  ·have g1:er ws[j]=xs[j]'(by rw [←aX e1];exact h1):=by simp [←e1]
   have g2:er us[j]=xs[j]'(by rw [←aX e1];exact h1):=by simp [←e2]
   obtain ⟨c,hc⟩:=refs _ (List.getElem_mem (by rw [←aX e1];exact h1))
   rw [hc] at g1 g2
   rw [ah g1,ah g2]
   exact .same _
  ·rw [show (List.range ws.size).all (λ_=>true)=true by simp];exact ⟨hp,R,h⟩
theorem zL {x y:V}{b:Bool}{v u:Value}{Q:Value→H→Prop}(r:gJ (k+10) A)(e:Mo hp x y b)(hv:er v=x)(hu:er u=y)(h:Q (.bool b) hp):TW W A (compareOp .NotEq v u) hp Q:=λfr s R=>by
 have ru:A.units+200≤9000:=by have:=r.2.1;exact Nat.le_trans (Nat.add_le_add_left (Nat.mul_le_mul_left 20 (Nat.le_add_left 10 _)) _) this
 cases e with
 |int i j=>obtain ⟨t,rfl⟩:=au hv;obtain ⟨t',rfl⟩:=au hu;exact PyProof.Rows.ne_int ⟨hp,R,h⟩
 |str i j=>obtain ⟨t,rfl⟩:=iJ hv;obtain ⟨t',rfl⟩:=iJ hu;exact PyProof.Rows.ne_str ⟨hp,R,h⟩
 |bytes i j=>obtain ⟨t,rfl⟩:=cM hv;obtain ⟨t',rfl⟩:=cM hu;exact ne_bytes ⟨hp,R,h⟩
 |data p q l1 l2 dd=>
  refine bq λzq=> ?_
  obtain ⟨as,ra⟩:=p.reads R v hv
  obtain ⟨bs,rb⟩:=q.reads R u hu
  apply zq;clear zq
  exact SeqAt.compareNe_reads ra rb l1 l2 (by unfold cLine;exact Nat.lt_of_le_of_lt (Nat.add_le_add_left (Nat.le_trans dd (by decide)) _) (Nat.lt_of_le_of_lt ru (by decide))) ⟨hp,R,h⟩
theorem LJ {i j:Int}{v u:Value}{Q:Value→H→Prop}(hv:er v= .int i)(hu:er u= .int j)(h:Q (.bool (decide (i<j))) hp):TW W A (compareOp .Lt v u) hp Q:=λfr s R=>by
 obtain ⟨t,rfl⟩:=au hv;obtain ⟨t',rfl⟩:=au hu;exact PyProof.Rows.lt_int ⟨hp,R,h⟩
theorem Ng {i j:Int}{v u:Value}{Q:Value→H→Prop}(hv:er v= .int i)(hu:er u= .int j)(h:Q (.bool (decide (i≤j))) hp):TW W A (compareOp .LtE v u) hp Q:=λfr s R=>by
 obtain ⟨t,rfl⟩:=au hv;obtain ⟨t',rfl⟩:=au hu;exact PyProof.Rows.le_int ⟨hp,R,h⟩
theorem LF {i j:Int}{v u:Value}{Q:Value→H→Prop}(hv:er v= .int i)(hu:er u= .int j)(h:Q (.bool (decide (j<i))) hp):TW W A (compareOp .Gt v u) hp Q:=λfr s R=>by
 obtain ⟨t,rfl⟩:=au hv;obtain ⟨t',rfl⟩:=au hu;exact PyProof.Rows.gt_int ⟨hp,R,h⟩
theorem Nd {i j:Int}{v u:Value}{Q:Value→H→Prop}(hv:er v= .int i)(hu:er u= .int j)(h:Q (.bool (decide (j≤i))) hp):TW W A (compareOp .GtE v u) hp Q:=λfr s R=>by
 obtain ⟨t,rfl⟩:=au hv;obtain ⟨t',rfl⟩:=au hu;exact PyProof.Rows.ge_int ⟨hp,R,h⟩
inductive Df (hp:H):V→V→Bool→Prop
 |nn:Df hp .none .none true
 |nr (a):Df hp .none (.ref a) false
 |rn (a):Df hp (.ref a) .none false
 |jn (i):Df hp (.int i) .none false
 |bn (b):Df hp (.bytes b) .none false
 |rr {a b C d o} (x:hp a=some (.inst C d)) (y:hp b=some o):Df hp (.ref a) (.ref b) (decide (a=b))
theorem zF {a b:V}{t:Bool}{v u:Value}{Q:Bool→H→Prop}(e:Df hp a b t)(hv:er v=a)(hu:er u=b)(q:Q t hp):TW W A (isSame v u) hp Q:=λfr s R=>by
 cases e with
 |nn=>rw [gy hv,gy hu];exact wpAny_pure ⟨hp,R,q⟩
 |nr=>rw [gy hv,ah hu];exact wpAny_pure ⟨hp,R,q⟩
 |rn=>rw [ah hv,gy hu];exact wpAny_pure ⟨hp,R,q⟩
 |jn=>rcases au hv with ⟨t,e⟩;rw [e,gy hu];exact wpAny_pure ⟨hp,R,q⟩
 |bn=>rcases cM hv with ⟨t,e⟩;rw [e,gy hu];exact wpAny_pure ⟨hp,R,q⟩
 | @rr x y _ _ _ h1 h2=>
  rw [ah hv,ah hu]
  by_cases n:x=y
  ·rw [n];rw [decide_eq_true n] at q;exact wpAny_isSame_ref_self ⟨hp,R,q⟩
  ·rw [decide_eq_false n] at q
   refine bq λzq=> ?_
   rcases R.get h1 with ⟨ox,hx,rx⟩
   rcases R.get h2 with ⟨oy,hy,ry⟩
   apply zq;clear zq
   exact wpAny_isSame_ref_other n hx hy (by rw [rx];intro z;cases z) ⟨hp,R,q⟩
theorem Ev {a b:V}{t:Bool}{v u:Value}{Q:Value→H→Prop}(e:Df hp a b t)(hv:er v=a)(hu:er u=b)(q:Q (.bool t) hp):TW W A (compareOp .Is v u) hp Q:=
 TW.bind (zF e hv hu (TW.pure q))
theorem uD {a b:V}{t:Bool}{v u:Value}{Q:Value→H→Prop}(e:Df hp a b t)(hv:er v=a)(hu:er u=b)(q:Q (.bool (!t)) hp):TW W A (compareOp .IsNot v u) hp Q:=
 TW.bind (zF e hv hu (TW.pure q))
theorem dW {b:Bool}{v:Value}{Q:Bool→H→Prop}(hv:er v= .bool b)(h:Q b hp):TW W A (truthy v) hp Q:=λfr s R=>by
 rw [sP hv];exact λ_ _ _=>⟨hp,R,h⟩
theorem JD {b:Bool}{v:Value}{Q:Value→H→Prop}(hv:er v= .bool b)(h:Q (.bool (!b)) hp):TW W A (unaryOp .Not v) hp Q:=λfr s R=>not_of ((dW (Q:=λc hp'=>Q (.bool (!c)) hp') hv h) fr s R)
theorem K9 {i:Int}{v:Value}{Q:Value→H→Prop}(hv:er v= .int i)(h:∀t,Q (.int (-i) t) hp):TW W A (unaryOp .USub v) hp Q:=λfr s R=>by
 obtain ⟨t,rfl⟩:=au hv;exact PyProof.Rows.neg_int ⟨hp,R.tok _,h _⟩
theorem E9 (v:Value):∀n:Nat,(List.foldl (λx1 x2=>x1++x2) (#[]:Array Value) (List.replicate n #[v])).toList=List.replicate n v:=by
 have g:∀(n:Nat) (a:Array Value),(List.foldl (λx1 x2=>x1++x2) a (List.replicate n #[v])).toList=a.toList++List.replicate n v:=by
  intro n
  induction n with
  |zero=>intro a;simp
  |succ n ih=>intro a;rw [List.replicate_succ,List.foldl_cons,ih,List.replicate_succ];simp
 intro n;rw [g];rfl
theorem sF {prog:Program}{w:World}{E:Value→Shared→Prop}{s:Shared}{l:Addr}{items:Array Value}{k:Nat}{x:Int}{u:Tok}{Q:Value→Shared→Prop}
  (hl:s.heap.get? l=some {cls:= .type "list",dict:=none,data:= .seq items k,slots:= #[]})
  (hlo: -(2^63:Int)≤x) (hhi:x<2^63) (hsz:items.size*x.toNat≤2^24)
  (h:Q (.ref s.heap.objs.size) {s with heap:=s.heap.push {cls:= .type "list",data:= .seq (List.foldl (λx1 x2=>x1++x2) #[] (List.replicate (if items.isEmpty=true then 0 else x.toNat) items))}}):
  wpAny (model prog w) A (binaryOp .Mult (.ref l) (.int x u)) Q E s:=
 wpAny_binaryOp_repeat_ref (T:="list") (U:="int") (by decide) ⟨_,hl,rfl⟩ (λs'=>typeIs_int s' x u) noFill_list_mul PySem.F.fills_int_mul PySem.F.slot_int_rmul repeat_list PySem.F.slot_int_index.lookup
  (call_meets PySem.F.slot_int_rmul (typeIs_int s x u) PySem.F.entry_int_rmul (PySem.F.args_int_rmul_2 _ _) (int___rmul___int_list x u l items k)
   ⟨hl,rfl,⟨_,hl,rfl⟩,call_meets PySem.F.slot_list_mul ⟨_,hl,rfl⟩ PySem.F.entry_list_mul (PySem.F.args_list_mul_2 _ _)
    (AutoListH.list___mul___list_int_3 l items k x u (by simp [Builtin.List.listFitsIndex];lia) (by lia) (by simp [Builtin.List.listTooLong,sizeLine];lia))
    ⟨hl,h⟩⟩)
section
variable {v u:Value}{Q:Value→H→Prop}{i j:Int}
theorem Kk (hv:er v= .int i)(hu:er u= .int j)(q:∀z,er z= .int (i+j)→Q z hp):TW W A (binaryOp .Add v u) hp Q:=λfr s R=>by
 rcases au hv with ⟨t,e⟩;rcases au hu with ⟨t',e'⟩;rw [e,e'];exact PyProof.Rows.add_int ⟨hp,R.tok _,q _ rfl⟩
theorem L2 (hv:er v= .int i)(hu:er u= .int j)(q:∀z,er z= .int (i - j)→Q z hp):TW W A (binaryOp .Sub v u) hp Q:=λfr s R=>by
 rcases au hv with ⟨t,e⟩;rcases au hu with ⟨t',e'⟩;rw [e,e'];exact PyProof.Rows.sub_int ⟨hp,R.tok _,q _ rfl⟩
theorem Gz (h:i.natAbs≤1000):Builtin.Int.intBits i≤20:=by
 unfold Builtin.Int.intBits
 split
 ·exact Nat.zero_le _
 ·next hz=>exact Nat.le_of_lt_succ (Nat.succ_lt_succ ((Nat.log2_lt (by simpa using hz)).mpr (Nat.lt_of_le_of_lt h (by decide))))
theorem L6 (g:i.natAbs≤1000)(hv:er v= .int i)(hu:er u= .int j)(q:∀z,er z= .int (i*j)→Q z hp):TW W A (binaryOp .Mult v u) hp Q:=λfr s R=>by
 rcases au hv with ⟨t,e⟩;rcases au hu with ⟨t',e'⟩;rw [e,e']
 exact PyProof.Rows.mul_int ⟨hp,R.tok _,q _ rfl⟩ (IntMulOk.of_left (Nat.le_trans (Gz g) (by decide)))
theorem JO (g:j≠0)(hv:er v= .int i)(hu:er u= .int j)(q:∀z,er z= .int (i.fmod j)→Q z hp):TW W A (binaryOp .Mod v u) hp Q:=λfr s R=>by
 rcases au hv with ⟨t,e⟩;rcases au hu with ⟨t',e'⟩;rw [e,e'];exact mod_int' g ⟨hp,R.tok _,q _ rfl⟩
theorem Kr (g:j≠0)(l:j.natAbs≤1000)(hv:er v= .int i)(hu:er u= .int j)(q:∀z,er z= .int (i.fdiv j)→Q z hp):TW W A (binaryOp .FloorDiv v u) hp Q:=λfr s R=>by
 rcases au hv with ⟨t,e⟩;rcases au hu with ⟨t',e'⟩;rw [e,e'];exact floordiv_int g ⟨hp,R.tok _,q _ rfl⟩ (.inl (PyProof.noPylong_small (by lia)))
theorem GY {x y:List UInt8}(g:x.length+y.length≤100000)(hv:er v= .bytes x)(hu:er u= .bytes y)(q:∀z,er z= .bytes (x++y)→Q z hp):TW W A (binaryOp .Add v u) hp Q:=λfr s R=>by
 rcases cM hv with ⟨t,e⟩;rcases cM hu with ⟨t',e'⟩;rw [e,e']
 exact KBy.add_bytes (Nat.le_trans g (by decide)) λt' k=>⟨hp,R.tok _,q _ (congrArg V.bytes (Array.toList_append ..))⟩
theorem JB {a b:Addr}{xs ys:List V}(h1:hp a=some (.list xs))(h2:hp b=some (.list ys))(hz:xs.length+ys.length≤100000)(hv:er v= .ref a)(hu:er u= .ref b)(q:∀c,hp c=none→Q (.ref c) (hp.put c (.list (xs++ys)))):TW W A (binaryOp .Add v u) hp Q:=λfr s R=>by
 rw [ah hv,ah hu]
 refine bq λzq=> ?_
 rcases R.get h1 with ⟨_,ho,ws,n,rfl,e1,l1⟩
 rcases R.get h2 with ⟨_,ho',us,n',rfl,e2,l2⟩
 apply zq;clear zq
 have z1:=aX e1
 have z2:=aX e2
 exact P.add_list ho ho' ⟨_,R.alloc (o:= .list (xs++ys)) ⟨_,_,rfl,by simp [e1,e2],by simp;lia⟩,q _ R.new_none⟩ (by rw [sizeLine_eq];lia)
theorem JS {ws:Array Value}{x:V}(e:ws.toList.map er=[x]):∃v,ws= #[v]∧er v=x:=by
 rcases ws with ⟨_|⟨v,_|⟨y,l⟩⟩⟩<;>cases e
 exact ⟨v,rfl,rfl⟩
theorem Lm {a:Addr}{x:V}(h1:hp a=some (.list [x]))(h0:0≤i)(hn:i≤100000)(hv:er v= .ref a)(hu:er u= .int i)(q:∀c,hp c=none→Q (.ref c) (hp.put c (.list (List.replicate i.toNat x)))):TW W A (binaryOp .Mult v u) hp Q:=λfr s R=>by
 rw [ah hv]
 rcases au hu with ⟨t',e⟩
 rw [e]
 refine bq λzq=> ?_
 rcases R.get h1 with ⟨_,ho,ws,n,rfl,e1,l1⟩
 rcases JS e1 with ⟨v,rfl,ev⟩
 apply zq;clear zq
 refine sF ho (by lia) (by lia) (by simp;lia) ⟨_,R.alloc (o:= .list (List.replicate _ x)) ⟨_,_,rfl,?_,?_⟩,q _ R.new_none⟩
 ·simp only [List.isEmpty_toArray,List.isEmpty_cons,Bool.false_eq_true,if_false]
  rw [E9,List.map_replicate,ev]
 ·simp;lia
end
end
noncomputable abbrev mK {κ:Type}(p:κ×Value):κ×V:=(p.1,er p.2)
theorem pY {o:Obj}{es:Array DictEntry}{ep:Nat}(h:o.ExactDict)(hd:o.data= .dict es ep):o=dictOf es.toList ep:=by
 obtain ⟨c,d,dt,sl⟩:=o
 obtain ⟨h1,h2,h3⟩:=h
 dsimp only at h1 h2 h3 hd
 subst h1 h2 h3 hd
 rfl
section
variable (prog:Program)(w:World)
theorem n8 {prog:Program}{w:World}{κ:Type} [DecidableEq κ] {kd:PySem.KeyKind prog w κ}{E:κ×V→DictEntry→Prop}(hE:∀kv e,E kv e→kd.is kv.1 e.key=true∧e.hash=kd.hash kv.1∧er e.val=kv.2){kv:List (κ×V)}:∀{es:List DictEntry},bN E kv es→
  ∃kvs:List (κ×Value),Pairs kd es kvs∧kvs.map mK=kv∧∀e∈es,∃k,kd.is k e.key=true∧e.hash=kd.hash k:=by
 induction kv with
 |nil=>
  intro es h
  cases es with
  |nil=>exact ⟨[],.nil,rfl,λ_ h=>nomatch h⟩
  |cons=>exact h.elim
 |cons p r ih=>
  intro es h
  cases es with
  |nil=>exact h.elim
  |cons e es=>
   have z:=hE p e h.1
   exact (ih h.2).elim λkvs q=>⟨(p.1,e.val)::kvs,.cons z.1 rfl q.1,by rw [List.map_cons,q.2.1];exact congrArg (· ::r) (Prod.ext rfl z.2.2),λe' he=>(List.mem_cons.mp he).elim (λx=>⟨p.1,x▸z.1,x▸z.2.1⟩) (q.2.2 e')⟩
theorem nW {prog:Program}{w:World}{κ:Type} [DecidableEq κ] {kd:PySem.KeyKind prog w κ}{E:κ×V→DictEntry→Prop}(hE:∀k v e,kd.is k e.key=true→e.hash=kd.hash k→e.val=v→E (k,er v) e){es:List DictEntry}{kvs:List (κ×Value)}(h:Pairs kd es kvs):(∀e∈es,∃k,kd.is k e.key=true∧e.hash=kd.hash k)→bN E (kvs.map mK) es:=by
 induction h with
 |nil=>exact λ_=>trivial
 | @cons e kv es kvs h1 h2 h3 ih=>exact λz=>⟨(z e (.head _)).elim λk w=>hE _ _ _ h1 (kd.inj _ _ _ w.1 h1▸w.2) h2,ih λe' he=>z e' (.tail _ he)⟩
theorem xC {kv:List (Str×V)}{es:List DictEntry}(h:bN (pU w.params) kv es):∃kvs:List (Str×Value),Pairs (PySem.strKind prog w) es kvs∧kvs.map mK=kv∧∀e∈es,∃k,(PySem.strKind prog w).is k e.key=true∧e.hash=(PySem.strKind prog w).hash k:=
 n8 (λkv e h=>⟨h.1.elim λt hk=>by rw [hk];exact strKind_is prog w kv.1 t,h.2.1,h.2.2⟩) h
theorem yd {es:List DictEntry}{kvs:List (Str×Value)}(h:Pairs (PySem.strKind prog w) es kvs)(z:∀e∈es,∃k,(PySem.strKind prog w).is k e.key=true∧e.hash=(PySem.strKind prog w).hash k):bN (pU w.params) (kvs.map mK) es:=
 nW (λk v e h1 h2 h3=>⟨Value.isStrOf_shape h1,h2,by rw [h3]⟩) h z
theorem uv {kv:List (Int×V)}{es:List DictEntry}(h:bN Jy kv es):∃kvs:List (Int×Value),Pairs (PySem.intKind prog w) es kvs∧kvs.map mK=kv∧∀e∈es,∃k,(PySem.intKind prog w).is k e.key=true∧e.hash=(PySem.intKind prog w).hash k:=
 n8 (λkv e h=>⟨h.1.elim λt hk=>by rw [hk];exact intKind_is prog w kv.1 t,h.2.1,h.2.2⟩) h
theorem wK {es:List DictEntry}{kvs:List (Int×Value)}(h:Pairs (PySem.intKind prog w) es kvs)(z:∀e∈es,∃k,(PySem.intKind prog w).is k e.key=true∧e.hash=(PySem.intKind prog w).hash k):bN Jy (kvs.map mK) es:=
 nW (λk v e h1 h2 h3=>⟨Value.isInt_shape h1,h2,by rw [h3]⟩) h z
end
theorem dO {κ:Type}(l:List (κ×Value)):(l.map mK).map (·.1)=l.map (·.1):=by rw [List.map_map];rfl
theorem gV {κ:Type} [DecidableEq κ] (k:κ):∀l:List (κ×Value),((l.map mK).find? λp=>decide (p.1=k)).map (·.2)=(valueAt l k).map er
 |[]=>rfl
 |(a,v)::r=>by
  have ih:=gV k r
  unfold valueAt at ih⊢
  rw [List.map_cons,List.find?_cons,List.find?_cons]
  by_cases h:a=k
  ·simp [h]
  ·simp only [decide_eq_false h];exact ih
theorem gU {κ:Type} [DecidableEq κ] {α:Type}(k:κ):∀l:List (κ×α),(l.find? λp=>decide (p.1=k)).map (·.2)=l.lookup k
 |[]=>rfl
 |(a,v)::r=>by
  rw [List.find?_cons,List.lookup_cons]
  by_cases h:a=k
  ·subst h;simp
  ·rw [decide_eq_false h,beq_eq_false_iff_ne.mpr (Ne.symm h)];exact gU k r
noncomputable def Ar (n:Int)(x:V):List (Int×V)→List (Int×V)
 |[]=>[(n,x)]
 |(k,v)::r=>if n=k then (k,x)::r else (k,v)::Ar n x r
theorem rA {κ:Type} [DecidableEq κ] {f:κ→V→List (κ×V)→List (κ×V)}(f0:∀k x,f k x []=[(k,x)])(f1:∀k x a u r,f k x ((a,u)::r)=if k=a then (a,x)::r else (a,u)::f k x r)(k:κ)(v:Value)(l:List (κ×Value)):(l.map (·.1)).Nodup→(stored l k v).map mK=f k (er v) (l.map mK):=by
 induction l with
 |nil=>exact λ_=>(f0 ..).symm
 |cons p r ih=>
  intro nd
  rw [List.map_cons,List.nodup_cons] at nd
  have ih:=ih nd.2
  unfold stored at ih⊢
  rw [List.map_cons,show (p::r).map mK=(p.1,er p.2)::r.map mK from rfl,f1]
  by_cases h:k=p.1
  ·have:(List.map (λkv=>if kv.1=k then (kv.1,v) else kv) r)=r:=map_store_of_not_mem r k v (h▸nd.1)
   rw [if_pos h]
   simp [this,h.symm]
  ·have h':¬p.1=k:=λe=>h e.symm
   simp only [List.any_cons,decide_eq_false h',Bool.false_or,if_neg h,List.map_cons,if_neg h',List.cons_append]
   by_cases q:(r.any λkv=>decide (kv.1=k))=true
   ·rw [if_pos q] at ih⊢;rw [List.map_cons,ih]
   ·rw [if_neg q] at ih⊢;rw [List.map_cons,ih]
theorem kE (k:Str)(v:Value)(l:List (Str×Value)):(l.map (·.1)).Nodup→(stored l k v).map mK=fC k (er v) (l.map mK):=rA (f:=fC) (λ_ _=>rfl) (λ_ _ _ _ _=>rfl) k v l
theorem vZ (k:Int)(v:Value)(l:List (Int×Value)):(l.map (·.1)).Nodup→(stored l k v).map mK=Ar k (er v) (l.map mK):=rA (f:=Ar) (λ_ _=>rfl) (λ_ _ _ _ _=>rfl) k v l
theorem n9 (k:Int):∀l:List (Int×Value),(without l k).map mK=(l.map mK).filter λp=>decide (p.1≠k)
 |[]=>rfl
 |(a,u)::r=>by
  have ih:=n9 k r
  unfold without at ih⊢
  rw [List.map_cons,List.filter_cons,List.filter_cons]
  by_cases h:a=k
  ·simp only [h,ne_eq,not_true_eq_false,decide_false,Bool.false_eq_true,if_false];exact ih
  ·simp only [ne_eq,h,not_false_eq_true,decide_true,if_true,List.map_cons];rw [ih]
section
variable {W:Wd}{A:Around}{hp:H}{fr:Fz}{s:Shared}{a:Addr}
theorem jF {kv:List (Str×V)}(R:HR W fr hp s)(h:hp a=some (.attrs kv)):∃kvs,s.heap.DictOf (PySem.strKind W.prog W.w) a kvs∧kvs.map mK=kv∧kv.length≤900:=by
 refine bq λzq=> ?_
 obtain ⟨x,hx,es,n,rfl,q,l,nd⟩:=R.get h
 obtain ⟨kvs,p,e,z⟩:=xC W.prog W.w q
 apply zq;clear zq
 exact ⟨kvs,⟨_,es.toArray,n,hx,⟨rfl,rfl,rfl⟩,rfl,λe' he=>z e' (by simpa using he),by simpa using p,by rw [←dO,e];exact nd⟩,e,l⟩
theorem sB {h:Heap}{kvs:List (Str×Value)}(d:h.DictOf (PySem.strKind W.prog W.w) a kvs)(l:kvs.length≤900):∃x,h.get? a=some x∧RO W.w.params (.attrs (kvs.map mK)) x:=by
 refine bq λzq=> ?_
 obtain ⟨o,es,ep,ho,hx,hd,hk,hp,nd⟩:=d
 apply zq;clear zq
 refine ⟨o,ho,es.toList,ep,pY hx hd,yd W.prog W.w hp λe he=>hk e (by simpa using he),by simpa using l,by rw [dO];exact nd⟩
theorem lQ {kv:List (Int×V)}(R:HR W fr hp s)(h:hp a=some (.idict kv)):∃kvs,s.heap.DictOf (PySem.intKind W.prog W.w) a kvs∧kvs.map mK=kv∧kv.length≤900:=by
 refine bq λzq=> ?_
 obtain ⟨x,hx,es,n,rfl,q,l,nd⟩:=R.get h
 obtain ⟨kvs,p,e,z⟩:=uv W.prog W.w q
 apply zq;clear zq
 exact ⟨kvs,⟨_,es.toArray,n,hx,⟨rfl,rfl,rfl⟩,rfl,λe' he=>z e' (by simpa using he),by simpa using p,by rw [←dO,e];exact nd⟩,e,l⟩
theorem wy {h:Heap}{kvs:List (Int×Value)}(d:h.DictOf (PySem.intKind W.prog W.w) a kvs)(l:kvs.length≤900):∃x,h.get? a=some x∧RO W.w.params (.idict (kvs.map mK)) x:=by
 refine bq λzq=> ?_
 obtain ⟨o,es,ep,ho,hx,hd,hk,hp,nd⟩:=d
 apply zq;clear zq
 refine ⟨o,ho,es.toList,ep,pY hx hd,wK W.prog W.w hp λe he=>hk e (by simpa using he),by simpa using l,by rw [dO];exact nd⟩
theorem si {κ:Type} [DecidableEq κ] {prog:Program}{w:World}{knd:KeyKind prog w κ}{h:Heap}{kvs:List (κ×Value)}(d:h.DictOf knd a kvs):(kvs.map (·.1)).Nodup:=by
 obtain ⟨_,_,_,_,_,_,_,_,nd⟩:=d;exact nd
theorem Gd {kv:List (Str×V)}{n:Str}{x:V}{u:Value}{Q:V→H→Prop}(h1:hp a=some (.attrs kv))(hl:kv.lookup n=some x)(hu:er u= .str n)(h:Q x hp):
  TW W A (getItem (.ref a) u) hp (λv hp'=>Q (er v) hp'):=λfr s R=>by
 refine bq λzq=> ?_
 obtain ⟨t,rfl⟩:=iJ hu
 obtain ⟨kvs,d,e,_⟩:=jF R h1
 apply zq;clear zq
 rw [←e,←gU,gV] at hl
 refine bq λzq=> ?_
 obtain ⟨v,hv,ev⟩:=Option.map_eq_some_iff.mp hl
 apply zq;clear zq
 exact wpAny_getItem_of (strKind_is _ _ n t) d.mapOf hv ⟨hp,R.tok _,by show Q (er v) hp;rw [ev];exact h⟩
theorem tN {kv:List (Str×V)}{n:Str}{u v:Value}{Q:Unit→H→Prop}(h1:hp a=some (.attrs kv))(hz:kv.length≤800)(hu:er u= .str n)(h:Q () (hp.put a (.attrs (fC n (er v) kv)))):
  TW W A (setItem (.ref a) u v) hp Q:=λfr s R=>by
 refine bq λzq=> ?_
 obtain ⟨t,rfl⟩:=iJ hu
 obtain ⟨kvs,d,e,_⟩:=jF R h1
 apply zq;clear zq
 have len:kvs.length=kv.length:=by rw [←e];simp
 refine wpAny_setItem_pairs (strKind_is _ _ n t) d (λh' d' hs=> ?_) (by rw [sizeLine_eq];exact Nat.le_trans (Nat.le_of_eq len) (Nat.le_trans hz (by decide)))
 have l2:(stored kvs n v).length≤900:=by have:=stored_length_le kvs n v;lia
 refine bq λzq=> ?_
 obtain ⟨x,hx,r⟩:=sB (W:=W) d' l2
 apply zq;clear zq
 rw [kE n v kvs (si d),e] at r
 exact ⟨_,R.upd h1 hs hx r,h⟩
theorem FO {kv:List (Int×V)}{n:Int}{u v:Value}{Q:Unit→H→Prop}(h1:hp a=some (.idict kv))(hz:kv.length≤800)(hu:er u= .int n)(h:Q () (hp.put a (.idict (Ar n (er v) kv)))):
  TW W A (setItem (.ref a) u v) hp Q:=λfr s R=>by
 obtain ⟨t,rfl⟩:=au hu
 obtain ⟨kvs,d,e,_⟩:=lQ R h1
 have len:kvs.length=kv.length:=by rw [←e];simp
 refine wpAny_setItem_pairs (intKind_is _ _ n t) d (λh' d' hs=> ?_) (by rw [sizeLine_eq];exact Nat.le_trans (Nat.le_of_eq len) (Nat.le_trans hz (by decide)))
 have l2:(stored kvs n v).length≤900:=by have:=stored_length_le kvs n v;lia
 obtain ⟨x,hx,r⟩:=wy (W:=W) d' l2
 rw [vZ n v kvs (si d),e] at r
 exact ⟨_,R.upd h1 hs hx r,h⟩
theorem Gf {kv:List (Int×V)}{n:Int}{u:Value}{Q:Unit→H→Prop}(h1:hp a=some (.idict kv))(hin:(kv.lookup n).isSome=true)(hu:er u= .int n)(h:Q () (hp.put a (.idict (kv.filter λp=>decide (p.1≠n))))):
  TW W A (delItem (.ref a) u) hp Q:=λfr s R=>by
 refine bq λzq=> ?_
 obtain ⟨t,rfl⟩:=au hu
 obtain ⟨kvs,d,e,l⟩:=lQ R h1
 apply zq;clear zq
 have len:kvs.length=kv.length:=by rw [←e];simp
 have there:(valueAt kvs n).isSome=true:=by rw [←e,←gU,gV,Option.isSome_map] at hin;exact hin
 refine wpAny_delItem_slot d.typeIs (by decide) PySem.F.slot_dict_delitem
  (call_meetsIn PySem.F.slot_dict_delitem d.typeIs PySem.F.entry_dict_delitem (PySem.F.args_dict_delitem_2 _ _) (meets_dict_delitem_pairs (PySem.intKind W.prog W.w) a (intKind_is _ _ n t)) ⟨kvs,d,by rw [sizeLine_eq];exact Nat.le_trans (Nat.le_of_eq len) (Nat.le_trans l (by decide)),there,λh' d' hs=> ?_⟩)
 have l2:(without kvs n).length≤900:=by have:(without kvs n).length≤kvs.length:=List.length_filter_le _ _;lia
 refine bq λzq=> ?_
 obtain ⟨x,hx,r⟩:=wy (W:=W) d' l2
 apply zq;clear zq
 rw [n9 n kvs,e] at r
 exact ⟨_,R.upd h1 hs hx r,h⟩
theorem Jx {kv:List (Int×V)}{n:Int}{u:Value}{Q:Value→H→Prop}(h1:hp a=some (.idict kv))(hu:er u= .int n)(h:Q (.bool (kv.lookup n).isSome) hp):
  TW W A (compareOp .In u (.ref a)) hp Q:=λfr s R=>by
 obtain ⟨t,rfl⟩:=au hu
 obtain ⟨kvs,d,e,l⟩:=lQ R h1
 refine wpAny_in_of (intKind_is _ _ n t) (R.notSys h1) d.mapOf ⟨hp,R.tok _,?_⟩
 rw [←e,←gU,gV,Option.isSome_map] at h;exact h
end
noncomputable def su (base h:Heap)(L:Addr):List (Addr×Obj):=(List.range h.objs.size).filterMap λa=>if a=L then none else match base.get? a with
 |some _=>none
 |none=>(h.get? a).map λo=>(a,o)
theorem po {base h:Heap}{L:Addr}{p:Addr×Obj}:p∈su base h L ↔ p.1≠L∧base.get? p.1=none∧h.get? p.1=some p.2:=by
 obtain ⟨a,o⟩:=p
 unfold su
 rw [List.mem_filterMap]
 constructor
 ·rintro ⟨b,hb,e⟩
  split at e
  ·cases e
  ·rename_i n
   split at e
   ·cases e
   ·rename_i q
    refine bq λzq=> ?_
    obtain ⟨x,hx,e⟩:=Option.map_eq_some_iff.mp e
    apply zq;clear zq
    cases e
    exact ⟨n,q,hx⟩
 ·rintro ⟨n,q,e⟩
  refine ⟨a,List.mem_range.mpr (Heap.lt_size e),?_⟩
  dsimp only at n q e
  rw [if_neg n,q,e];rfl
section
variable {W:Wd}{A:Around}{env:Env}{fr:Fz}{vars:List (Str×V)}{hp:H}{s:Shared}
structure Br (W:Wd)(env:Env)(vars:List (Str×V))(s:Shared)(m:Str→Option Value):Prop where
 frame:PyProof.Rows.Fr W.base env.locals s.heap m
 news:News W.base env.locals s.heap (su W.base s.heap env.locals)
 says:∀n x,vars.lookup n=some x→env.kindOf n=some .local→∃v,m n=some v∧er v=x
theorem FR.bridge (F:FR W env fr vars hp s):∃m,Br W env vars s m:=by
 refine bq λzq=> ?_
 obtain ⟨m,N,k⟩:=F.ns
 apply zq;clear zq
 exact ⟨m,⟨N,F.hr.stays,F.above⟩,λp hp'=>let ⟨a,b,c⟩:=po.mp hp';⟨c,a,b⟩,k⟩
theorem FR.back {m:Str→Option Value}{h':Heap}{tk:Nat}(F:FR W env fr vars hp s)(B:Br W env vars s m)(Fh:PyProof.Rows.Fr W.base env.locals h' m)(N:News W.base env.locals h' (su W.base s.heap env.locals)):
  FR W env fr vars hp {s with heap:=h',toks:=tk}:=by
 have stay:∀a o,a≠env.locals→s.heap.get? a=some o→h'.get? a=some o:=λa o n e=>by
  cases q:W.base.get? a with
  |some o'=>have:=F.hr.stays a o' q;rw [e] at this;cases this;exact Fh.keep a o q
  |none=>exact (N (a,o) (po.mpr ⟨n,q,e⟩)).1
 have nL:∀a o,fr a=some o→a≠env.locals:=λa o e q=>by rw [q,F.Lfree.1] at e;cases e
 have nH:∀a o,hp a=some o→a≠env.locals:=λa o e q=>by rw [q,F.Lfree.2] at e;cases e
 refine ⟨⟨F.hr.hb,λa o e=>stay a o (nL a o e) (F.hr.keep a o e),λa o e=>⟨(F.hr.dom a o e).1,?_⟩,F.hr.gens,F.hr.os,Nat.le_trans Fh.above (Nat.le_of_lt Fh.ns.lt)⟩,⟨m,Fh.ns,B.says⟩,λn c e=> ?_,F.has,F.Lfree,F.own,F.apart,F.above⟩
 ·refine bq λzq=> ?_
  obtain ⟨x,hx,r⟩:=(F.hr.dom a o e).2
  apply zq;clear zq
  exact ⟨x,stay a x (nH a o e) hx,r⟩
 ·refine bq λzq=> ?_
  obtain ⟨v,⟨o,ho,hd⟩,r⟩:=F.cell n c e
  apply zq;clear zq
  exact ⟨v,⟨o,stay c o (F.own n c e).2.1 ho,hd⟩,r⟩
theorem FR.put {D:Addr}{o:O}{x:Obj}(F:FR W env fr vars hp s)(hx:s.heap.get? D=some x)(r:RO W.w.params o x)(hf:fr D=none)(hL:D≠env.locals)(hc:∀n c,env.cells.lookup n=some c→c≠D):
  FR W env fr vars (hp.put D o) s:=by
 refine ⟨⟨F.hr.hb,F.hr.keep,λa o' e=> ?_,F.hr.gens,F.hr.os,F.hr.size⟩,F.ns,F.cell,F.has,⟨F.Lfree.1,?_⟩,λn c e=>⟨?_,(F.own n c e).2⟩,F.apart,F.above⟩
 ·by_cases h:a=D
  ·subst h;rw [H.put_same] at e;cases e;exact ⟨hf,x,hx,r⟩
  ·rw [H.put_ne h] at e;exact F.hr.dom a o' e
 ·rw [H.put_ne (Ne.symm hL)];exact F.Lfree.2
 ·rw [H.put_ne (hc n c e)];exact (F.own n c e).1
theorem FR.vacant {D:Addr}(F:FR W env fr vars hp s)(h:s.heap.get? D=none):hp D=none∧fr D=none∧D≠env.locals∧∀n c,env.cells.lookup n=some c→c≠D:=by
 refine ⟨?_,?_,?_,λn c e q=> ?_⟩
 ·cases q:hp D with
  |none=>rfl
  |some o=>obtain ⟨_,x,hx,_⟩:=F.hr.dom _ _ q;rw [h] at hx;cases hx
 ·cases q:fr D with
  |none=>rfl
  |some o=>have:=F.hr.keep _ _ q;rw [h] at this;cases this
 ·rintro rfl
  obtain ⟨m,⟨o,_,_,ho,_⟩,_⟩:=F.ns
  rw [h] at ho;cases ho
 ·subst q
  obtain ⟨v,⟨o,ho,_⟩,_⟩:=F.cell n c e
  rw [h] at ho;cases ho
theorem new_none (h:Heap):h.get? h.objs.size=none:=by
 cases e:h.get? h.objs.size with
 |none=>rfl
 |some o=>exact absurd (Heap.lt_size e) (Nat.lt_irrefl _)
theorem tI:∀{ws:List Value}{ns:List Int},ws.map er=ns.map V.int→IntsAre ws ns
 |[],[],_=> .nil
 |[],_::_,h=>by cases h
 |_::_,[],h=>by cases h
 |v::ws,n::ns,h=>by
  rw [List.map_cons,List.map_cons] at h
  injection h with h1 h2
  obtain ⟨t,rfl⟩:=au h1
  constructor;exact tI h2
variable {k:Nat}
theorem vA {vs:List Value}{Q:Value→H→Prop}(hz:vs.length≤100000)(h:∀c,hp c=none→Q (.ref c) (hp.put c (.tup (vs.map er)))):TW W A (newTuple vs) hp Q:=λfr s R=>
 wpAny_newObj_type ⟨_,R.alloc (o:= .tup (vs.map er)) ⟨_,_,rfl,by simp,by simpa using hz⟩,h _ R.new_none⟩ (by show vs.toArray.size≤sizeLine;rw [List.size_toArray,sizeLine_eq];exact Nat.le_trans hz (by decide))
theorem xS {vs:List Value}{Q:Value→H→Prop}(hz:vs.length≤100000)(h:∀c,hp c=none→Q (.ref c) (hp.put c (.list (vs.map er)))):TW W A (newList vs) hp Q:=λfr s R=>
 wpAny_newObj_type ⟨_,R.alloc (o:= .list (vs.map er)) ⟨_,_,rfl,by simp,by simpa using hz⟩,h _ R.new_none⟩ (by show vs.toArray.size≤sizeLine;rw [List.size_toArray,sizeLine_eq];exact Nat.le_trans hz (by decide))
theorem GH {a:Addr}{xs:List V}{i:Int}{x:V}{u:Value}{Q:V→H→Prop}(h1:hp a=some (.list xs))(h0:0≤i)(hx:xs[i.toNat]?=some x)(hu:er u= .int i)(h:Q x hp):
  TW W A (getItem (.ref a) u) hp (λv hp'=>Q (er v) hp'):=λfr s R=>by
 refine bq λzq=> ?_
 obtain ⟨t,rfl⟩:=au hu
 obtain ⟨ws,hl,e,l⟩:=b5 R h1
 obtain ⟨hi,_⟩:=List.getElem?_eq_some_iff.mp hx
 apply zq;clear zq
 rw [←e,List.getElem?_map] at hx
 refine bq λzq=> ?_
 obtain ⟨v,hv,ev⟩:=Option.map_eq_some_iff.mp hx
 apply zq;clear zq
 refine wpAny_getItem_list hl h0 (by lia) (x:=v) (by simpa using hv) ⟨hp,R,?_⟩
 show Q (er v) hp
 rw [ev];exact h
theorem rY {a:Addr}{xs:List V}{i:Int}{u v:Value}{Q:Unit→H→Prop}(h1:hp a=some (.list xs))(h0:0≤i)(hi:i<xs.length)(hu:er u= .int i)(h:Q () (hp.put a (.list (xs.set i.toNat (er v))))):
  TW W A (setItem (.ref a) u v) hp Q:=λfr s R=>by
 refine bq λzq=> ?_
 obtain ⟨t,rfl⟩:=au hu
 obtain ⟨_,ho,ws,n,rfl,e,l⟩:=R.get h1
 apply zq;clear zq
 have hl:s.heap.IsList a ws:=⟨_,ho,rfl,n,rfl⟩
 have sz:=aX e
 unfold setItem
 try with_reducible refine wpAny_holding ?_
 first|refine wpAny_bind (wpAny_pure ?_)|skip
 refine wpAny_bind (wpAny_sequenceKey hl.typeIs (by decide) ?_)
 refine wpAny_bind (wpAny_callSpecial?_slot (name:=Str.ofString "__setitem__") hl.typeIs slot_list_setitem
  (wpAny_call_entry slot_list_setitem hl.typeIs entry_list_setitem ?_ (args_list_setitem _ _ _)))
 show wpAny _ _ (Builtin.List.listSubscript? (.int i t)>>=_) _ _ s
 refine wpAny_bind (wpAny_listSubscript_int (fitsIndex_of h0 (by lia)) ?_)
 obtain ⟨j,rfl⟩:=Int.eq_ofNat_of_zero_le h0
 have hj:j<ws.size:=by lia
 have hx':ws[j]?=some ws[j]:=Array.getElem?_eq_getElem hj
 show wpAny _ _ ((seqItemAt a j>>=λr=>pure (r.map (j, ·)))>>=_) _ _ s
 refine wpAny_bind (wpAny_bind (wpAny_seqItemAt ho rfl (wpAny_pure ?_)))
 rw [hx']
 show wpAny _ _ (setSeqItemAt a j v>>=_) _ _ s
 have up:(s.heap.update a (Obj.mapSeq (·.setIfInBounds j v))).get? a=some (Obj.mapSeq (·.setIfInBounds j v) (PySem.W.listOf ws n)):=Heap.get?_update_self _ ho rfl
 refine wpAny_bind (wpAny_setSeqItemAt ho rfl ?_)
 have fin:=R.upd (tk:=s.toks) (o':= .list (xs.set j (er v))) h1 (Heap.SameBut.update ..) up ⟨ws.setIfInBounds j v,n,by simp [Obj.mapSeq],by rw [←e];simp [List.map_set],by simpa using l⟩
 first
  |exact wpAny_bind (wpAny_pure (wpAny_pure ⟨.none,rfl,wpAny_pure ⟨_,fin,h⟩⟩))
  |exact wpAny_pure ⟨.none,rfl,wpAny_pure ⟨_,fin,h⟩⟩
theorem mM {a:Addr}{xs:List V}{v:Value}{Q:Value→H→Prop}(h1:hp a=some (.list xs))(hz:xs.length≤90000)(h:Q .none (hp.put a (.list (xs++[er v])))):
  TW W A (call (.builtin "list.append") [.ref a,v]) hp Q:=λfr s R=>by
 refine bq λzq=> ?_
 obtain ⟨_,ho,ws,n,rfl,e,l⟩:=R.get h1
 apply zq;clear zq
 have sz:=aX e
 refine append_at ho (λh' hs ho'=>⟨_,R.upd (tk:=s.toks) (o':= .list (xs++[er v])) h1 hs ho' ⟨_,_,rfl,by simp [e],by simp;exact Nat.le_trans hz (by decide)⟩,h⟩) (by rw [sizeLine_eq];exact Nat.le_trans (Nat.le_of_eq sz) (Nat.le_trans hz (by decide)))
end
inductive gu where
 |list (a:Addr) (xs:List V)
 |tup (a:Addr) (xs:List V)
 |bytes (b:List UInt8)
 |range (n:Int)
 |enum (a:Addr) (xs:List V)
noncomputable def gu.len:gu→Nat
 | .list _ xs=>xs.length
 | .tup _ xs=>xs.length
 | .bytes b=>b.length
 | .range n=>n.toNat
 | .enum _ xs=>xs.length
noncomputable def gu.ok (hp:H):gu→Prop
 | .list a xs=>hp a=some (.list xs)
 | .tup a xs=>hp a=some (.tup xs)
 | .enum a xs=>hp a=some (.list xs)
 |_=>True
noncomputable def gu.give (hp:H)(Q:V→H→Prop):gu→Nat→Prop
 | .list _ xs,i=>∀x,xs[i]?=some x→Q x hp
 | .tup _ xs,i=>∀x,xs[i]?=some x→Q x hp
 | .bytes b,i=>∀x,b[i]?=some x→Q (.int x.toNat) hp
 | .range _,i=>Q (.int i) hp
 | .enum _ xs,i=>∀x c,xs[i]?=some x→hp c=none→Q (.ref c) (hp.put c (.tup [.int i,x]))
noncomputable def xF (e:Expr):Bool:=Nat.beq e.ctorIdx 25
noncomputable def gu.fits:gu→Expr→Bool
 | .enum ..,t=>xF t
 |_,_=>true
inductive At:gu→Nat→Value→Heap→List Addr→Prop
 |list {a xs i it h}:h.IsListIter it a i→At (.list a xs) i (.ref it) h [it]
 |tup {a xs i it h}:h.IsTupleIter it a i→At (.tup a xs) i (.ref it) h [it]
 |bytes {b t i it h}:KBw.IsBytesIter h it b.toArray t i→At (.bytes b) i (.ref it) h [it]
 |range {n:Int} {i:Nat} {it h}:IsRangeIter h it i ((n.toNat:Int) - i) 1→At (.range n) i (.ref it) h [it]
 |enum {a xs} {i:Nat} {e it old h}:IsEnum h e it i old→h.IsListIter it a i→e≠it→At (.enum a xs) i (.ref e) h [e,it]
noncomputable def jJ (own:List Addr)(env:Env)(fr:Fz)(hp:H):Prop:=∀a∈own,fr a=none∧hp a=none∧a≠env.locals∧∀n c,env.cells.lookup n=some c→c≠a
section
variable {W:Wd}{A:Around}{env:Env}{fr:Fz}{vars:List (Str×V)}{hp:H}{s:Shared}{src:gu}{i:Nat}{y:Value}{own:List Addr}
theorem At.keeps {h h':Heap}(x:At src i y h own)(k:∀b∈own,∀o,h.get? b=some o→h'.get? b=some o):At src i y h' own:=by
 cases x with
 |list a=>obtain ⟨o,ho,r⟩:=a;exact .list ⟨o,k _ (.head _) _ ho,r⟩
 |tup a=>obtain ⟨o,ho,r⟩:=a;exact .tup ⟨o,k _ (.head _) _ ho,r⟩
 |bytes a=>obtain ⟨o,ho,r⟩:=a;exact .bytes ⟨o,k _ (.head _) _ ho,r⟩
 |range a=>exact .range (k _ (.head _) _ a)
 |enum a b n=>obtain ⟨o,ho,r⟩:=b;exact .enum (k _ (.head _) _ a) ⟨o,k _ (.tail _ (.head _)) _ ho,r⟩ n
theorem FR.keepBut {own:List Addr}(F:FR W env fr vars hp s)(O:jJ own env fr hp){h':Heap}{tk:Nat}(k:∀b o,b∉own→s.heap.get? b=some o→h'.get? b=some o):FR W env fr vars hp {s with heap:=h',toks:=tk}:=by
 have nL:env.locals∉own:=λq=>(O _ q).2.2.1 rfl
 refine bq λzq=> ?_
 obtain ⟨m,⟨oL,es,ep,ho,r⟩,says⟩:=F.ns
 apply zq;clear zq
 have N:h'.Ns env.locals m:=⟨oL,es,ep,k _ _ nL ho,r⟩
 refine ⟨⟨F.hr.hb,λa o e=>k a o (λq=>by rw [(O a q).1] at e;cases e) (F.hr.keep a o e),λa o e=>⟨(F.hr.dom a o e).1,?_⟩,F.hr.gens,F.hr.os,Nat.le_trans F.above (Nat.le_of_lt N.lt)⟩,⟨m,N,says⟩,λn c e=> ?_,F.has,F.Lfree,F.own,F.apart,F.above⟩
 ·refine bq λzq=> ?_
  obtain ⟨x,hx,r⟩:=(F.hr.dom a o e).2
  apply zq;clear zq
  exact ⟨x,k a x (λq=>by rw [(O a q).2.1] at e;cases e) hx,r⟩
 ·refine bq λzq=> ?_
  obtain ⟨v,⟨o,ho,hd⟩,r⟩:=F.cell n c e
  apply zq;clear zq
  exact ⟨v,⟨o,k c o (λq=>(O c q).2.2.2 n c e rfl) ho,hd⟩,r⟩
theorem jJ.put {own:List Addr}{D:Addr}{o:O}(O:jJ own env fr hp)(h:D∉own):jJ own env fr (hp.put D o):=λa ha=>by
 obtain ⟨x,y,z⟩:=O a ha
 exact ⟨x,by rw [H.put_ne (λq=>h (by rw [←q];exact ha))];exact y,z⟩
theorem Az {target:Expr}{T:Shared→Prop}{it:Addr}{v:Value}{o:Obj}{n:String}{vs:Array Value}(ho:s.heap.get? it=some o)(hc:o.cls= .type n)(hd:o.data= .fields vs)
  (hn:(["enumerate","zip","dict_itemiterator","dict_reverseitemiterator","odict_iterator","itertools.zip_longest","itertools.pairwise"]:List String).contains n=false) (t:T s):wpAny (model W.prog W.w) A (letOwnedTupleGo target (.ref it) v) (λ_=>T) F1 s:=by
 cases target with
 |Tuple e c p=>cases v with
  |ref a=>
   refine wpAny_bind (wpAny_load ho ?_)
   rw [hc,hd]
   dsimp only
   rw [hn]
   exact wpAny_pure t
  |_=>exact wpAny_pure t
 |List e p=>cases v with
  |ref a=>
   refine wpAny_bind (wpAny_load ho ?_)
   rw [hc,hd]
   dsimp only
   rw [hn]
   exact wpAny_pure t
  |_=>exact wpAny_pure t
 |_=>exact wpAny_pure t
noncomputable def NL (W:Wd)(A:Around)(target:Expr)(y:Value)(T:Value→Shared→Prop)(r:Option Value)(s₁:Shared):Prop:=∃v,r=some v∧wpAny (model W.prog W.w) A (letOwnedTupleGo target y v) (λ_ s₂=>T v s₂) F1 s₁
theorem FR.one {it:Addr}{h':Heap}{tk:Nat}(F:FR W env fr vars hp s)(O:jJ own env fr hp)(m:it∈own)(hs:∀b,b≠it→h'.get? b=s.heap.get? b):FR W env fr vars hp {s with heap:=h',toks:=tk}:=
 F.keepBut O λb ob nb e=>(hs b λq=>nb (by rw [q];exact m)).trans e
theorem NL.plain {target:Expr}{T:Value→Shared→Prop}{it:Addr}{v:Value}{o:Obj}{n:String}{vs:Array Value}(hn:(["enumerate","zip","dict_itemiterator","dict_reverseitemiterator","odict_iterator","itertools.zip_longest","itertools.pairwise"]:List String).contains n=false)(ho:s.heap.get? it=some o)(hc:o.cls= .type n)(hd:o.data= .fields vs)(t:T v s):NL W A target (.ref it) T (some v) s:=⟨_,rfl,Az ho hc hd hn t⟩
theorem AP {target:Expr}{T:Value→Shared→Prop}{a e it:Addr}{xs:List V}{i:Nat}{old:Value}(F:FR W env fr vars hp s)(O:jJ [e,it] env fr hp)(ok:hp a=some (.list xs))(hi:i<xs.length)(ft:xF target=true)(he:IsEnum s.heap e it i old)(hit:s.heap.IsListIter it a i)(hne:e≠it)
  (Q:V→H→Prop) (g:(gu.enum a xs).give hp Q i) (k:∀v hp' s',FR W env fr vars hp' s'→At (.enum a xs) (i+1) (.ref e) s'.heap [e,it]→jJ [e,it] env fr hp'→Q (er v) hp'→T v s'):wpAny (model W.prog W.w) A (pyNext (.ref e)) (NL W A target (.ref e) T) F1 s:=by
 refine bq λzq=> ?_
 rcases b5 F.hr ok with ⟨ws,hl,ee,l⟩
 have hlt:i<ws.size:=by rw [aX ee];exact hi
 refine zq (wpAny_pyNext_enum_item he hit hl (Array.getElem?_eq_getElem hlt) hne λh₁ heo hit₁ ht₁ hz₁ hk₁=>⟨_,rfl,?_⟩)
 cases target with
 |Tuple elts x1 pos=>
  refine wpAny_letOwnedTupleGo_enum heo λh₂ he₂ hs₂=> ?_
  have vac:=F.vacant (new_none s.heap)
  have nsz:s.heap.objs.size∉[e,it]:=λq=>(List.mem_cons.mp q).elim (λq=>Nat.lt_irrefl _ (by have:=Heap.lt_size he;rw [←q] at this;exact this)) λq=>hit.elim λo z=>Nat.lt_irrefl _ (by have:=Heap.lt_size z.1;rw [←List.mem_singleton.mp q] at this;exact this)
  have ht₂:h₂.get? s.heap.objs.size=some {cls:= .type "tuple",data:= .seq #[.int i s.toks,ws[i]]}:=(hs₂.2 _ (λq=>nsz (by rw [q];exact .head _))).trans ht₁
  refine k _ _ _ (FR.put (o:= .tup [.int i,er ws[i]]) (F.keepBut (h':=h₂) (tk:=s.toks+1) O λb ob nb eb=> ?_) ht₂ ⟨_,_,rfl,rfl,by simp⟩ vac.2.1 vac.2.2.1 vac.2.2.2) (.enum he₂ (Exists.imp (λo z=>⟨(hs₂.2 _ (Ne.symm hne)).trans z.1,z.2⟩) hit₁) hne) (O.put nsz) (g _ _ ?_ vac.1)
  ·have n1:b≠e:=λq=>nb (by rw [q];exact .head _)
   exact (hs₂.2 b n1).trans (hk₁ b ob n1 (λq=>nb (by rw [q];exact .tail _ (.head _))) eb)
  ·rw [←ee];simp [hlt]
 |_=>cases ft
theorem rG {target:Expr}{T:Value→Shared→Prop}(F:FR W env fr vars hp s)(X:At src i y s.heap own)(O:jJ own env fr hp)(ok:src.ok hp)(hi:i<src.len)(ft:src.fits target=true)
  (Q:V→H→Prop) (g:src.give hp Q i) (k:∀v hp' s',FR W env fr vars hp' s'→At src (i+1) y s'.heap own→jJ own env fr hp'→Q (er v) hp'→T v s'):
  wpAny (model W.prog W.w) A (pyNext y) (NL W A target y T) F1 s:=by
 cases X with
 | @list a xs _ it _ hit=>
  refine bq λzq=> ?_
  rcases b5 F.hr ok with ⟨ws,hl,e,l⟩
  have hlt:i<ws.size:=by rw [aX e];exact hi
  refine zq (wpAny_pyNext_list_item hit hl (Array.getElem?_eq_getElem hlt) λh' hit' hs=>hit'.elim λo z=> .plain (by decide) z.1 z.2.1 z.2.2 (k _ hp _ (F.one O (.head _) hs.2) (.list hit') O (g _ ?_)))
  rw [←e];simp [hlt]
 | @tup a xs _ it _ hit=>
  refine bq λzq=> ?_
  rcases ie F.hr ok with ⟨ws,hl,e,l⟩
  have hlt:i<ws.size:=by rw [aX e];exact hi
  refine zq (wpAny_pyNext_tuple_item hit hl (Array.getElem?_eq_getElem hlt) λh' hit' hs=>hit'.elim λo z=> .plain (by decide) z.1 z.2.1 z.2.2 (k _ hp _ (F.one O (.head _) hs.2) (.tup hit') O (g _ ?_)))
  rw [←e];simp [hlt]
 | @bytes b t _ it _ hit=>
  refine KBw.next_item hit (Array.getElem?_eq_getElem (show i<b.toArray.size from hi)) λh' hit' hs=>hit'.elim λo z=> .plain (by decide) z.1 z.2.1 z.2.2 (k _ hp _ (F.one O (.head _) hs.2) (.bytes hit') O (g _ ?_))
  simp [show i<b.length from hi]
 | @range n _ it _ hit=>
  have hlt:i<n.toNat:=hi
  refine wpAny_pyNext_range_item hit (Int.sub_pos.mpr (Int.ofNat_lt.mpr hlt)) λh' hit' hs=> .plain (by decide) hit' rfl rfl (k _ hp _ (F.one O (.head _) hs.2) (.range ?_) O g)
  rw [show ((n.toNat:Int) - ((i+1:Nat):Int))=(n.toNat:Int) - (i:Int) - 1 by lia];exact hit'
 | @enum a xs _ e it old _ he hit hne=>exact AP F O ok hi ft he hit hne Q g k
theorem vQ {T:Shared→Prop}(hh:A.handled=none)(F:FR W env fr vars hp s)(X:At src i y s.heap own)(O:jJ own env fr hp)(ok:src.ok hp)(hi:i=src.len)(k:∀s',FR W env fr vars hp s'→T s'):
  wpAny (model W.prog W.w) A (pyNext y) (λr s₁=>r=none∧T s₁) F1 s:=by
 subst hi
 have fin:∀it∈own,∀h',Heap.ExtBut it s.heap h'→T {s with heap:=h'}:=λit hit h' hs=>k _ (F.keepBut (tk:=s.toks) O λb o nb e=>hs b o (λq=>nb (q▸hit)) e)
 cases X with
 | @list a xs _ it _ hit=>
  refine bq λzq=> ?_
  obtain ⟨ws,hl,e,l⟩:=b5 F.hr ok
  apply zq;clear zq
  exact wpAny_pyNext_list_end hh hit hl (by simp [gu.len,←aX e]) λh' hs=>⟨rfl,fin it (.head _) h' hs⟩
 | @tup a xs _ it _ hit=>
  refine bq λzq=> ?_
  obtain ⟨ws,hl,e,l⟩:=ie F.hr ok
  apply zq;clear zq
  exact wpAny_pyNext_tuple_end hh hit hl (by simp [gu.len,←aX e]) λh' hs=>⟨rfl,fin it (.head _) h' hs⟩
 | @bytes b t _ it _ hit=>exact KBw.next_end hh hit (by simp [gu.len]) λh' hs=>⟨rfl,fin it (.head _) h' hs⟩
 | @range n _ it _ hit=>exact wpAny_pyNext_range_end hh hit (by simp [gu.len]) λh' hs=>⟨rfl,fin it (.head _) h' hs⟩
 | @enum a xs _ e it old _ he hit hne=>
  refine bq λzq=> ?_
  obtain ⟨ws,hl,ee,l⟩:=b5 F.hr ok
  apply zq;clear zq
  exact wpAny_pyNext_enum_end hh he hit hl (by simp [gu.len,←aX ee]) λh' hs=>⟨rfl,fin it (.tail _ (.head _)) h' hs⟩
end
section
variable {W:Wd}{A:Around}{env:Env}{fr fr':Fz}{vars:List (Str×V)}{hp:H}{s:Shared}{src:gu}{i:Nat}{y:Value}{own:List Addr}
theorem Aj {p:Addr→Prop}{a:Addr}(x:p a):∀b∈[a],p b:=λb m=>List.mem_singleton.mp m▸x
theorem Oi {p:Addr→Prop}{a c:Addr}(x:p a)(y:p c):∀b∈[a,c],p b:=λb m=>(List.mem_cons.mp m).elim (λe=>e▸x) (Aj y b)
theorem At.live {h:Heap}(x:At src i y h own):∀b∈own,∃o,h.get? b=some o:=by
 cases x with
 |list a=>exact Aj (Exists.imp (λ_ q=>q.1) a)
 |tup a=>exact Aj (Exists.imp (λ_ q=>q.1) a)
 |bytes a=>exact Aj (Exists.imp (λ_ q=>q.1) a)
 |range a=>exact Aj ⟨_,a⟩
 |enum a c n=>exact Oi ⟨_,a⟩ (Exists.imp (λ_ q=>q.1) c)
noncomputable def EF (fr:Fz)(own:List Addr)(s:Shared):Fz:=λa=>if a∈own then s.heap.get? a else fr a
theorem FR.freeze (F:FR W env fr vars hp s)(O:jJ own env fr hp):FR W env (EF fr own s) vars hp s:=by
 have out:∀a,a∉own→EF fr own s a=fr a:=λa n=>if_neg n
 have base:∀a o,fr a=some o→EF fr own s a=some o:=λa o e=>by rw [out a (λq=>by rw [(O a q).1] at e;cases e)];exact e
 refine ⟨⟨λa o e=>base a o (F.hr.hb a o e),λa o e=> ?_,λa o e=>⟨?_,(F.hr.dom a o e).2⟩,F.hr.gens,F.hr.os,F.hr.size⟩,F.ns,F.cell,F.has,⟨?_,F.Lfree.2⟩,λn c e=>⟨(F.own n c e).1,(F.own n c e).2.1,λq k=> ?_⟩,F.apart,F.above⟩
 ·unfold EF at e;split at e
  ·exact e
  ·exact F.hr.keep a o e
 ·rw [out a (λq=>by rw [(O a q).2.1] at e;cases e)];exact (F.hr.dom a o e).1
 ·rw [out _ (λq=>(O _ q).2.2.1 rfl)];exact F.Lfree.1
 ·rw [out c (λz=>(O c z).2.2.2 n c e rfl)];exact (F.own n c e).2.2 q k
theorem FR.melt (F:FR W env fr' vars hp s)(hb:∀a o,W.base.get? a=some o→fr a=some o)(k:∀a o,fr a=some o→fr' a=some o):FR W env fr vars hp s:=by
 have no:∀a,fr' a=none→fr a=none:=λa e=>by
  cases q:fr a with
  |none=>rfl
  |some o=>rw [k a o q] at e;cases e
 exact ⟨⟨hb,λa o e=>F.hr.keep a o (k a o e),λa o e=>⟨no a (F.hr.dom a o e).1,(F.hr.dom a o e).2⟩,F.hr.gens,F.hr.os,F.hr.size⟩,F.ns,F.cell,F.has,⟨no _ F.Lfree.1,F.Lfree.2⟩,
  λn c e=>⟨(F.own n c e).1,(F.own n c e).2.1,λq z=>no c ((F.own n c e).2.2 q z)⟩,F.apart,F.above⟩
theorem sI (O:jJ own env fr hp):∀a o,fr a=some o→EF fr own s a=some o:=λa o e=>by
 unfold EF;rw [if_neg (λq=>by rw [(O a q).1] at e;cases e)];exact e
theorem mS {vars':List (Str×V)}{hp':H}{s':Shared}(X:At src i y s.heap own)(O:jJ own env fr hp)(F':FR W env (EF fr own s) vars' hp' s'):At src i y s'.heap own∧jJ own env fr hp':=by
 have live:=X.live
 refine ⟨X.keeps λb hb o e=>F'.hr.keep b o (by unfold EF;rw [if_pos hb];exact e),λb hb=>⟨(O b hb).1,?_,(O b hb).2.2⟩⟩
 obtain ⟨o,ho⟩:=live b hb
 cases q:hp' b with
 |none=>rfl
 |some x=>have:=(F'.hr.dom b x q).1;unfold EF at this;rw [if_pos hb,ho] at this;cases this
inductive y8 (env:Env)(fr:Fz)(hp:H):gu→Value→Shared→Prop
 |list {a xs s}:hp a=some (.list xs)→y8 env fr hp (.list a xs) (.ref a) s
 |tup {a xs s}:hp a=some (.tup xs)→y8 env fr hp (.tup a xs) (.ref a) s
 |bytes {b t s}:y8 env fr hp (.bytes b) (.bytes b.toArray t) s
 |range {n r t u v s}:IsRange s.heap r 0 n 1 t u v→0≤n→n<100000→y8 env fr hp (.range n) (.ref r) s
 |enum {a xs e it s}:hp a=some (.list xs)→IsEnum s.heap e it 0 .none→s.heap.IsListIter it a 0→e≠it→jJ [e,it] env fr hp→y8 env fr hp (.enum a xs) (.ref e) s
theorem oF {x:Obj}(F:FR W env fr vars hp s):jJ [s.heap.objs.size] env fr hp:=λa ha=>by
 cases ha with
 |head=>obtain ⟨a,b,c,d⟩:=F.vacant (new_none s.heap);exact ⟨b,a,c,d⟩
 |tail _ q=>cases q
theorem FR.push (F:FR W env fr vars hp s)(x:Obj):FR W env fr vars hp {s with heap:=s.heap.push x}:=
 F.keepBut (own:=[]) (tk:=s.toks) (λ_ q=>nomatch q) λ_ _ _ e=>Heap.get?_push_of_some _ e
theorem uG {n:Int}(h0:0≤n)(h1:n<100000):Builtin.Range.small 0 n 1=true:=by
 unfold Builtin.Range.small
 rw [rangeSize_nat]
 unfold Builtin.Range.rangeFitsLong
 simp only [Bool.and_eq_true,decide_eq_true_eq,Bool.or_eq_true,beq_iff_eq]
 refine ⟨⟨⟨⟨?_,?_⟩,?_⟩,?_⟩,.inr ?_⟩
 all_goals first|lia|(simp;lia)
theorem qk {x:Value}{T:Value→Shared→Prop}(F:FR W env fr vars hp s)(X:y8 env fr hp src x s)(k:∀y s' own,FR W env fr vars hp s'→At src 0 y s'.heap own→jJ own env fr hp→T y s'):
  wpAny (model W.prog W.w) A (pyIter x) T F1 s:=by
 cases X with
 |list h=>
  obtain ⟨ws,hl,e,l⟩:=b5 F.hr h
  exact wpAny_pyIter_list hl (k _ _ _ (F.push _) (.list ⟨_,Heap.get?_push_size _ rfl,rfl,rfl⟩) (oF (x:={cls:= .none}) F))
 |tup h=>
  obtain ⟨ws,hl,e,l⟩:=ie F.hr h
  exact wpAny_pyIter_tuple hl (k _ _ _ (F.push _) (.tup ⟨_,Heap.get?_push_size _ rfl,rfl,rfl⟩) (oF (x:={cls:= .none}) F))
 |bytes=>exact KBw.pyIter_bytes (k _ _ _ (F.push _) (.bytes ⟨_,Heap.get?_push_size _ rfl,rfl,rfl⟩) (oF (x:={cls:= .none}) F))
 | @range n r t u v _ h hn hm=>
  refine wpAny_pyIter_range h (uG hn hm) (k _ _ _ (F.push _) (.range (i:=0) ?_) (oF (x:={cls:= .none}) F))
  rw [rangeSize_nat]
  exact (Heap.get?_push_size _ rfl).trans (by simp)
 |enum h he hit ne O=>exact wpAny_pyIter_enum he (k _ _ _ F (.enum he hit ne) O)
theorem yR {T:Value→Shared→Prop}(X:At src i y s.heap own)(k:T y s):wpAny (model W.prog W.w) A (pyIter y) T F1 s:=by
 cases X with
 |list a=>exact wpAny_pyIter_listiter a k
 |tup a=>exact wpAny_pyIter_tupleiter a k
 |bytes a=>exact KBw.pyIter_self a k
 |range a=>exact wpAny_pyIter_rangeiter a k
 |enum a b n=>exact wpAny_pyIter_enum a k
noncomputable def oq (W:Wd)(A:Around)(env:Env)(vars:List (Str×V))(t:Sem Value)(hp:H)(Q:gu→H→Prop):Prop:=
 ∀fr s,FR W env fr vars hp s→aT (model W.prog W.w) A t (λx s'=>∃hp' src,FR W env fr vars hp' s'∧y8 env fr hp' src x s'∧Q src hp') s
theorem tS {i l n:Nat}(h:i<l)(e:n=l+1 - i):l+1 - (i+1)<n:=by omega
noncomputable def Pd (W:Wd)(env:Env)(fr:Fz)(src:gu)(y:Value)(own:List Addr)(I:Nat→List (Str×V)→H→Prop)(n:Nat)(s:Shared):Prop:=∃i vars hp,FR W env fr vars hp s∧At src i y s.heap own∧jJ own env fr hp∧I i vars hp∧i≤src.len∧n=src.len+1 - i
noncomputable def NO (W:Wd)(env:Env)(fr:Fz)(Q:List (Str×V)→H→Prop)(s:Shared):Prop:=∃vars hp,FR W env fr vars hp s∧Q vars hp
noncomputable def Pm (W:Wd)(A:Around)(env:Env)(target:Expr)(body:List Stmt)(R:Flow→Shared→Prop)(v:Value):Shared→Prop:=aT (model W.prog W.w) A (assign target env v) λ_=>aT (model W.prog W.w) A (execs body env) R
noncomputable def Ow (W:Wd)(A:Around)(env:Env)(target:Expr)(body orelse:List Stmt)(Q:Flow→List (Str×V)→H→Prop)(src:gu)(vars:List (Str×V))(hp:H)(I:Nat→List (Str×V)→H→Prop):Prop:=I 0 vars hp∧
 (∀i vars' hp',i<src.len→I i vars' hp'→src.ok hp'∧src.give hp' (λx hp₂=>∀v,er v=x→SW W A env (assign target env v) vars' hp₂ λ_ vars₃ hp₃=>SW W A env (execs body env) vars₃ hp₃ (Lr (I (i+1)) (Q .next) λv=>Q (.ret v))) i)∧
 (∀vars' hp',I src.len vars' hp'→src.ok hp'∧SW W A env (execs orelse env) vars' hp' Q)
theorem J7 {target iter:Expr}{body orelse:List Stmt}{pos:Pos}{Q:Flow→List (Str×V)→H→Prop}(hh:A.handled=none)(hset:∀x,foldedSetIterable iter env x=pure x)
  (h:oq W A env vars (eval iter env) hp λsrc hp₁=>src.fits target=true∧∃I,Ow W A env target body orelse Q src vars hp₁ I):
  SW W A env (exec (.For target iter body orelse pos) env) vars hp Q:=λfr s F=>by
 refine FQ (a9 (h fr s F) (λx s₁ zz=>bq λzq=> ?_)) hset
 rcases zz with ⟨hp₁,src,F₁,X,ft,I,h0,step,fin⟩
 refine zq (aT.of (qk F₁ X λy s₂ own F₂ X₂ O₂=> ?_))
 clear zq
 refine qH (Pd W env fr src y own I) ?_ (src.len+1) ⟨0,vars,hp₁,F₂,X₂,O₂,h0,Nat.zero_le _,rfl⟩
 refine λn s' zz=>bq λzq=> ?_
 rcases zz with ⟨i,vars',hp',F',X',O',hI,hi,en⟩
 by_cases hlt:i<src.len
 ·rcases step i vars' hp' hlt hI with ⟨ok,g⟩
  refine zq (a9 (aT.of (rG (T:=Pm W A env target body (Lr (λs₃=>∃m,m<n∧Pd W env fr src y own I m s₃) (NO W env fr (Q .next)) λv=>NO W env fr (Q (.ret v)))) F' X' O' ok hlt ft _ g λv hp₃ s₃ F₃ X₃ O₃ q=> ?_)) (λr s₁ zz=> ?_))
  ·refine a9 (q v rfl _ s₃ (F₃.freeze O₃)) (λ_ s₄ zz=>bq λzq=> ?_)
   rcases zz with ⟨vars₄,hp₄,F₄,q₄⟩
   refine zq (a9 (q₄ _ s₄ F₄) (λfl s₅ zz=>bq λzq=> ?_))
   rcases zz with ⟨vars₅,hp₅,F₅,q₅⟩
   rcases mS X₃ O₃ F₅ with ⟨X₅,O₅⟩
   have F₅':=F₅.melt F.hr.hb (sI O₃)
   refine zq ?_
   cases fl with
   |next=>exact ⟨_,tS hlt en,i+1,vars₅,hp₅,F₅',X₅,O₅,q₅,hlt,rfl⟩
   |cont=>exact ⟨_,tS hlt en,i+1,vars₅,hp₅,F₅',X₅,O₅,q₅,hlt,rfl⟩
   |brk=>exact ⟨vars₅,hp₅,F₅',q₅⟩
   |ret v=>exact ⟨vars₅,hp₅,F₅',q₅⟩
  ·rcases zz with ⟨v,e,t⟩
   rw [e]
   exact aT.of t
 ·have he:=Nat.le_antisymm hi (Nat.not_lt.mp hlt)
  rcases fin vars' hp' (he▸hI) with ⟨ok,f⟩
  refine zq (a9 (aT.of (vQ (T:=λs₁=>FR W env fr vars' hp' s₁) hh F' X' O' ok he λs₁ F₁=>F₁)) (λr s₁ zz=> ?_))
  rw [zz.1]
  exact f fr s₁ zz.2
theorem Ce {test:Expr}{body orelse:List Stmt}{pos:Pos}{Q:Flow→List (Str×V)→H→Prop}(I:Nat→List (Str×V)→H→Prop)(n:Nat)(h0:I n vars hp)
  (step:∀n vars' hp',I n vars' hp'→EW W A env vars' (isTrue test env (eval test env)) hp' λb hp₁=>
   if b then SW W A env (execs body env) vars' hp₁ (Lr (λvars₂ hp₂=>∃m,m<n∧I m vars₂ hp₂) (Q .next) λv=>Q (.ret v))
   else SW W A env (execs orelse env) vars' hp₁ Q):
  SW W A env (exec (.While test body orelse pos) env) vars hp Q:=λfr s F=>by
 refine Ai (ot (λn=>NO W env fr (I n)) ?_ n ⟨vars,hp,F,h0⟩)
 refine λn s' zz=>bq λzq=> ?_
 rcases zz with ⟨vars',hp',F',hI⟩
 refine zq (a9 (step n vars' hp' hI fr s' F') (λb s₁ zz=>bq λzq=> ?_))
 rcases zz with ⟨hp₁,F₁,q⟩
 refine zq ?_
 clear zq
 cases b with
 |false=>exact q fr s₁ F₁
 |true=>
  refine a9 (q fr s₁ F₁) (λfl s₂ zz=>bq λzq=> ?_)
  rcases zz with ⟨vars₂,hp₂,F₂,q₂⟩
  refine zq ?_
  cases fl with
  |next=>exact q₂.elim λm z=>⟨m,z.1,vars₂,hp₂,F₂,z.2⟩
  |cont=>exact q₂.elim λm z=>⟨m,z.1,vars₂,hp₂,F₂,z.2⟩
  |brk=>exact ⟨vars₂,hp₂,F₂,q₂⟩
  |ret v=>exact ⟨vars₂,hp₂,F₂,q₂⟩
end
section
variable {W:Wd}{A:Around}{env:Env}{fr fr':Fz}{vars:List (Str×V)}{hp:H}{s:Shared}{src:gu}{i:Nat}{y:Value}{own:List Addr}
noncomputable def iceBut (S:List Addr)(hp:H)(s:Shared):Fz:=λa=>if a∈S then none else iV hp s a
theorem HR.iceBut {S:List Addr}(R:HR W fr hp s)(hS:∀a∈S,fr a=none):HR W (iceBut S hp s) hp s:=by
 have I:=R.ice
 refine ⟨λa o e=> ?_,λa o e=> ?_,λa o e=>⟨?_,(R.dom a o e).2⟩,R.gens,R.os,R.size⟩
 ·unfold Mine.iceBut;rw [if_neg (λq=>by have:=R.hb a o e;rw [hS a q] at this;cases this)];exact I.hb a o e
 ·unfold Mine.iceBut at e;split at e
  ·cases e
  ·exact I.keep a o e
 ·unfold Mine.iceBut;split
  ·rfl
  ·exact (I.dom a o e).1
theorem FR.thawBut {S:List Addr}{hp':H}{s':Shared}(F:FR W env fr vars hp s)(O:jJ S env fr hp)(R':HR W (iceBut S hp s) hp' s'):FR W env fr vars hp' s':=by
 have stay:∀a o,a∉S→hp a=none→s.heap.get? a=some o→s'.heap.get? a=some o∧hp' a=none:=λa o nS n e=>by
  have k:iceBut S hp s a=some o:=by unfold iceBut iV;rw [if_neg nS,n];exact e
  refine ⟨R'.keep a o k,?_⟩
  cases q:hp' a with
  |none=>rfl
  |some x=>have:=(R'.dom a x q).1;rw [k] at this;cases this
 have nL:env.locals∉S:=λq=>(O _ q).2.2.1 rfl
 have nC:∀n c,env.cells.lookup n=some c→c∉S:=λn c e q=>(O c q).2.2.2 n c e rfl
 have key:∀a o,fr a=some o→a∉S∧hp a=none:=λa o e=>⟨λq=>(by rw [(O a q).1] at e;cases e),by
  cases h:hp a with
  |some o'=>have:=(F.hr.dom a o' h).1;rw [e] at this;cases this
  |none=>rfl⟩
 refine ⟨⟨F.hr.hb,λa o e=>(stay a o (key a o e).1 (key a o e).2 (F.hr.keep a o e)).1,λa o e=>⟨?_,(R'.dom a o e).2⟩,R'.gens,R'.os,R'.size⟩,?_,λn c e=> ?_,F.has,⟨F.Lfree.1,?_⟩,λn c e=> ?_,F.apart,F.above⟩
 ·cases h:fr a with
  |none=>rfl
  |some x=>rw [(stay a x (key a x h).1 (key a x h).2 (F.hr.keep a x h)).2] at e;cases e
 ·refine bq λzq=> ?_
  obtain ⟨m,⟨o,es,ep,ho,r⟩,h⟩:=F.ns
  apply zq;clear zq
  exact ⟨m,⟨o,es,ep,(stay _ _ nL F.Lfree.2 ho).1,r⟩,h⟩
 ·refine bq λzq=> ?_
  obtain ⟨v,⟨o,ho,hd⟩,r⟩:=F.cell n c e
  apply zq;clear zq
  exact ⟨v,⟨o,(stay _ _ (nC n c e) (F.own n c e).1 ho).1,hd⟩,r⟩
 ·refine bq λzq=> ?_
  obtain ⟨m,⟨o,es,ep,ho,r⟩,h⟩:=F.ns
  apply zq;clear zq
  exact (stay _ _ nL F.Lfree.2 ho).2
 ·refine bq λzq=> ?_
  obtain ⟨v,⟨o,ho,hd⟩,r⟩:=F.cell n c e
  apply zq;clear zq
  exact ⟨(stay _ _ (nC n c e) (F.own n c e).1 ho).2,(F.own n c e).2⟩
noncomputable def dj (sc:Scope):List Str:=(sc.names.filter λp=>p.2== .free).map (·.1)
noncomputable def x7 (vars:List (Str×V))(sc:Scope):List (Str×V):=(dj sc).filterMap λn=>(vars.lookup n).map λx=>(n,x)
theorem xx {sc:Scope}(h:∀n∈dj sc,(env.cells.lookup n).isSome=true):∃cl,closureFor sc env=pure cl∧(∀n c,cl.lookup n=some c→env.cells.lookup n=some c∧n∈dj sc)∧∀n∈dj sc,(cl.lookup n).isSome=true:=by
 have g:∀(names:List (Str×NameKind)) (acc:List (Str×Addr)),(∀p∈names,p.2= .free→(env.cells.lookup p.1).isSome=true)→(∀n c,acc.lookup n=some c→env.cells.lookup n=some c)→
   ∃cl,(forIn names acc λp cs=>(do if p.2==NameKind.free then pure (.yield ((p.1,←cellOf env p.1)::cs)) else pure (.yield cs):Sem (ForInStep (List (Str×Addr)))))=pure cl∧
    (∀n c,cl.lookup n=some c→env.cells.lookup n=some c∧(n∈(names.filter λp=>p.2== .free).map (·.1)∨(acc.lookup n).isSome=true))∧(∀n,(acc.lookup n).isSome=true→(cl.lookup n).isSome=true)∧∀n∈(names.filter λp=>p.2== .free).map (·.1),(cl.lookup n).isSome=true:=by
  intro names
  induction names with
  |nil=>intro acc _ ha;exact ⟨acc,by rw [List.forIn_nil],λn c e=>⟨ha n c e,.inr (by rw [e];rfl)⟩,λn e=>e,λn hn=>by cases hn⟩
  |cons p r ih=>
   intro acc hn ha
   by_cases hp:(p.2==NameKind.free)=true
   ·refine bq λzq=> ?_
    obtain ⟨c,hc⟩:=Option.isSome_iff_exists.mp (hn p (List.mem_cons_self ..) (beq_iff_eq.mp hp))
    obtain ⟨cl,e1,e2,e3,e4⟩:=ih ((p.1,c)::acc) (λq hq=>hn q (List.mem_cons_of_mem _ hq)) (λn c' e=>by
     rw [List.lookup_cons] at e
     by_cases z:n=p.1
     ·subst z;simp at e;rw [←e];exact hc
     ·rw [beq_eq_false_iff_ne.mpr z] at e;exact ha n c' e)
    apply zq;clear zq
    refine ⟨cl,?_,λn c' e=> ?_,λn e=>e3 n ?_,λn hn'=> ?_⟩
    ·rw [List.forIn_cons]
     have:cellOf env p.1=pure c:=by unfold cellOf;rw [hc]
     simp only [hp,if_true,this]
     exact e1
    ·obtain ⟨q1,q2⟩:=e2 n c' e
     refine ⟨q1,?_⟩
     rcases q2 with q2|q2
     ·left;rw [List.filter_cons,if_pos hp];exact List.mem_cons_of_mem _ q2
     ·rw [List.lookup_cons] at q2
      by_cases z:n=p.1
      ·left;rw [List.filter_cons,if_pos hp,z];exact List.mem_cons_self ..
      ·rw [beq_eq_false_iff_ne.mpr z] at q2;exact .inr q2
    ·rw [List.lookup_cons];split
     ·rfl
     ·exact e
    ·rw [List.filter_cons,if_pos hp,List.map_cons] at hn'
     rcases List.mem_cons.mp hn' with rfl|hn'
     ·exact e3 _ (by rw [List.lookup_cons];simp)
     ·exact e4 n hn'
   ·refine bq λzq=> ?_
    obtain ⟨cl,e1,e2,e3,e4⟩:=ih acc (λq hq=>hn q (List.mem_cons_of_mem _ hq)) ha
    apply zq;clear zq
    refine ⟨cl,?_,λn c' e=> ?_,e3,λn hn'=> ?_⟩
    ·rw [List.forIn_cons];simp only [hp,if_false];exact e1
    ·rw [List.filter_cons,if_neg hp];exact e2 n c' e
    ·rw [List.filter_cons,if_neg hp] at hn';exact e4 n hn'
 obtain ⟨cl,e1,e2,_,e4⟩:=g sc.names [] (λp hp q=>h p.1 (List.mem_map_of_mem (f:=(·.1)) (List.mem_filter.mpr ⟨hp,by rw [q];rfl⟩))) (λn c e=>by cases e)
 refine ⟨cl,?_,λn c e=>⟨(e2 n c e).1,(e2 n c e).2.resolve_right (by simp)⟩,e4⟩
 unfold closureFor
 show (forIn sc.names [] _>>=λcs=>pure cs)=_
 have:∀{t:Sem (List (Str×Addr))} {c},t=pure c→(t>>=λcs=>pure cs)=pure c:=by rintro _ c rfl;rfl
 refine this (Eq.trans ?_ e1)
 congr 1
theorem sL {Q:Bool→H→Prop}(h:Q true hp):EW W A env vars (kQ [] env) hp Q:=EW.pure h
theorem ta {c:Expr}{Q:Bool→H→Prop}(h:EW W A env vars (isTrue c env (eval c env)) hp Q):EW W A env vars (kQ [c] env) hp Q:=λfr s F=>by
 unfold kQ
 simp only [List.forIn_cons,List.forIn_nil,if_true]
 exact a7 (a7 (a9 (h fr s F) (λb s' hb=>a8 (a8 hb))))
theorem js {sc:Scope}{n:Str}{x:V}(h:(x7 vars sc).lookup n=some x):n∈dj sc∧vars.lookup n=some x:=by
 unfold x7 at h
 generalize dj sc=l at h⊢
 induction l with
 |nil=>cases h
 |cons a r ih=>
  rw [List.filterMap_cons] at h
  cases q:vars.lookup a with
  |none=>rw [q] at h;obtain ⟨x,y⟩:=ih h;exact ⟨List.mem_cons_of_mem _ x,y⟩
  |some z=>
   rw [q] at h
   dsimp only [Option.map_some] at h
   rw [List.lookup_cons] at h
   by_cases e:n=a
   ·subst e;simp at h;exact ⟨List.mem_cons_self ..,by rw [q,h]⟩
   ·rw [beq_eq_false_iff_ne.mpr e] at h;obtain ⟨x,y⟩:=ih h;exact ⟨List.mem_cons_of_mem _ x,y⟩
theorem e9:∀{l:List (Str×NameKind)},(l.map (·.1)).Nodup→∀{n:Str}{k:NameKind},(n,k)∈l→l.lookup n=some k
 |[],_,_,_,h=>nomatch h
 |(a,b)::r,nd,n,k,h=>by
  rw [List.map_cons,List.nodup_cons] at nd
  rw [List.lookup_cons]
  refine bq λzq=> ?_
  rcases List.mem_cons.mp h with e|h
  ·apply zq;clear zq
   cases e;simp
  ·apply zq;clear zq
   have:n≠a:=λe=>nd.1 (e▸List.mem_map_of_mem (f:=(·.1)) h)
   rw [beq_eq_false_iff_ne.mpr this];exact e9 nd.2 h
theorem gp {sc:Scope}(nd:(sc.names.map (·.1)).Nodup){n:Str}(h:n∈dj sc):(relabel sc env).names.lookup n=some .cell∨(relabel sc env).names.lookup n=some .free:=by
 obtain ⟨p,hp,rfl⟩:=List.mem_map.mp h
 obtain ⟨hp,hk⟩:=List.mem_filter.mp hp
 have hk':=beq_iff_eq.mp hk
 have nd':((relabel sc env).names.map (·.1)).Nodup:=by
  have:(relabel sc env).names.map (·.1)=sc.names.map (·.1):=by
   unfold relabel;rw [List.map_map];congr 1;funext ⟨a,b⟩;dsimp;split<;>rfl
  rw [this];exact nd
 by_cases q:(p.2== .free&&env.scope.kind== .function&&env.kindOf p.1==some .cell)=true
 ·left
  refine e9 nd' ?_
  exact List.mem_map.mpr ⟨p,hp,by obtain ⟨a,b⟩:=p;dsimp only at q⊢;rw [if_pos q]⟩
 ·right
  refine e9 nd' ?_
  exact List.mem_map.mpr ⟨p,hp,by obtain ⟨a,b⟩:=p;dsimp only at q hk'⊢;rw [if_neg q,hk']⟩
theorem tT {sc:Scope}(nd:(sc.names.map (·.1)).Nodup)(hcell:∀x∈sc.names,x.2≠ .cell){n:Str}(h:(relabel sc env).names.lookup n=some .cell):n∈dj sc:=by
 have:=mem_of_lookup h
 unfold relabel at this
 refine bq λzq=> ?_
 obtain ⟨⟨a,b⟩,hp,e⟩:=List.mem_map.mp this
 apply zq;clear zq
 dsimp only at e
 split at e
 ·rename_i q
  simp only [Bool.and_eq_true] at q
  cases e
  exact List.mem_map.mpr ⟨(n,b),List.mem_filter.mpr ⟨hp,q.1.1⟩,rfl⟩
 ·cases e;exact absurd rfl (hcell _ hp)
noncomputable def Pg (W:Wd)(env:Env)(fr:Fz)(src:gu)(y:Value)(own:List Addr)(vs:List (Str×V))(I:Nat→List V→H→Prop)(n:Nat)(s:Shared):Prop:=∃i ys hp,FR W env fr vs hp s∧At src i y s.heap own∧jJ own env fr hp∧I i ys hp∧i≤src.len∧n=src.len+1 - i
noncomputable def Px (W:Wd)(A:Around)(env:Env)(target elt:Expr)(ifs:List Expr)(acc:Addr)(N:Shared→Prop)(v:Value):Shared→Prop:=aT (model W.prog W.w) A (assign target env v) λ_=>aT (model W.prog W.w) A (kQ ifs env) λok s=>
 if ok=true then aT (model W.prog W.w) A (eval elt env) (λx=>aT (model W.prog W.w) A (call (.builtin "list.append") [.ref acc,x]) λ_=>N) s else N s
noncomputable def OF (W:Wd)(A:Around)(env:Env)(target elt:Expr)(ifs:List Expr)(acc:Addr)(vs:List (Str×V))(I:Nat→List V→H→Prop)(i:Nat)(ys:List V)(v:Value)(hp:H):Prop:=
 SW W A env (assign target env v) vs hp λ_ vars₃ hp₃=>(∀n x,vs.lookup n=some x→vars₃.lookup n=some x)∧EW W A env vars₃ (kQ ifs env) hp₃ λok hp₄=>
  if ok=true then EW W A env vars₃ (eval elt env) hp₄ λz hp₅=>hp₅ acc=some (.list ys)∧ys.length≤90000∧I (i+1) (ys++[er z]) (hp₅.put acc (.list (ys++[er z]))) else I (i+1) ys hp₄
noncomputable def OD (W:Wd)(A:Around)(env:Env)(target elt:Expr)(ifs:List Expr)(scope:Scope)(vs:List (Str×V))(Qx:Addr→H→Prop)(src:gu)(acc:Addr)(hp:H)(I:Nat→List V→H→Prop):Prop:=I 0 [] (hp.put acc (.list []))∧
 (∀i ys hp',i<src.len→I i ys hp'→src.ok hp'∧src.give hp' (λx hp₂=>∀cenv,vo cenv (relabel scope env) false→∀v,er v=x→OF W A cenv target elt ifs acc vs I i ys v hp₂) i)∧
 (∀ys hp',I src.len ys hp'→src.ok hp'∧Qx acc hp')
theorem At.fresh (X:At src i y s.heap own):s.heap.objs.size∉own:=λq=>(X.live _ q).elim λo ho=>Nat.lt_irrefl _ (Heap.lt_size ho)
theorem Ak {elt target iter:Expr}{ifs:List Expr}{scope:Scope}{pos:Pos}{acc:Addr}{I:Nat→List V→H→Prop}{R:Result→Shared→Prop}(hh:A.handled=none)(ft:src.fits target=true)(hb:∀a o,W.base.get? a=some o→fr a=some o)
  (step:∀i ys hp',i<src.len→I i ys hp'→src.ok hp'∧src.give hp' (λx hp₂=>∀v,er v=x→OF W A env target elt ifs acc vars I i ys v hp₂) i)
  (fin:∀ys hp',I src.len ys hp'→src.ok hp'∧∀s,FR W env fr vars hp' s→R (.ok .next) s) (h0:I 0 [] hp) (F:FR W env fr vars hp s) (X:At src 0 y s.heap own) (O:jJ own env fr hp):
  bK (model W.prog W.w) A (.compLoop (.ListComp elt [⟨target,iter,ifs,0⟩] scope pos) 0 y (.ref acc) env) R s:=by
 refine pJ (Pg W env fr src y own vars I) ?_ (src.len+1) ⟨0,[],_,F,X,O,h0,Nat.zero_le _,rfl⟩
 clear h0 F X O
 refine λn s' zz=>bq λzq=> ?_
 rcases zz with ⟨i,ys,hp',F',X',O',hI,hi,en⟩
 by_cases hlt:i<src.len
 ·rcases step i ys hp' hlt hI with ⟨ok,g⟩
  have le:=tS hlt en
  refine zq (a9 (aT.of (rG (T:=Px W A env target elt ifs acc λs=>∃m,m<n∧Pg W env fr src y own vars I m s) F' X' O' ok hlt ft _ g λv hp₃ s₃ F₃ X₃ O₃ q=> ?_)) (λr s₁ zz=> ?_))
  ·refine a9 (q v rfl _ s₃ (F₃.freeze O₃)) (λ_ s₄ zz=>bq λzq=> ?_)
   rcases zz with ⟨vars₄,hp₄,F₄,sub,q₄⟩
   refine zq (a9 (q₄ _ s₄ F₄) (λok s₅ zz=>bq λzq=> ?_))
   rcases zz with ⟨hp₅,F₅,q₅⟩
   refine zq ?_
   clear zq
   cases ok with
   |false=>
    have z:=mS X₃ O₃ F₅
    exact ⟨_,le,i+1,ys,hp₅,(F₅.melt hb (sI O₃)).less sub,z.1,z.2,q₅,hlt,rfl⟩
   |true=>
    refine a9 (q₅ _ s₅ F₅) (λz s₆ zz=>bq λzq=> ?_)
    rcases zz with ⟨hp₆,F₆,hac,hz,q₆⟩
    refine zq (a9 ((EW.lift (vars:=vars₄) (mM (W:=W) (A:=A) (v:=z) (Q:=λ_ hp₇=>hp₇=hp₆.put acc (.list (ys++[er z]))) hac hz rfl)) _ s₆ F₆) (λ_ s₇ zz=>bq λzq=> ?_))
    rcases zz with ⟨hp₇,F₇,e⟩
    have z:=mS X₃ O₃ F₇
    exact zq ⟨_,le,i+1,_,_,(F₇.melt hb (sI O₃)).less sub,z.1,z.2,e▸q₆,hlt,rfl⟩
  ·rcases zz with ⟨v,e,t⟩
   rw [e];exact aT.of t
 ·have he:=Nat.le_antisymm hi (Nat.not_lt.mp hlt)
  rcases fin ys hp' (he▸hI) with ⟨ok,f⟩
  refine zq (a9 (aT.of (vQ (T:=λs₁=>FR W env fr vars hp' s₁) hh F' X' O' ok he λs₁ F₁=>F₁)) (λr s₁ zz=> ?_))
  rw [zz.1];exact f s₁ zz.2
theorem jJ.cons {C:Addr}(c:fr C=none∧hp C=none∧C≠env.locals∧∀n c,env.cells.lookup n=some c→c≠C)(O:jJ own env fr hp):jJ (C::own) env fr hp:=λa ha=>(List.mem_cons.mp ha).elim (λe=>e▸c) (O a)
theorem FR.inner {scope:Scope}{C:Addr}{cl:List (Str×Addr)}{cenv:Env}(cl1:∀n c,cl.lookup n=some c→env.cells.lookup n=some c∧n∈dj scope)(cl2:∀n∈dj scope,(cl.lookup n).isSome=true)(nd:(scope.names.map (·.1)).Nodup)
  (F:FR W env fr vars hp s) (OC:jJ (C::own) env fr hp) (N:s.heap.Ns C (λx=>([]:List (Str×Value)).reverse.lookup x)) (ab:W.base.objs.size≤C) (e1:cenv.locals=C) (e2:cenv.cells=cl) (e3:cenv.scope=relabel scope env) (e4:cenv.func=none):FR W cenv (iceBut (C::own) hp s) (x7 vars scope) hp s:=by
 subst e1 e2
 have c:=OC _ (List.mem_cons_self ..)
 refine ⟨F.hr.iceBut λa ha=>(OC a ha).1,⟨_,N,λn x hv hl=> ?_⟩,λn c e=> ?_,λn x hv=> .inr (cl2 n (js hv).1),⟨if_pos (List.mem_cons_self ..),c.2.1⟩,λn d e=>⟨(F.own n d (cl1 n d e).1).1,λq=>c.2.2.2 n d (cl1 n d e).1 q,λq=>by rw [e4] at q;cases q⟩,
  λn n' c a b=>F.apart n n' c (cl1 n c a).1 (cl1 n' c b).1,ab⟩
 ·have hl:cenv.scope.names.lookup n=some .local:=hl
  rw [e3] at hl
  rcases gp (env:=env) nd (js hv).1 with z|z<;>(rw [z] at hl;cases hl)
 ·rcases F.cell n c (cl1 n c e).1 with ⟨v,a,_,b⟩
  refine ⟨v,a,?_,λx hv=>b x (js hv).2⟩
  show cenv.scope.names.lookup n=some .cell∨cenv.scope.names.lookup n=some .free
  rw [e3];exact gp nd (cl1 n c e).2
theorem gu.give_mono {src:gu}{h:H}{Q Q':V→H→Prop}{i:Nat}(k:src.give h Q i)(l:∀x h',Q x h'→Q' x h'):src.give h Q' i:=by
 cases src with
 |list a xs=>exact λx hx=>l _ _ (k x hx)
 |tup a xs=>exact λx hx=>l _ _ (k x hx)
 |bytes b=>exact λx hx=>l _ _ (k x hx)
 |range n=>exact l _ _ k
 |enum a xs=>exact λx c hx hc=>l _ _ (k x c hx hc)
section
variable {elt target iter:Expr}{ifs:List Expr}{scope:Scope}{pos pos':Pos}{use:Option (Value→Sem Unit)}{Qf:Value→Shared→Prop}{Qx:Addr→H→Prop}{cl:List (Str×Addr)}{acc C:Addr}{I:Nat→List V→H→Prop}
theorem Ga {cenv:Env}(e1:cenv.locals=C)(e2:cenv.cells=cl)(e3:cenv.scope=relabel scope env)(e4:cenv.func=none)(ek:vo cenv (relabel scope env) false)
  (cl1:∀n c,cl.lookup n=some c→env.cells.lookup n=some c∧n∈dj scope) (cl2:∀n∈dj scope,(cl.lookup n).isSome=true) (nd:(scope.names.map (·.1)).Nodup) (hh:A.handled=none) (ft:src.fits target=true)
  (st:OD W A env target elt ifs scope (x7 vars scope) Qx src acc hp₁ I) (ehp:hp=hp₁.put acc (.list []))
  (fin:∀acc hp' C s',Qx acc hp'→FR W env fr vars hp' s'→jJ [C] env fr hp'→(∃m,s'.heap.Ns C m)→gZ (model W.prog W.w) A Qf use (.ref acc) C s')
  (F:FR W env fr vars hp s) (X:At src 0 y s.heap own) (OC:jJ (C::own) env fr hp) (CO:C∉own) (N:s.heap.Ns C (λx=>([]:List (Str×Value)).reverse.lookup x)) (ab:W.base.objs.size≤C):
  bK (model W.prog W.w) A (.compStart (.ListComp elt [⟨target,iter,ifs,0⟩] scope pos) 0 y (.ref acc) cenv) (λr s'=>∃f,r= .ok f∧gZ (model W.prog W.w) A Qf use (.ref acc) C s') s:=by
 have FC:=F.inner cl1 cl2 nd OC N ab e1 e2 e3 e4
 have main:bK (model W.prog W.w) A (.compLoop (.ListComp elt [⟨target,iter,ifs,0⟩] scope pos) 0 y (.ref acc) cenv) (λr s'=>∃f,r= .ok f∧gZ (model W.prog W.w) A Qf use (.ref acc) C s') s:=
  Ak hh ft FC.hr.hb (λi ys hp' l q=>⟨(st.2.1 i ys hp' l q).1,gu.give_mono (st.2.1 i ys hp' l q).2 λx h' k=>k cenv ek⟩)
   (λys hp' q=>⟨(st.2.2 ys hp' q).1,λs₁ F₁=>⟨_,rfl,fin acc hp' C s₁ (st.2.2 ys hp' q).2 (F.thawBut OC F₁.hr) (Aj (p:=λa=>fr a=none∧hp' a=none∧a≠env.locals∧∀n c,env.cells.lookup n=some c→c≠a) ⟨(OC _ (List.mem_cons_self ..)).1,e1▸F₁.Lfree.2,(OC _ (List.mem_cons_self ..)).2.2⟩) (F₁.ns.imp λm q=>e1▸q.1)⟩⟩)
   (ehp▸st.1) FC X λa ha=>⟨if_pos (List.mem_cons_of_mem _ ha),(OC a (List.mem_cons_of_mem _ ha)).2.1,λq=>CO (by rw [←e1,←q];exact ha),λn c e=>(OC a (List.mem_cons_of_mem _ ha)).2.2.2 n c (cl1 n c (e2▸e)).1⟩
 exact oD main λA'=>aT.of (yR X main)
noncomputable abbrev N8:Obj:={cls:= .type "list",data:= .seq ([]:List Value).toArray}
theorem FR.mk1 (F:FR W env fr vars hp s)(X:At src i y s.heap own)(O:jJ own env fr hp):hp s.heap.objs.size=none∧FR W env fr vars (hp.put s.heap.objs.size (.list [])) {s with heap:=s.heap.push N8}∧At src i y (s.heap.push N8) own∧jJ own env fr (hp.put s.heap.objs.size (.list [])):=
 have n:=F.vacant (new_none s.heap)
 ⟨n.1,(F.push _).put (Heap.get?_push_size _ rfl) ⟨#[],0,rfl,rfl,by simp⟩ n.2.1 n.2.2.1 n.2.2.2,X.keeps λb _ o e=>Heap.get?_push_of_some _ e,O.put (X.fresh)⟩
theorem D1 (hkind:scope.kind= .function)(hcell:∀x∈scope.names,x.2≠ .cell)(hg:env.globals=mainGlobals)(hb:env.builtins=builtinsNs)
  (cl1:∀n c,cl.lookup n=some c→env.cells.lookup n=some c∧n∈dj scope) (cl2:∀n∈dj scope,(cl.lookup n).isSome=true) (nd:(scope.names.map (·.1)).Nodup) (hh:A.handled=none) (ft:src.fits target=true)
  (st:OD W A env target elt ifs scope (x7 vars scope) Qx src acc hp₁ I) (ehp:hp=hp₁.put acc (.list []))
  (fin:∀acc hp' C s',Qx acc hp'→FR W env fr vars hp' s'→jJ [C] env fr hp'→(∃m,s'.heap.Ns C m)→gZ (model W.prog W.w) A Qf use (.ref acc) C s')
  (F:FR W env fr vars hp s) (X:At src 0 y s.heap own) (O:jJ own env fr hp):
  aT (model W.prog W.w) A (newFunctionEnv scope env.globals cl [] env.qual none .none (some env)) (λcenv s₄=>
   bK (model W.prog W.w) A (.compStart (.ListComp elt [⟨target,iter,ifs,0⟩] scope pos) 0 y (.ref acc) {cenv with scope:=relabel scope env}) (λr s'=>∃f,r= .ok f∧gZ (model W.prog W.w) A Qf use (.ref acc) cenv.locals s') s₄) s:=by
 refine aT.of (wpAny_newFunctionEnv hcell (λ_ hx=>nomatch hx) (λh₄ N₄ hs₄=> ?_) hkind)
 have n:=F.vacant (new_none s.heap)
 have kp:∀b o,s.heap.get? b=some o→h₄.get? b=some o:=λb o e=>(hs₄.2 b (Nat.ne_of_lt (Heap.lt_size e))).trans (Heap.get?_push_of_some _ e)
 exact Ga rfl rfl rfl rfl ⟨rfl,hkind,hg,hb,λn q=>cl2 n (tT nd hcell q),λq=>nomatch q⟩ cl1 cl2 nd hh ft st ehp fin
  (F.keepBut (own:=[]) (λ_ q=>nomatch q) λb o _ e=>kp b o e) (X.keeps λb _ o e=>kp b o e) (O.cons ⟨n.2.1,n.1,n.2.2⟩) X.fresh N₄ F.hr.size
theorem AB (hkind:scope.kind= .function)(hcell:∀x∈scope.names,x.2≠ .cell)(nd:(scope.names.map (·.1)).Nodup)(hfr:∀n∈dj scope,(env.cells.lookup n).isSome=true)
  (hg:env.globals=mainGlobals) (hb:env.builtins=builtinsNs) (hh:A.handled=none) (F:FR W env fr vars hp s) (hset:∀x,foldedSetIterable iter env x=pure x)
  (h:oq W A env vars (eval iter env) hp λsrc hp₁=>src.fits target=true∧∀acc,hp₁ acc=none→∃I,OD W A env target elt ifs scope (x7 vars scope) Qx src acc hp₁ I)
  (fin:∀acc hp' C s',Qx acc hp'→FR W env fr vars hp' s'→jJ [C] env fr hp'→(∃m,s'.heap.Ns C m)→gZ (model W.prog W.w) A Qf use (.ref acc) C s'):
  aT (model W.prog W.w) A (comprehension (.ListComp elt [⟨target,iter,ifs,0⟩] scope pos) scope env pos' (newList []) false (eval iter env) use) Qf s:=by
 refine bq λzq=> ?_
 rcases xx hfr with ⟨cl,hclos,cl1,cl2⟩
 refine zq (me (g:=⟨target,iter,ifs,0⟩) (gs:=[]) rfl hset hclos hkind (λx hx hl=>e9 nd (hl▸hx)) (a9 (h fr s F) (λx s₁ zz=>bq λzq=> ?_)))
 rcases zz with ⟨hp₁,src,F₁,X,ft,hI⟩
 refine zq (aT.of (qk F₁ X λy s₂ own F₂ X₂ O₂=>aT.of (wpAny_newObj_type ?_ (Nat.zero_le _))))
 have z:=F₂.mk1 X₂ O₂
 exact (hI s₂.heap.objs.size z.1).elim λI st=>D1 hkind hcell hg hb cl1 cl2 nd hh ft st rfl fin z.2.1 z.2.2.1 z.2.2.2
end
end
section
variable {W:Wd}{A:Around}{env:Env}{vars:List (Str×V)}{hp:H}{Q:V→H→Prop}
theorem w8 {a:Addr}{xs:List V}(h1:hp a=some (.list xs))(h:Q (.int xs.length) hp):EW W A env vars (call (.builtin "len") [.ref a]) hp (λv hp'=>Q (er v) hp'):=EW.lift λfr s R=>by
 refine bq λzq=> ?_
 obtain ⟨ws,hl,e,l⟩:=b5 R h1
 apply zq;clear zq
 have sz:=aX e
 exact call_len_list hl (by lia) ⟨hp,R.tok _,by show Q (.int _) hp;rw [sz];exact h⟩
theorem rV {b:List UInt8}{v:Value}(hv:er v= .bytes b)(hz:b.length≤100000)(h:Q (.int b.length) hp):EW W A env vars (call (.builtin "len") [v]) hp (λv hp'=>Q (er v) hp'):=EW.lift λfr s R=>by
 obtain ⟨t,rfl⟩:=cM hv
 exact len_bytes (by rw [List.size_toArray];exact Nat.le_trans hz (by decide)) ⟨hp,R.tok _,by show Q (.int _) hp;rw [List.size_toArray];exact h⟩
theorem tB {a:Addr}{kv:List (Int×V)}(h1:hp a=some (.idict kv))(h:Q (.int kv.length) hp):EW W A env vars (call (.builtin "len") [.ref a]) hp (λv hp'=>Q (er v) hp'):=EW.lift λfr s R=>by
 obtain ⟨kvs,d,e,l⟩:=lQ R h1
 have sz:kvs.length=kv.length:=by rw [←e,List.length_map]
 exact call_len_dict (R.notSys h1) d (by lia) ⟨hp,R.tok _,by show Q (.int _) hp;rw [sz];exact h⟩
theorem JH {i j:Int}{u v:Value}(hh:A.handled=none)(hu:er u= .int i)(hv:er v= .int j)(h:Q (.int (min i j)) hp):EW W A env vars (call (.builtin "min") [u,v]) hp (λv hp'=>Q (er v) hp'):=λfr s F=>by
 obtain ⟨t,rfl⟩:=au hu
 obtain ⟨t',rfl⟩:=au hv
 refine aT.of (min_two_ints hh λh' tk k=>⟨hp,F.keepBut (own:=[]) (λ_ q=>nomatch q) λb o _ e=>k b o e,?_⟩)
 have:er (if j<i then Value.int j t' else Value.int i t)= .int (min i j):=by
  split
  ·next c=>exact congrArg V.int (Int.min_eq_right (Int.le_of_lt c)).symm
  ·next c=>exact congrArg V.int (Int.min_eq_left (Int.not_lt.mp c)).symm
 show Q (er _) hp
 rw [this];exact h
theorem Ba {a:Addr}{xs:List V}(h1:hp a=some (.list xs))(h:∀c,hp c=none→Q (.ref c) (hp.put c (.list xs))):EW W A env vars (call (.type "list") [.ref a]) hp (λv hp'=>Q (er v) hp'):=λfr s F=>by
 refine bq λzq=> ?_
 obtain ⟨ws,⟨o,ho,hc,n,hd⟩,e,l⟩:=b5 F.hr h1
 apply zq;clear zq
 have sz:=aX e
 have v:=F.vacant (new_none s.heap)
 refine aT.of (call_list_seq a (.inl rfl) ho hc hd (λh' c' k hn=>⟨_,?_,h _ v.1⟩) (by rw [sizeLine_eq];exact Nat.le_trans (Nat.le_of_eq sz) (Nat.le_trans l (by decide))))
 exact (F.keepBut (own:=[]) (tk:=s.toks) (λ_ q=>nomatch q) λb o _ e=>k b o e).put hn ⟨_,_,rfl,e,l⟩ v.2.1 v.2.2.1 v.2.2.2
theorem y6 {a:Addr}{ns:List Int}(hh:A.handled=none)(h1:hp a=some (.list (ns.map V.int)))(hr:∀n∈ns,0≤n∧n<256)(h:Q (.bytes (ns.map λn=>UInt8.ofNat n.toNat)) hp):
  EW W A env vars (call (.type "bytes") [.ref a]) hp (λv hp'=>Q (er v) hp'):=λfr s F=>by
 refine bq λzq=> ?_
 obtain ⟨ws,hl,e,l⟩:=b5 F.hr h1
 apply zq;clear zq
 refine aT.of (call_bytes_ints (vs:=ws.toList) (by simpa using hl) (tI e) hr (by rw [sizeLine_eq];have:=aX e;simp at this l⊢;exact Nat.le_trans (Nat.le_of_eq this) (Nat.le_trans l (by decide))) hh λh' t k kp=>⟨hp,F.keepBut (own:=[]) (λ_ q=>nomatch q) λb o _ e=>kp b o e,?_⟩)
 have:er (.bytes (byteArr ns) t)= .bytes (ns.map λn=>UInt8.ofNat n.toNat):=congrArg V.bytes (show (byteArr ns).toList=_ by simp [byteArr])
 show Q (er _) hp
 rw [this];exact h
theorem JP {a:Addr}{ns:List Int}(hh:A.handled=none)(h1:hp a=some (.list (ns.map V.int)))(h:Q (.int ns.sum) hp):
  EW W A env vars (call (.builtin "sum") [.ref a]) hp (λv hp'=>Q (er v) hp'):=λfr s F=>by
 refine bq λzq=> ?_
 obtain ⟨ws,hl,e,l⟩:=b5 F.hr h1
 obtain ⟨m,B⟩:=F.bridge
 apply zq;clear zq
 exact aT.of (LSm.sum_ints (vs:=ws.toList) B.frame B.news hh (by simpa using hl) (tI e) λh' tk t' F' N'=>⟨hp,F.back B F' N',h⟩)
end
section
namespace BF
open PySem PyProof.Rows PySem.F
theorem mro:mroOf (.type "bytearray")=pure [.type "bytearray",.type "object"]:=by rw [mroOf_type];kernel_rfl
theorem slot_len:Slot "bytearray" "__len__" "bytearray.__len__":=
 .of (owner:="bytearray") (n:="__len__") (by rw [typeLookup_type,builtinLookup_eq_fast];kernel_rfl) (by decide+kernel) (by decide+kernel) (by decide+kernel)
  (by first|exact .inl (by decide+kernel)|exact .inr (by decide+kernel)) (by rw [isSubtype_type];kernel_rfl)
theorem slot_getitem:Slot "bytearray" "__getitem__" "bytearray.__getitem__":=
 .of (owner:="bytearray") (n:="__getitem__") (by rw [typeLookup_type,builtinLookup_eq_fast];kernel_rfl) (by decide+kernel) (by decide+kernel) (by decide+kernel)
  (by first|exact .inl (by decide+kernel)|exact .inr (by decide+kernel)) (by rw [isSubtype_type];kernel_rfl)
theorem slot_setitem:Slot "bytearray" "__setitem__" "bytearray.__setitem__":=
 .of (owner:="bytearray") (n:="__setitem__") (by rw [typeLookup_type,builtinLookup_eq_fast];kernel_rfl) (by decide+kernel) (by decide+kernel) (by decide+kernel)
  (by first|exact .inl (by decide+kernel)|exact .inr (by decide+kernel)) (by rw [isSubtype_type];kernel_rfl)
theorem slot_append:Slot "bytearray" "append" "bytearray.append":=
 .of (owner:="bytearray") (n:="append") (by rw [typeLookup_type,builtinLookup_eq_fast];kernel_rfl) (by decide+kernel) (by decide+kernel) (by decide+kernel)
  (by first|exact .inl (by decide+kernel)|exact .inr (by decide+kernel)) (by rw [isSubtype_type];kernel_rfl)
theorem slot_init:Slot "bytearray" "__init__" "bytearray.__init__":=
 .of (owner:="bytearray") (n:="__init__") (by rw [typeLookup_type,builtinLookup_eq_fast];kernel_rfl) (by decide+kernel) (by decide+kernel) (by decide+kernel)
  (by first|exact .inl (by decide+kernel)|exact .inr (by decide+kernel)) (by rw [isSubtype_type];kernel_rfl)
theorem slot_buffer:Slot "bytearray" "__buffer__" "bytearray.__buffer__":=
 .of (owner:="bytearray") (n:="__buffer__") (by rw [typeLookup_type,builtinLookup_eq_fast];kernel_rfl) (by decide+kernel) (by decide+kernel) (by decide+kernel)
  (by first|exact .inl (by decide+kernel)|exact .inr (by decide+kernel)) (by rw [isSubtype_type];kernel_rfl)
theorem slot_release:Slot "bytearray" "__release_buffer__" "bytearray.__release_buffer__":=
 .of (owner:="bytearray") (n:="__release_buffer__") (by rw [typeLookup_type,builtinLookup_eq_fast];kernel_rfl) (by decide+kernel) (by decide+kernel) (by decide+kernel)
  (by first|exact .inl (by decide+kernel)|exact .inr (by decide+kernel)) (by rw [isSubtype_type];kernel_rfl)
theorem type_append:typeOf (.builtin "bytearray.append")=pure (.type "method_descriptor"):=by show builtinType _=_;rw [builtinType_eq_fast];kernel_rfl
theorem entry_len:entryFor table "bytearray.__len__"=some Builtin.«bytearray.__len__»:=entryFor_of_tree (by kernel_rfl)
theorem entry_getitem:entryFor table "bytearray.__getitem__"=some Builtin.«bytearray.__getitem__»:=entryFor_of_tree (by kernel_rfl)
theorem entry_setitem:entryFor table "bytearray.__setitem__"=some Builtin.«bytearray.__setitem__»:=entryFor_of_tree (by kernel_rfl)
theorem entry_append:entryFor table "bytearray.append"=some Builtin.«bytearray.append»:=entryFor_of_tree (by kernel_rfl)
theorem entry_init:entryFor table "bytearray.__init__"=some Builtin.«bytearray.__init__»:=entryFor_of_tree (by kernel_rfl)
theorem nobytes:typeLookup (.type "bytearray") "__bytes__"=pure none:=by rw [typeLookup_type,builtinLookup_eq_fast];kernel_rfl
theorem noindex:typeLookup (.type "bytearray") "__index__"=pure none:=by rw [typeLookup_type,builtinLookup_eq_fast];kernel_rfl
theorem nogetattr:typeLookup (.type "bytearray") "__getattr__"=pure none:=by rw [typeLookup_type,builtinLookup_eq_fast];kernel_rfl
theorem xu:typeLookup (.type "bytearray") "__new__"=pure (some (.builtin "bytearray.__new__")):=by rw [typeLookup_type,builtinLookup_eq_fast];kernel_rfl
theorem called:TypeCalled "bytearray" "bytearray.__new__" "bytearray.__init__":=
 ⟨by decide+kernel,by decide+kernel,⟨_,_,mro⟩,madeBy_type mro xu (by decide+kernel),by decide+kernel,by rw [isSubtype_type];kernel_rfl,slot_init⟩
theorem sub:isSubtype (.type "bytearray") (.type "bytearray")=pure true:=by rw [isSubtype_type];kernel_rfl
theorem typeCall0:checkTypeCall "bytearray" ⟨[],[]⟩=pure ():=by kernel_rfl
theorem typeCall1 (a:Value):checkTypeCall "bytearray" ⟨[a],[]⟩=pure ():=by kernel_rfl
theorem newCall (l:List Value):checkBuiltinCall "bytearray.__new__" ⟨.type "bytearray"::l,[]⟩=pure ():=by kernel_rfl
theorem plain_new:plainId "bytearray.__new__"=true:=by decide+kernel
end BF
namespace BF
open PySem PyProof.Rows PySem.F
theorem args_len (a:Value):argsOk "bytearray.__len__" ⟨[a],[]⟩:=by unfold argsOk;kernel_rfl
theorem args_getitem (a b:Value):argsOk "bytearray.__getitem__" ⟨[a,b],[]⟩:=by unfold argsOk;kernel_rfl
theorem args_setitem (a b c:Value):argsOk "bytearray.__setitem__" ⟨[a,b,c],[]⟩:=by unfold argsOk;kernel_rfl
theorem args_append (a b:Value):argsOk "bytearray.append" ⟨[a,b],[]⟩:=by unfold argsOk;kernel_rfl
theorem args_init0 (a:Value):argsOk "bytearray.__init__" ⟨[a],[]⟩:=by unfold argsOk;kernel_rfl
theorem args_init1 (a b:Value):argsOk "bytearray.__init__" ⟨[a,b],[]⟩:=by unfold argsOk;kernel_rfl
theorem entry_new:entryFor table "bytearray.__new__"=some Builtin.«list.__new__»:=entryFor_alias (id':="list.__new__") (by first|kernel_rfl|(rw [fastTable_eq_tree];kernel_rfl)) (by decide+kernel) (by decide+kernel) (by first|kernel_rfl|(rw [fastTable_eq_tree];kernel_rfl))
end BF
end
section
variable {W:Wd}{A:Around}{env:Env}{vars:List (Str×V)}{hp:H}{Q:V→H→Prop}
theorem iG {fr:Fz}{s:Shared}{a:Addr}{b:List UInt8}(R:HR W fr hp s)(h1:hp a=some (.barr b)):s.heap.get? a=some {cls:= .type "bytearray",data:= .bytearray b.toArray 0}∧b.length≤100000:=by
 refine bq λzq=> ?_
 obtain ⟨x,hx,rfl,l⟩:=R.get h1
 apply zq;clear zq
 exact ⟨hx,l⟩
theorem gj {M:Model}{E:Value→Shared→Prop}{s:Shared}{i:Int}{t:Tok}{Q:Option Int→Shared→Prop}(h0:0≤i)(h1:i<2^62)(h:Q (some i) s):wpAny M A (Builtin.Bytes.subscript? (.int i t)) Q E s:=by
 unfold Builtin.Bytes.subscript?
 refine wpAny_bind (wpAny_specialOf (typeIs_int s i t) PySem.F.slot_int_index.lookup ?_)
 dsimp only [Option.isNone,Bool.false_eq_true,if_false]
 have f:Builtin.Bytes.fitsIndex i=true:=by unfold Builtin.Bytes.fitsIndex;simp only [Bool.and_eq_true,decide_eq_true_eq];lia
 show wpAny _ _ (if (!Builtin.Bytes.fitsIndex i)=true then _ else _) _ _ _
 rw [f]
 exact wpAny_pure h
theorem cY {M:Model}{E:Value→Shared→Prop}{s:Shared}{a:Addr}{b:Array UInt8}{n:Nat}{Q:Array UInt8→Shared→Prop}(ha:s.heap.get? a=some {cls:= .type "bytearray",data:= .bytearray b n})(h:Q b s):
  wpAny M A (Builtin.Bytes.payload (.ref a)) Q E s:=by
 unfold Builtin.Bytes.payload Builtin.Bytes.payload?
 exact wpAny_bind (wpAny_bind (wpAny_load ha (wpAny_pure (wpAny_pure h))))
theorem iS {M:Model}{E:Value→Shared→Prop}{s:Shared}{i:Int}{t:Tok}{Q:UInt8→Shared→Prop}(h0:0≤i)(h1:i<256)(h:Q i.toNat.toUInt8 s):wpAny M A (Builtin.Bytes.byteValue (.int i t)) Q E s:=by
 unfold Builtin.Bytes.byteValue
 have f:(decide (i<0)||decide (i≥256))=false:=by simp only [Bool.or_eq_false_iff,decide_eq_false_iff_not];lia
 show wpAny _ _ (if (decide (i<0)||decide (i≥256))=true then _ else _) _ _ _
 rw [f]
 exact wpAny_pure h
theorem cP {M:Model}{E:Value→Shared→Prop}{s:Shared}{a:Addr}{b:Array UInt8}{n:Nat}{f:Array UInt8→Array UInt8}{Q:Unit→Shared→Prop}(ha:s.heap.get? a=some {cls:= .type "bytearray",data:= .bytearray b n})(hz:(f b).size≤100000)
  (h:∀h',h'.get? a=some {cls:= .type "bytearray",data:= .bytearray (f b) n}→Heap.SameBut a s.heap h'→Q () {s with heap:=h'}):wpAny M A (Builtin.Bytes.write (.ref a) f) Q E s:=by
 show wpAny _ _ (updateBytearray a f) _ _ _
 unfold updateBytearray
 refine wpAny_bind (wpAny_load ha ?_)
 show wpAny _ _ (update a (Obj.mapBytearray f)>>=λ_=>lookBehind a) _ _ _
 refine wpAny_bind (wpAny_update ha ?_)
 have up:(s.heap.update a (Obj.mapBytearray f)).get? a=some {cls:= .type "bytearray",data:= .bytearray (f b) n}:=Heap.get?_update_self (Obj.mapBytearray f) ha rfl
 refine wpAny_lookBehind up ?_ (h _ up (Heap.SameBut.update ..))
 show (if (f b).size>sizeLine then some "bytearray:memory" else none)=none
 rw [if_neg]
 rw [sizeLine_eq];lia
theorem l7 {i:Int}{n:Nat}(h0:0≤i)(h1:i.toNat<n):seqIndex? i n=some i.toNat:=by
 unfold seqIndex?
 have:¬i<0:=by exact Int.not_lt.mpr h0
 simp only [this,if_false]
 rw [if_pos]
 simp only [Bool.and_eq_true,decide_eq_true_eq];lia
theorem Gr {a:Addr}{b:List UInt8}(h1:hp a=some (.barr b))(h:Q (.int b.length) hp):TW W A (call (.builtin "len") [.ref a]) hp (λv hp'=>Q (er v) hp'):=λfr s R=>by
 obtain ⟨ha,l⟩:=iG R h1
 have hT:s.TypeIs (.ref a) "bytearray":=⟨_,ha,rfl⟩
 refine call_function_entry kind_len plain_len entry_len (args_len1 _) ?_
 unfold Builtin.«len»
 refine wpAny_bind (m:=oneArg "len" _) (wpAny_pure ?_)
 refine wpAny_bind (m:=callSpecial? (.ref a) (Str.ofString "__len__")) (wpAny_callSpecial?_slot (name:=Str.ofString "__len__") hT BF.slot_len
  (wpAny_call_entry BF.slot_len hT BF.entry_len ?_ (BF.args_len _)))
 show wpAny _ _ (do retInt (←Builtin.Bytes.payload (.ref a)).size) _ _ s
 refine wpAny_bind (cY ha ?_)
 refine wpAny_bind (wpAny_mkInt (wpAny_pure ⟨_,rfl,?_⟩))
 refine wpAny_bind (wpAny_holding (wpAny_pure ?_))
 refine wpAny_bind (wpAny_letGo ?_)
 rw [List.size_toArray]
 show wpAny _ _ (if ((b.length:Nat):Int)<0 then _ else _) _ _ _
 rw [if_neg (by lia)]
 show wpAny _ _ (if ((b.length:Nat):Int)≥2^63 then _ else _) _ _ _
 rw [if_neg (by lia)]
 exact wpAny_bind (wpAny_mkInt (wpAny_pure ⟨_,rfl,hp,R.tok _,h⟩))
theorem H4 {a:Addr}{b:List UInt8}{i:Int}{x:UInt8}{u:Value}(h1:hp a=some (.barr b))(h0:0≤i)(hx:b[i.toNat]?=some x)(hu:er u= .int i)(h:Q (.int x.toNat) hp):
  TW W A (getItem (.ref a) u) hp (λv hp'=>Q (er v) hp'):=λfr s R=>by
 obtain ⟨t,rfl⟩:=au hu
 obtain ⟨ha,l⟩:=iG R h1
 have hT:s.TypeIs (.ref a) "bytearray":=⟨_,ha,rfl⟩
 obtain ⟨hi,_⟩:=List.getElem?_eq_some_iff.mp hx
 refine wpAny_getItem_slot hT (by decide) BF.slot_getitem (wpAny_call_entry BF.slot_getitem hT BF.entry_getitem ?_ (BF.args_getitem _ _))
 show wpAny _ _ (Builtin.Bytes.subscript? (.int i t)>>=_) _ _ s
 refine wpAny_bind (gj h0 (by lia) ?_)
 show wpAny _ _ (Builtin.Bytes.payload (.ref a)>>=_) _ _ s
 refine wpAny_bind (cY ha ?_)
 have:(seqIndex? i b.toArray.size).bind (b.toArray[·]?)=some x:=by
  rw [List.size_toArray,l7 h0 hi];simpa using hx
 rw [this]
 exact wpAny_bind (wpAny_mkInt (wpAny_pure ⟨_,rfl,hp,R.tok _,h⟩))
theorem Hb {a:Addr}{b:List UInt8}{i j:Int}{u v:Value}{Q:Unit→H→Prop}(h1:hp a=some (.barr b))(h0:0≤i)(hi:i.toNat<b.length)(hu:er u= .int i)(hv:er v= .int j)(hj0:0≤j)(hj1:j<256)
  (h:Q () (hp.put a (.barr (b.set i.toNat j.toNat.toUInt8)))):TW W A (setItem (.ref a) u v) hp Q:=λfr s R=>by
 obtain ⟨t,rfl⟩:=au hu
 obtain ⟨t',rfl⟩:=au hv
 obtain ⟨ha,l⟩:=iG R h1
 have hT:s.TypeIs (.ref a) "bytearray":=⟨_,ha,rfl⟩
 unfold setItem
 try with_reducible refine wpAny_holding ?_
 first|refine wpAny_bind (wpAny_pure ?_)|skip
 refine wpAny_bind (wpAny_sequenceKey hT (by decide) ?_)
 refine wpAny_bind (wpAny_callSpecial?_slot (name:=Str.ofString "__setitem__") hT BF.slot_setitem
  (wpAny_call_entry BF.slot_setitem hT BF.entry_setitem ?_ (BF.args_setitem _ _ _)))
 show wpAny _ _ (Builtin.Bytes.subscript? (.int i t)>>=_) _ _ s
 refine wpAny_bind (gj h0 (by lia) ?_)
 show wpAny _ _ (Builtin.Bytes.byteValue (.int j t')>>=_) _ _ s
 refine wpAny_bind (iS hj0 hj1 ?_)
 refine wpAny_bind (cY ha ?_)
 have:seqIndex? i b.toArray.size=some i.toNat:=by rw [List.size_toArray,l7 h0 hi]
 rw [this]
 refine wpAny_bind (cP (f:=(·.setIfInBounds i.toNat j.toNat.toUInt8)) ha (by simp;exact Nat.le_trans l (by decide)) λh' hg hs=> ?_)
 refine wpAny_bind (wpAny_pure ?_)
 refine wpAny_pure ⟨_,rfl,?_⟩
 first|refine wpAny_pure ?_|skip
 refine ⟨_,R.upd (o':= .barr (b.set i.toNat j.toNat.toUInt8)) (tk:=s.toks) h1 hs hg ⟨by simp,by simpa using l⟩,h⟩
end
section
namespace BF
open PySem PyProof.Rows PySem.F
theorem bytes_bytes:typeLookup (.type "bytes") "__bytes__"=pure (some (.builtin "bytes.__bytes__")):=by rw [typeLookup_type,builtinLookup_eq_fast];kernel_rfl
theorem ends_buffer:(("bytearray.__buffer__":String).endsWith ("."++"__buffer__"))=true:=by decide+kernel
theorem drop_buffer:("bytearray.__buffer__":String).dropRight ("__buffer__".length+1)="bytearray":=by decide+kernel
theorem ends_release:(("bytearray.__release_buffer__":String).endsWith ("."++"__release_buffer__"))=true:=by decide+kernel
theorem drop_release:("bytearray.__release_buffer__":String).dropRight ("__release_buffer__".length+1)="bytearray":=by decide+kernel
end BF
section
variable {W:Wd}{A:Around}{env:Env}{vars:List (Str×V)}{hp:H}{Q:V→H→Prop}
theorem tC {M:Model}{E:Value→Shared→Prop}{s:Shared}{a:Addr}{Q:Bool→Shared→Prop}(hT:s.TypeIs (.ref a) "bytearray")(h:Q true s):wpAny M A (Builtin.Bytes.slotIsOwn (.ref a) "__buffer__") Q E s:=by
 unfold Builtin.Bytes.slotIsOwn
 refine wpAny_bind (wpAny_specialOf hT BF.slot_buffer.lookup ?_)
 try dsimp only
 rw [BF.ends_buffer,BF.drop_buffer]
 simp only [Bool.not_true,Bool.false_eq_true,if_false]
 exact wpAny_isInstance hT BF.sub h
theorem hU {M:Model}{E:Value→Shared→Prop}{s:Shared}{a:Addr}{Q:Bool→Shared→Prop}(hT:s.TypeIs (.ref a) "bytearray")(h:Q false s):wpAny M A (Builtin.Bytes.ownRelease (.ref a)) Q E s:=by
 unfold Builtin.Bytes.ownRelease Builtin.Bytes.slotIsOwn
 refine wpAny_bind (wpAny_bind (wpAny_specialOf hT BF.slot_release.lookup ?_))
 try dsimp only
 rw [BF.ends_release,BF.drop_release]
 simp only [Bool.not_true,Bool.false_eq_true,if_false]
 exact wpAny_isInstance hT BF.sub (wpAny_pure h)
theorem iR {prog:Program}{w:World}{E:Value→Shared→Prop}{s:Shared}{x:Value}{Q:Value→Shared→Prop}
  (h:∀Q₁:Value→Shared→Prop,(∀b t s',Q (.bytes b t) s'→Q₁ (.bytes b t) s')→codeAny (model prog w) A.in1 (.call (.builtin "bytes.__new__") ⟨[.type "bytes",x],[]⟩) (wants Q₁ E) s):
  wpAny (model prog w) A (call (.type "bytes") [x]) Q E s:=by
 refine callType_codes (Q₁:=λobj s₁=>s₁.TypeIs obj "bytes"∧Q obj s₁) PySem.F.bm_called (PySem.F.bm_typeCall _) PySem.F.entry_object_init
  (h _ λb t s' q=>⟨PySem.W.typeIs_bytes _ _ _,q⟩) λobj s₁ h₁=> ?_
 exact ⟨h₁.1,PySem.F.args_object_init_2 obj _,object_init_meets PySem.F.bm_called.init.lookup PySem.F.bm_called.made (by decide) prog w A.in1 _ s₁ ⟨h₁.1,rfl,h₁.2⟩⟩
theorem Bl {prog:Program}{w:World}{E:Value→Shared→Prop}{s:Shared}{b:Array UInt8}{t:Tok}{Q:Value→Shared→Prop}(h:Q (.bytes b t) s):
  codeAny (model prog w) A (.call (.builtin "bytes.__new__") ⟨[.type "bytes",.bytes b t],[]⟩) (wants Q E) s:=by
 refine codeAny_of_tree ?_
 show wpAny _ A.in1 (do checkBuiltinCall "bytes.__new__" ⟨[.type "bytes",.bytes b t],[]⟩;again (.builtin "bytes.__new__" ⟨[.type "bytes",.bytes b t],[]⟩)) _ _ s
 refine wpAny_bind (wpAny_of_eq (PySem.F.bm_newCall _) (wpAny_pure ⟨plainId_quiet PySem.F.bm_plain _,codeAny_builtin PySem.F.bm_entry ?_⟩))
 rw [Around.under_plainId PySem.F.bm_plain _]
 unfold Builtin.«bytes.__new__»
 refine wpAny_bind (wpAny_of_eq (a:=true) rfl ?_)
 refine bm_if_false rfl ?_
 refine wpAny_bind (wpAny_of_eq PySem.F.bm_sub ?_)
 refine bm_if_false rfl ?_
 refine wpAny_bind (wpAny_of_eq (PySem.F.bm_bind _) ?_)
 refine wpAny_bind (wpAny_of_eq (a:=()) rfl ?_)
 refine wpAny_bind (wpAny_of_eq (a:=()) rfl ?_)
 refine bm_if_false rfl ?_
 refine wpAny_bind (wpAny_specialOf (PySem.W.typeIs_bytes _ _ _) BF.bytes_bytes ?_)
 try dsimp only
 refine wpAny_bind (wpAny_rule ?_)
 refine wpAny_bind (wpAny_typeOf (PySem.W.typeIs_bytes _ _ _) ?_)
 refine bm_if_true (by decide) ?_
 exact wpAny_pure h
theorem qI {b:List UInt8}{u:Value}(hu:er u= .bytes b)(h:Q (.bytes b) hp):TW W A (call (.type "bytes") [u]) hp (λv hp'=>Q (er v) hp'):=λfr s R=>by
 obtain ⟨t,rfl⟩:=cM hu
 refine iR λQ₁ q=>Bl (q _ _ _ ⟨hp,R,?_⟩)
 show Q (er _) hp
 rw [jI];exact h
theorem vV {prog:Program}{w:World}{E:Value→Shared→Prop}{s:Shared}{a:Addr}{b:Array UInt8}{Q:Value→Shared→Prop}(ha:s.heap.get? a=some {cls:= .type "bytearray",data:= .bytearray b 0})(hz:b.size≤100000)
  (h:∀t k,Q (.bytes b t) {s with toks:=k}):
  codeAny (model prog w) A (.call (.builtin "bytes.__new__") ⟨[.type "bytes",.ref a],[]⟩) (wants Q E) s:=by
 have hT:s.TypeIs (.ref a) "bytearray":=⟨_,ha,rfl⟩
 refine codeAny_of_tree ?_
 show wpAny _ A.in1 (do checkBuiltinCall "bytes.__new__" ⟨[.type "bytes",.ref a],[]⟩;again (.builtin "bytes.__new__" ⟨[.type "bytes",.ref a],[]⟩)) _ _ s
 refine wpAny_bind (wpAny_of_eq (PySem.F.bm_newCall _) (wpAny_pure ⟨plainId_quiet PySem.F.bm_plain _,codeAny_builtin PySem.F.bm_entry ?_⟩))
 rw [Around.under_plainId PySem.F.bm_plain _]
 unfold Builtin.«bytes.__new__»
 refine wpAny_bind (wpAny_of_eq (a:=true) rfl ?_)
 refine bm_if_false rfl ?_
 refine wpAny_bind (wpAny_of_eq PySem.F.bm_sub ?_)
 refine bm_if_false rfl ?_
 refine wpAny_bind (wpAny_of_eq (PySem.F.bm_bind _) ?_)
 refine wpAny_bind (wpAny_of_eq (a:=()) rfl ?_)
 refine wpAny_bind (wpAny_of_eq (a:=()) rfl ?_)
 refine bm_if_false rfl ?_
 refine wpAny_bind (wpAny_specialOf hT BF.nobytes ?_)
 refine wpAny_bind (wpAny_bind ?_)
 show wpAny _ _ (load a>>=_) _ _ _
 refine wpAny_bind (wpAny_load ha ?_)
 refine wpAny_pure (wpAny_pure ?_)
 refine bm_if_false rfl ?_
 refine wpAny_bind (wpAny_specialOf hT BF.noindex ?_)
 refine bm_if_true rfl ?_
 first
  |show wpAny _ _ (Builtin.Bytes.buffer? "bytes.__new__" (.ref a) true>>=_) _ _ _
  |(refine wpAny_bind ?_;show wpAny _ _ (Builtin.Bytes.buffer? "bytes.__new__" (.ref a) true>>=_) _ _ _)
 refine wpAny_bind ?_
 unfold Builtin.Bytes.buffer?
 refine wpAny_bind (wpAny_specialOf hT BF.slot_buffer.lookup ?_)
 try dsimp only
 refine wpAny_bind (tC hT ?_)
 simp only [Bool.not_true,Bool.false_eq_true,if_false]
 try refine wpAny_bind (wpAny_pure ?_)
 refine wpAny_bind (wpAny_specialOf hT BF.slot_buffer.lookup ?_)
 try dsimp only
 refine wpAny_bind (hU hT ?_)
 simp only [Bool.false_eq_true,if_false]
 refine wpAny_bind (cY ha ?_)
 refine wpAny_pure ?_
 try dsimp only
 refine wpAny_bind (wpAny_rule ?_)
 refine wpAny_bind (wpAny_mkBytes ?_ (by rw [sizeLine_eq];exact Nat.le_trans hz (by decide)))
 show wpAny _ _ (if (Value.type "bytes"==Value.type "bytes")=true then _ else _) _ _ _
 refine bm_if_true (by decide) ?_
 exact wpAny_pure (h _ _)
theorem sQ {a:Addr}{b:List UInt8}(h1:hp a=some (.barr b))(h:Q (.bytes b) hp):TW W A (call (.type "bytes") [.ref a]) hp (λv hp'=>Q (er v) hp'):=λfr s R=>by
 obtain ⟨ha,l⟩:=iG R h1
 refine iR λQ₁ q=>vV ha (by simpa using l) λt k=>q _ _ _ ⟨hp,R.tok _,?_⟩
 show Q (er _) hp
 rw [jI];exact h
end
end
section
namespace BF
open PySem PyProof.Rows PySem.F
theorem bind0:Builtin.Bytes.bindOptional "bytearray.__init__" "bytearray" ["source","encoding","errors"] [] []=pure [none,none,none]:=by kernel_rfl
theorem bind1 (v:Value):Builtin.Bytes.bindOptional "bytearray.__init__" "bytearray" ["source","encoding","errors"] [v] []=pure [some v,none,none]:=by kernel_rfl
theorem barr_ga:typeLookup (.type "bytearray") "__getattribute__"=pure (some (.builtin "bytearray.__getattribute__")):=by rw [typeLookup_type,builtinLookup_eq_fast];kernel_rfl
theorem dict_ga:typeLookup (.type "dict") "__getattribute__"=pure (some (.builtin "dict.__getattribute__")):=by rw [typeLookup_type,builtinLookup_eq_fast];kernel_rfl
theorem dict_noga:typeLookup (.type "dict") "__getattr__"=pure none:=by rw [typeLookup_type,builtinLookup_eq_fast];kernel_rfl
theorem canB:(Manifest.canonical "bytearray.__getattribute__" !="object.__getattribute__")=false:=by decide+kernel
theorem canD:(Manifest.canonical "dict.__getattribute__" !="object.__getattribute__")=false:=by decide+kernel
theorem slot_update:Slot "dict" "update" "dict.update":=
 .of (owner:="dict") (n:="update") (by rw [typeLookup_type,builtinLookup_eq_fast];kernel_rfl) (by decide+kernel) (by decide+kernel) (by decide+kernel)
  (by first|exact .inl (by decide+kernel)|exact .inr (by decide+kernel)) (by rw [isSubtype_type];kernel_rfl)
theorem type_update:typeOf (.builtin "dict.update")=pure (.type "method_descriptor"):=by show builtinType _=_;rw [builtinType_eq_fast];kernel_rfl
theorem entry_update:entryFor table "dict.update"=some Builtin.«dict.update»:=entryFor_of_tree (by kernel_rfl)
theorem args_update (a b:Value):argsOk "dict.update" ⟨[a,b],[]⟩:=by unfold argsOk;kernel_rfl
end BF
section
variable {W:Wd}{A:Around}{env:Env}{vars:List (Str×V)}{hp:H}
theorem zY {α:Type}{f:α→Bool}{l:List α}(h:∀x∈l,f x=false):l.any f=false:=List.any_eq_false.mpr λx m e=>Bool.false_ne_true ((h x m).symm.trans e)
theorem Mn {id:String}{args:Args}(n:Iq (.builtin id args)){s:String}(m:s∈jB):id≠s:=λe=>by
 rw [e] at n
 unfold Iq at n
 simp [m] at n
theorem tA {M:Model}{s:Shared}{self:Value}{Q:Bool→Shared→Prop}(h:Q false s):aT M A (Builtin.Bytes.exported self) Q s:=by
 unfold Builtin.Bytes.exported
 refine a7 (BN λst hc=>a8 ((congrArg (Q · s) (zY λx hx=> ?_)).mpr h))
 have n:=hc x hx
 rcases x with ⟨c,p⟩
 cases c with
 |builtin id args=>
  have bd (k:Nat) (l:k<jB.length:=by decide):id≠jB[k]:=Mn n (List.getElem_mem l)
  delta Builtin.Bytes.exported.match_1
  show dite _ _ _=_
  refine (dif_neg (bd 0)).trans ?_
  refine (dif_neg (bd 1)).trans ?_
  refine (dif_neg (bd 2)).trans ?_
  refine (dif_neg (bd 3)).trans ?_
  refine (dif_neg (bd 4)).trans ?_
  rcases args with ⟨_|⟨v,tl⟩,kw⟩
  ·rfl
  ·exact (congrArg _ (Bool.eq_false_iff.mpr λq=>Mn n (List.mem_append_right _ (List.contains_iff_mem.mp q)) rfl)).trans (Bool.and_false _)
 |_=>rfl
theorem ph {M:Model}{s:Shared}{a:Addr}{b:Array UInt8}{Q:Bool→Shared→Prop}(ha:s.heap.get? a=some {cls:= .type "bytearray",data:= .bytearray b 0})(h:Q false s):
  aT M A (Builtin.Bytes.exported (.ref a)<||>(do return (←Builtin.Bytes.exportsOf (.ref a))>0)) Q s:=by
 show aT _ _ (Builtin.Bytes.exported (.ref a)>>=_) _ _
 refine a7 (tA ?_)
 show aT _ _ (Builtin.Bytes.exportsOf (.ref a)>>=_) _ _
 unfold Builtin.Bytes.exportsOf
 refine a7 (a7 (pA ha (a8 (a8 ?_))))
 exact h
theorem oh {M:Model}{s:Shared}{a:Addr}{b:Array UInt8}{Q:Unit→Shared→Prop}(ha:s.heap.get? a=some {cls:= .type "bytearray",data:= .bytearray b 0})(h:Q () s):
  aT M A (Builtin.Bytes.checkResize (.ref a)) Q s:=by
 unfold Builtin.Bytes.checkResize
 refine a7 (ph ha ?_)
 exact a8 h
theorem mr {prog:Program}{w:World}{s:Shared}{T:String}{name:Str}{id:String}{b:Builtin}{self:Value}{rest:List Value}{R:Result→Shared→Prop}(h:Slot T name id)(hT:s.TypeIs self T)(nb:jB.contains id=false)
  (hb:entryFor table id=some b) (ha:argsOk id ⟨self::rest,[]⟩)
  (hc:aT (model prog w) A.in1 (b ⟨self::rest,[]⟩) (λfin s'=>∃v,fin= .done (.ret v)∧R (.ok (.ret v)) s') s):
  bK (model prog w) A (.call (.builtin id) ⟨self::rest,[]⟩) R s:=by
 have hp:=h.plain
 refine fa (by show (!jB.contains id)=true;rw [nb];rfl) (plainId_quiet hp _) hb (aT.of (h.check _ _ _ _ _ _ _ _ hT ha ?_))
 rw [Around.under_plainId hp _]
 refine a9 hc λfin s' ⟨v,e,q⟩=> ?_
 subst e;exact q
theorem Bi {a:Addr}{b:List UInt8}{j:Int}{u:Value}{fr:Fz}{s:Shared}(R:HR W fr hp s)(h1:hp a=some (.barr b))(hu:er u= .int j)(hj0:0≤j)(hj1:j<256)(hz:b.length≤90000):
  aT (model W.prog W.w) A (call (.builtin "bytearray.append") [.ref a,u] []) (λv s'=>v= .none∧HR W fr (hp.put a (.barr (b++[j.toNat.toUInt8]))) s') s:=by
 obtain ⟨t,rfl⟩:=au hu
 obtain ⟨ha,l⟩:=iG R h1
 have hT:s.TypeIs (.ref a) "bytearray":=⟨_,ha,rfl⟩
 refine ik (mr BF.slot_append hT (by decide+kernel) BF.entry_append (BF.args_append _ _) ?_)
 show aT _ _ (Builtin.Bytes.byteValue (.int j t)>>=_) _ _
 refine bC (iS hj0 hj1 ?_)
 refine a7 (oh ha ?_)
 refine bC (cP (f:=(·.push j.toNat.toUInt8)) ha (by simp;exact Nat.le_trans hz (by decide)) λh' hg hs=> ?_)
 refine a8 ⟨_,rfl,_,rfl,rfl,R.upd (o':= .barr (b++[j.toNat.toUInt8])) (tk:=s.toks) h1 hs hg ⟨by simp,by simp;exact Nat.le_trans hz (by decide)⟩⟩
theorem fZ {M:Model}{E:Value→Shared→Prop}{s:Shared}{a:Addr}{o:Obj}{T ga id:String}{name:Str}{pl:Sem Bool}{Q:Value×List Value→Shared→Prop}(ha:s.heap.get? a=some o)(hc:o.cls= .type T)(hd:o.dict=none)
  (hga:typeLookup (.type T) "__getattribute__"=pure (some (.builtin ga))) (hcan:(Manifest.canonical ga !="object.__getattribute__")=false) (hno:typeLookup (.type T) "__getattr__"=pure none)
  (hf:typeLookup (.type T) name=pure (some (.builtin id))) (htf:typeOf (.builtin id)=pure (.type "method_descriptor")) (h:Q (.builtin id,[.ref a]) s):wpAny M A (getMethod (.ref a) name pl) Q E s:=by
 have hT:s.TypeIs (.ref a) T:=⟨_,ha,hc⟩
 unfold getMethod
 refine wpAny_bind (wpAny_specialOf hT hga ?_)
 dsimp only
 simp only [hcan,Bool.false_eq_true,if_false]
 refine wpAny_bind (wpAny_specialOf hT hno ?_)
 simp only [Option.isSome,Bool.false_eq_true,if_false]
 refine wpAny_bind (wpAny_specialOf hT hf ?_)
 dsimp only
 refine wpAny_bind (wpAny_of_eq htf ?_)
 rw [if_neg (by decide)]
 refine wpAny_bind (wpAny_loadPart ha ?_)
 rw [hd]
 exact wpAny_bind (wpAny_rule (wpAny_pure h))
theorem lM {a:Addr}{xs:List V}{pl:Sem Bool}{Q:Value×List Value→H→Prop}(h1:hp a=some (.list xs))(h:Q (.builtin "list.append",[.ref a]) hp):TW W A (getMethod (.ref a) "append" pl) hp Q:=λfr s R=>by
 refine bq λzq=> ?_
 obtain ⟨_,ho,ws,n,rfl,e,l⟩:=R.get h1
 apply zq;clear zq
 exact PySem.Calls.getMethod_list_append ho rfl rfl ⟨hp,R,h⟩
theorem lT {a:Addr}{b:List UInt8}{pl:Sem Bool}{Q:Value×List Value→H→Prop}(h1:hp a=some (.barr b))(h:Q (.builtin "bytearray.append",[.ref a]) hp):TW W A (getMethod (.ref a) "append" pl) hp Q:=λfr s R=>by
 refine bq λzq=> ?_
 obtain ⟨ha,_⟩:=iG R h1
 apply zq;clear zq
 exact fZ ha rfl rfl BF.barr_ga BF.canB BF.nogetattr BF.slot_append.lookup BF.type_append ⟨hp,R,h⟩
theorem mo {a:Addr}{kv:List (Str×V)}{pl:Sem Bool}{Q:Value×List Value→H→Prop}(h1:hp a=some (.attrs kv))(h:Q (.builtin "dict.update",[.ref a]) hp):TW W A (getMethod (.ref a) "update" pl) hp Q:=λfr s R=>by
 refine bq λzq=> ?_
 obtain ⟨_,ho,es,n,rfl,_⟩:=R.get h1
 apply zq;clear zq
 exact fZ ho rfl rfl BF.dict_ga BF.canD BF.dict_noga BF.slot_update.lookup BF.type_update ⟨hp,R,h⟩
end
end
section
variable {prog:Program}{w:World}{A:Around}{s:Shared}{R:Result→Shared→Prop}
theorem qL {id:String}{args:Args}{b:Builtin}(nb:jB.contains id=false)(hb:entryFor table id=some b)
  (h:aT (model prog w) (A.under (.builtin id args)) (b args) (λfin s'=>match fin with| .done f=>R (.ok f) s'| .again c'=>c'.quiet=true∧bK (model prog w) A c' R s') s):
  bK (model prog w) A (.builtin id args) R s:=by
 refine bo (by show (!jB.contains id)=true;rw [nb];rfl) ?_
 show aT _ _ (match entryFor table id with|some b=>b args|none=>unsupported ((withoutEnding? id "#data").getD id)) _ s
 rw [hb];exact h
noncomputable def dm (b:Array UInt8):Obj:={cls:= .type "bytearray",data:= .bytearray b 0}
theorem qX {rest:List Value}{Q₁:Value→Shared→Prop}
  (h:Q₁ (.ref s.heap.objs.size) {s with heap:=s.heap.push (dm #[])}):
  codeAny (model prog w) A (.call (.builtin "bytearray.__new__") ⟨.type "bytearray"::rest,[]⟩) (wants Q₁ F1) s:=by
 refine codeAny_of_tree ?_
 show wpAny _ A.in1 (do checkBuiltinCall "bytearray.__new__" ⟨.type "bytearray"::rest,[]⟩;again (.builtin "bytearray.__new__" ⟨.type "bytearray"::rest,[]⟩)) _ _ s
 refine wpAny_bind (wpAny_of_eq (BF.newCall rest) (wpAny_pure ⟨plainId_quiet BF.plain_new _,codeAny_builtin_stack BF.entry_new rfl λp st=> ?_⟩))
 rw [Around.under_plainId BF.plain_new _]
 have hsub:=BF.sub
 have hown:("bytearray.__new__".splitOn ".__new__").headD ""="bytearray":=by simp+decide [String.splitOn,String.splitOnAux]
 obtain ⟨hp,g,d,tk,os⟩:=s
 simp -zeta only [hown]
 wp_walk
 exact h
theorem kr {rest:List Value}{b:Array UInt8}{Q:Value→Shared→Prop}(hct:checkTypeCall "bytearray" ⟨rest,[]⟩=pure ())(hargs:∀a,argsOk "bytearray.__init__" ⟨a::rest,[]⟩)
  (hinit:∀{A:Around} {s:Shared} {a:Addr} {Q:Fin→Shared→Prop},s.heap.get? a=some (dm #[])→(∀h',Heap.SameBut a s.heap h'→h'.get? a=some (dm b)→Q (.done (.ret .none)) {s with heap:=h'})→
   aT (model prog w) A (Builtin.«bytearray.__init__» ⟨.ref a::rest,[]⟩) Q s)
  (h:∀h',(∀c o,s.heap.get? c=some o→h'.get? c=some o)→h'.get? s.heap.objs.size=some (dm b)→Q (.ref s.heap.objs.size) {s with heap:=h'}):
  aT (model prog w) A (call (.type "bytearray") rest []) Q s:=by
 refine ik (bo rfl ?_)
 show aT _ _ (callAny (.type "bytearray") _) _ _
 unfold callAny
 refine a8 (a:=Fin.again (.builtin "type.__call__" ⟨.type "bytearray"::rest,[]⟩)) (And.intro (Code.quiet_builtin _ (by decide+kernel)) ?_)
 refine qL (by decide+kernel) PySem.F.entry_type_call ?_
 unfold Builtin.«type.__call__»
 dsimp -zeta only
 rw [if_neg (by decide)]
 refine bq λzq=> ?_
 obtain ⟨c,tl,hmro⟩:=BF.called.mro
 apply zq;clear zq
 have hc:=BF.called.canCreate
 simp -zeta only [hc,Bool.false_eq_true,if_false,hct]
 refine a7 (a8 ?_)
 refine a7 (bJ hmro (a8 ?_))
 simp -zeta only [List.isEmpty,Bool.false_eq_true,if_false]
 refine a7 (bJ BF.called.made (a8 ?_))
 dsimp -zeta only
 refine a7 (a8 ?_)
 refine bC (wpAny_holding (wpAny_call (qX ?_)))
 have n1:(s.heap.push (dm #[])).get? s.heap.objs.size=some (dm #[]):=Heap.get?_push_size _ rfl
 have hT:∀h' (b:Array UInt8),h'.get? s.heap.objs.size=some (dm b)→({s with heap:=h'}:Shared).TypeIs (.ref s.heap.objs.size) "bytearray":=λh' b e=>⟨_,e,rfl⟩
 refine bC (wpAny_isInstance (hT _ _ n1) BF.sub ?_)
 simp -zeta only [Bool.not_true,Bool.false_eq_true,if_false]
 refine a7 (b0 ?_)
 unfold callSpecial?
 refine bC (wpAny_specialOf (hT _ _ n1) BF.slot_init.lookup ?_)
 dsimp -zeta only
 refine b0 (a7 (bJ (BF.slot_init.bind _) (a8 ?_)))
 refine a7 (ik (mr BF.slot_init (hT _ _ n1) (by decide+kernel) BF.entry_init (hargs _) (hinit n1 λh' hs hg=> ?_)))
 refine ⟨_,rfl,_,rfl,a8 ?_⟩
 dsimp -zeta only
 refine bJ (u:=ret (Value.ref s.heap.objs.size)) rfl (a8 ?_)
 refine ⟨_,rfl,h h' (λc o e=> ?_) hg⟩
 refine (hs.2 c (Nat.ne_of_lt (Heap.lt_size e))).trans (Heap.get?_push_of_some _ e)
theorem yv {A:Around}{s:Shared}{a:Addr}{Q:Fin→Shared→Prop}(ha:s.heap.get? a=some (dm #[]))(h:∀h',Heap.SameBut a s.heap h'→h'.get? a=some (dm #[])→Q (.done (.ret .none)) {s with heap:=h'}):
  aT (model prog w) A (Builtin.«bytearray.__init__» ⟨[.ref a],[]⟩) Q s:=by
 have hT:s.TypeIs (.ref a) "bytearray":=⟨_,ha,rfl⟩
 unfold Builtin.«bytearray.__init__»
 dsimp -zeta only
 refine bC (hU hT ?_)
 simp -zeta only [Bool.false_eq_true,if_false]
 refine a7 (bJ BF.bind0 (a8 ?_))
 dsimp -zeta only
 refine a7 (bJ (u:=pure ()) rfl (a8 ?_))
 refine a7 (bJ (u:=pure ()) rfl (a8 ?_))
 refine a7 (ph ha ?_)
 simp -zeta only [Bool.false_eq_true,if_false]
 refine bC (cP (f:=λ_=> #[]) ha (by simp) λh' hg hs=> ?_)
 exact a8 (h h' hs hg)
theorem xh {A:Around}{s:Shared}{a:Addr}{i:Int}{t:Tok}{Q:Fin→Shared→Prop}(f:Builtin.Bytes.fitsIndex i=true)(g1:¬i<0)(g2:(i==2^63 - 1)=false)(g3:Builtin.Bytes.tooLong i.toNat=false)(g4:i>0)(sz:(Array.replicate i.toNat (0:UInt8)).size≤100000)(hT:s.TypeIs (.ref a) "bytearray")(ha:s.heap.get? a=some (dm #[]))(h:∀h',Heap.SameBut a s.heap h'→h'.get? a=some (dm (Array.replicate i.toNat 0))→Q (.done (.ret .none)) {s with heap:=h'}):
  aT (model prog w) A (Builtin.«bytearray.__init__» ⟨[.ref a,.int i t],[]⟩) Q s:=by
 unfold Builtin.«bytearray.__init__»
 dsimp -zeta only
 refine bC (hU hT ?_)
 simp -zeta only [Bool.false_eq_true,if_false]
 refine a7 (bJ (BF.bind1 _) (a8 ?_))
 dsimp -zeta only
 refine a7 (bJ (u:=pure ()) rfl (a8 ?_))
 refine a7 (bJ (u:=pure ()) rfl (a8 ?_))
 refine a7 (ph ha ?_)
 simp -zeta only [Bool.false_eq_true,if_false]
 refine bC (cP (f:=λ_=> #[]) ha (by simp) λh' hg hs=> ?_)
 refine a7 (bJ (u:=pure none) rfl (a8 ?_))
 simp -zeta only [Option.isSome,Bool.false_eq_true,if_false]
 refine a7 (a8 ?_)
 refine bC (wpAny_specialOf (typeIs_int _ i t) PySem.F.slot_int_index.lookup ?_)
 simp -zeta only [if_true]
 refine a7 (jy (bJ (u:=pure i) rfl (a8 ?_)))
 simp -zeta only [f,g1,g2,g3,g4,Bool.not_true,Bool.false_eq_true,if_false,if_true]
 refine a7 (mh ?_)
 refine bC (cP (f:=λ_=>Array.replicate i.toNat 0) hg sz λh'' hg' hs'=> ?_)
 refine a8 (h h'' ⟨hs'.1.trans hs.1,λc n=>(hs'.2 c n).trans (hs.2 c n)⟩ hg')
theorem xA {A:Around}{s:Shared}{a:Addr}{i:Int}{t:Tok}{Q:Fin→Shared→Prop}(h0:0<i)(h1:i≤90000)(ha:s.heap.get? a=some (dm #[]))(h:∀h',Heap.SameBut a s.heap h'→h'.get? a=some (dm (Array.replicate i.toNat 0))→Q (.done (.ret .none)) {s with heap:=h'}):
  aT (model prog w) A (Builtin.«bytearray.__init__» ⟨[.ref a,.int i t],[]⟩) Q s:=
 xh (by unfold Builtin.Bytes.fitsIndex;simp only [Bool.and_eq_true,decide_eq_true_eq];lia) (by exact Int.not_lt.mpr (Int.le_of_lt h0)) (beq_eq_false_iff_ne.mpr (by lia)) (by unfold Builtin.Bytes.tooLong;rw [decide_eq_false_iff_not,sizeLine_eq];lia) h0 (by simp;lia) ⟨_,ha,rfl⟩ ha h
end
section
variable {W:Wd}{A:Around}{env:Env}{vars:List (Str×V)}{hp:H}{Q:V→H→Prop}
theorem zk {P:Params}{b:List UInt8}{x:Array UInt8}(e:x.toList=b)(hz:b.length≤100000):RO P (.barr b) (dm x):=by
 refine ⟨?_,hz⟩
 subst e;rfl
theorem qV (h:∀c,hp c=none→Q (.ref c) (hp.put c (.barr []))):EW W A env vars (call (.type "bytearray") [] []) hp (λv hp'=>Q (er v) hp'):=λfr s F=>by
 have v:=F.vacant (new_none s.heap)
 refine kr (b:= #[]) BF.typeCall0 BF.args_init0 (λha k=>yv ha k) λh' k hg=>⟨_,?_,h _ v.1⟩
 exact (F.keepBut (own:=[]) (tk:=s.toks) (λ_ q=>nomatch q) λb o _ e=>k b o e).put hg (zk rfl (by simp)) v.2.1 v.2.2.1 v.2.2.2
theorem qG {u:Value}{i:Int}(hu:er u= .int i)(h0:0<i)(h1:i≤90000)(h:∀c,hp c=none→Q (.ref c) (hp.put c (.barr (List.replicate i.toNat 0)))):EW W A env vars (call (.type "bytearray") [u] []) hp (λv hp'=>Q (er v) hp'):=λfr s F=>by
 obtain ⟨t,rfl⟩:=au hu
 have v:=F.vacant (new_none s.heap)
 refine kr (b:=Array.replicate i.toNat 0) (BF.typeCall1 _) (λa=>BF.args_init1 a _) (λha k=>xA h0 h1 ha k) λh' k hg=>⟨_,?_,h _ v.1⟩
 exact (F.keepBut (own:=[]) (tk:=s.toks) (λ_ q=>nomatch q) λb o _ e=>k b o e).put hg (zk (by simp) (by simp;lia)) v.2.1 v.2.2.1 v.2.2.2
theorem xV {a:Addr}{b:List UInt8}{j:Int}{u:Value}(h1:hp a=some (.barr b))(hu:er u= .int j)(hj0:0≤j)(hj1:j<256)(hz:b.length≤90000)(h:Q .none (hp.put a (.barr (b++[j.toNat.toUInt8])))):
  EW W A env vars (call (.builtin "bytearray.append") [.ref a,u] []) hp (λv hp'=>Q (er v) hp'):=λfr s F=>
 a9 (Bi F.hr.ice h1 hu hj0 hj1 hz) λv s' ⟨e,R'⟩=>⟨_,F.of_ice R',by subst e;exact h⟩
theorem xX {b:List UInt8}{u:Value}(hu:er u= .bytes b)(h:Q (.bool false) hp):EW W A env vars (call (.builtin "isinstance") [u,.type "str"]) hp (λv hp'=>Q (er v) hp'):=EW.lift λfr s R=>by
 obtain ⟨t,rfl⟩:=cM hu
 exact kia_one kitx_bytes R.In trivial (b:=false) rfl (by intro q;cases q) λtk=>⟨hp,R.tok _,h⟩
theorem vB {l u:Value}{Q:Value→H→Prop}(h:∀c,hp c=none→Q (.ref c) (hp.put c (.fields "slice" [er l,er u,.none]))):TW W A (newFields "slice" [l,u,.none]) hp Q:=λfr s R=>
 wpAny_newObj_type ⟨_,R.alloc (o:= .fields "slice" [er l,er u,.none]) ⟨_,rfl,rfl⟩,h _ R.new_none⟩
inductive jw:V→Option Int→Prop
 |none:jw .none none
 |int (i):jw (.int i) (some i)
theorem jw.part {x:V}{i:Option Int}{v:Value}(p:jw x i)(e:er v=x):IsPart v i:=by
 cases p with
 |none=>rw [gy e];exact .none
 |int i=>obtain ⟨t,rfl⟩:=au e;exact .int _ _
theorem wE {fr:Fz}{s:Shared}{c:Addr}{x y:V}(R:HR W fr hp s)(h1:hp c=some (.fields "slice" [x,y,.none])):∃l u,s.heap.IsSliceOf c l u .none∧er l=x∧er u=y:=by
 refine bq λzq=> ?_
 obtain ⟨_,ho,ws,rfl,e⟩:=R.get h1
 obtain ⟨ws⟩:=ws
 apply zq;clear zq
 match ws,e with
 |[],e=>cases e
 |[_],e=>cases e
 |[_,_],e=>cases e
 |_::_::_::_::_,e=>simp at e
 |[l,u,z],e=>
  simp only [List.map_cons,List.map_nil,List.cons.injEq,and_true] at e
  refine ⟨l,u,⟨_,ho,rfl,?_⟩,e.1,e.2.1⟩
  rw [gy e.2.2]
noncomputable def cut {α:Type}(xs:List α)(lo hi:Option Int):List α:=(xs.drop (lo.elim 0 (clipAt xs.length))).take (hi.elim xs.length (clipAt xs.length) - lo.elim 0 (clipAt xs.length))
theorem xT {α:Type}(xs:List α)(lo hi:Option Int):(cut xs lo hi).length≤xs.length:=by unfold cut;simp;exact Nat.le_trans (Nat.min_le_right ..) (Nat.sub_le ..)
theorem Bj {b:List UInt8}{c:Addr}{x y:V}{lo hi:Option Int}{v:Value}(hv:er v= .bytes b)(hz:b.length≤100000)(h1:hp c=some (.fields "slice" [x,y,.none]))(px:jw x lo)(py:jw y hi)(h:Q (.bytes (cut b lo hi)) hp):
  TW W A (getItem v (.ref c)) hp (λv hp'=>Q (er v) hp'):=λfr s R=>by
 refine bq λzq=> ?_
 obtain ⟨t,rfl⟩:=cM hv
 obtain ⟨l,u,S,e1,e2⟩:=wE R h1
 apply zq;clear zq
 refine getItem_meets (PySem.W.typeIs_bytes _ _ _) (by decide) FB.slot_bytes_getitem FB.entry_bytes_getitem (FB.args_bytes_getitem_2 _ _) (KBc.meets_slice2 b.toArray t _ (px.part e1) (py.part e2)) ⟨S,?_,λt' k=>⟨hp,R.tok _,?_⟩⟩
 ·refine Nat.le_trans (KBc.size_picked_le _ lo hi) ?_
  rw [List.size_toArray,sizeLine_eq];exact Nat.le_trans hz (by decide)
 ·show Q (er _) hp
  rw [KBc.picked_eq]
  simp only [List.size_toArray,jI]
  exact h
end
section
variable {W:Wd}{A:Around}{env:Env}{vars:List (Str×V)}{hp:H}{Q:V→H→Prop}
noncomputable def JK (W:Wd)(hp:H)(a:Addr)(xs:List V):Prop:=hp a=some (.list xs)∨∃ws:Array Value,W.base.IsList a ws∧ws.toList.map er=xs∧xs.length≤100000
theorem JK.get {fr:Fz}{s:Shared}{a:Addr}{xs:List V}(R:HR W fr hp s)(h:JK W hp a xs):∃ws:Array Value,s.heap.IsList a ws∧ws.toList.map er=xs∧xs.length≤100000:=by
 refine bq λzq=> ?_
 rcases h with h|⟨ws,⟨o,ho,r⟩,e,l⟩
 ·apply zq;clear zq
  exact b5 R h
 ·apply zq;clear zq
  exact ⟨ws,⟨o,R.stays _ _ ho,r⟩,e,l⟩
theorem G9 {α β:Type}(f:α→β)(xs:List α)(lo hi:Option Int):(cut xs lo hi).map f=cut (xs.map f) lo hi:=by
 unfold cut;rw [List.map_take,List.map_drop,List.length_map]
theorem AC {a c:Addr}{xs:List V}{x y:V}{lo hi:Option Int}(ha:JK W hp a xs)(h1:hp c=some (.fields "slice" [x,y,.none]))(px:jw x lo)(py:jw y hi)(h:∀d,hp d=none→Q (.ref d) (hp.put d (.list (cut xs lo hi)))):
  TW W A (getItem (.ref a) (.ref c)) hp (λv hp'=>Q (er v) hp'):=λfr s R=>by
 refine bq λzq=> ?_
 obtain ⟨ws,hl,e,l⟩:=ha.get R
 obtain ⟨l',u',S,e1,e2⟩:=wE R h1
 apply zq;clear zq
 have sz:=aX e
 refine wpAny_getItem_list_slice hl S (px.part e1) (py.part e2) .none (by simp) ⟨_,R.alloc (o:= .list (cut xs lo hi)) ⟨_,_,rfl,?_,?_⟩,h _ R.new_none⟩ (by rw [sizeLine_eq];exact Nat.le_trans (Nat.le_of_eq sz) (Nat.le_trans l (by decide)))
 ·rw [slicePick_plain,←e,←G9]
  show List.map er (cut ws.toList lo hi)=_
  rfl
 ·exact Nat.le_trans (xT ..) l
noncomputable def mY (more kv:List (Str×V)):List (Str×V):=more.foldl (λl p=>fC p.1 p.2 l) kv
theorem kt:∀(more kv:List (Str×V)),(mY more kv).length≤kv.length+more.length
 |[],kv=>Nat.le_refl _
 |p::r,kv=>by
  have h1:=kt r (fC p.1 p.2 kv)
  have h2:=gS p.1 p.2 kv
  show (mY r _).length≤_
  simp only [List.length_cons];lia
theorem yl:∀(more kvs:List (Str×Value)),(kvs.map (·.1)).Nodup→(merged kvs more).map mK=mY (more.map mK) (kvs.map mK):=by
 intro more
 induction more with
 |nil=>intro kvs _;rfl
 |cons p r ih=>
  intro kvs nd
  have e:=kE p.1 p.2 kvs nd
  have nd':((stored kvs p.1 p.2).map (·.1)).Nodup:=by
   rw [←dO,e]
   exact pB (by rw [dO];exact nd)
  show (merged (stored kvs p.1 p.2) r).map mK=_
  rw [ih _ nd',e]
  rfl
theorem AX {d o:Addr}{kv more:List (Str×V)}(hne:d≠o)(h1:hp d=some (.attrs kv))(h2:hp o=some (.attrs more))(hz:kv.length+more.length≤800)(h:Q .none (hp.put d (.attrs (mY more kv)))):
  TW W A (call (.builtin "dict.update") [.ref d,.ref o]) hp (λv hp'=>Q (er v) hp'):=λfr s R=>by
 refine bq λzq=> ?_
 obtain ⟨kvs,D,e,l⟩:=jF R h1
 obtain ⟨ms,D',e',l'⟩:=jF R h2
 apply zq;clear zq
 have lk:kvs.length=kv.length:=by rw [←e,List.length_map]
 have lm:ms.length=more.length:=by rw [←e',List.length_map]
 have hT:s.TypeIs (.ref d) "dict":=D.typeIs
 refine call_meetsIn BF.slot_update hT BF.entry_update (BF.args_update _ _) (meets_dict_update (PySem.strKind W.prog W.w) d o hne (R.notSys h2)) ⟨kvs,ms,D,D',by rw [sizeLine_eq];lia,λh' M _ hs=> ?_⟩
 have em:=yl ms kvs (si D)
 have lz:(merged kvs ms).length≤900:=by
  rw [←List.length_map (f:=mK),em,e,e']
  exact Nat.le_trans (kt more kv) (by lia)
 refine bq λzq=> ?_
 obtain ⟨x,hx,r⟩:=sB (W:=W) M lz
 apply zq;clear zq
 rw [em,e,e'] at r
 exact ⟨_,R.upd (tk:=s.toks) h1 hs hx r,h⟩
end
section
variable {W:Wd}{A:Around}{α β:Type}{env:Env}{vars:List (Str×V)}{hp:H}
theorem EW.eq {t u:Sem α}{Q:α→H→Prop}(e:t=u)(h:EW W A env vars u hp Q):EW W A env vars t hp Q:=e▸h
theorem EW.bp {a:α}{f:α→Sem β}{Q:β→H→Prop}(h:EW W A env vars (f a) hp Q):EW W A env vars ((Pure.pure a:Sem α)>>=f) hp Q:=EW.bind (EW.pure h)
theorem EW.ba {pos:Pos}{f:Unit→Sem β}{Q:β→H→Prop}(h:EW W A env vars (f ()) hp Q):EW W A env vars (standAt pos>>=f) hp Q:=EW.bind (EW.at_ h)
theorem EW.bl {t:Sem α}{f:α→Sem β}{Q:β→H→Prop}(h:TW W A t hp λa hp'=>EW W A env vars (f a) hp' Q):EW W A env vars (t>>=f) hp Q:=EW.bind (EW.lift h)
theorem fE {vs keep:List Value}{Q:Unit→H→Prop}(h:Q () hp):TW W A (release vs keep) hp Q:=λfr s R=>wpAny_release ⟨hp,R,h⟩
theorem bc {vs:List Value}{m:Sem Value}{Q:Value→H→Prop}(h:EW W A env vars m hp Q):EW W A env vars (operate vs m) hp Q:=
 EW.bind (EW.hold (h.mono λr hp' q=>EW.bl (fE (EW.pure q))))
theorem fx {base:Expr}{o r:Value}{Q:Unit→H→Prop}(h:Q () hp):TW W A (letTemporaryGo base o r) hp Q:=λfr s R=>wpAny_letTemporaryGo ⟨hp,R,h⟩
theorem HM {e:Expr}{pos:Pos}{v:Value}{Q:Flow→H→Prop}(h:Q .next hp):TW W A (dropValue e pos v) hp Q:=λfr s R=>wpAny_dropValue ⟨hp,R,h⟩
theorem jl {T id:String}{o:Value}{Q:Bool→H→Prop}(hT:∀fr s,HR W fr hp s→s.TypeIs o T)(hl:typeLookup (.type T) "__getitem__"=pure (some (.builtin id)))(h:Q false hp):TW W A (getitemInPython o) hp Q:=λfr s R=>by
 rw [getitemInPython_of_ne (hT fr s R).not_modules]
 exact wpAny_bind (wpAny_specialOf (hT fr s R) hl (wpAny_pure ⟨hp,R,h⟩))
end
namespace BF
end BF
section
variable {W:Wd}{A:Around}{α β:Type}{env:Env}{vars:List (Str×V)}{hp:H}
noncomputable def sj:Const→V
 | .none=> .none
 | .bool b=> .bool b
 | .int i=> .int i
 | .str x=> .str x
 | .bytes b=> .bytes b
 |_=> .other
theorem ve {c:Const}{Q:Value→H→Prop}(hc:match sj c with| .other=>False|_=>True)(h:∀v,er v=sj c→Q v hp):EW W A env vars (constValue env c) hp Q:=EW.lift λfr s R=>by
 cases c with
 |none=>exact wpAny_pure ⟨hp,R,h _ rfl⟩
 |bool b=>exact wpAny_pure ⟨hp,R,h _ rfl⟩
 |int i=>exact wpAny_mkInt ⟨hp,R.tok _,h _ rfl⟩
 |str x=>exact wpAny_mkText ⟨hp,R.tok _,h _ rfl⟩
 |bytes b=>exact wpAny_mkTextBytes ⟨hp,R.tok _,h _ (jI ..)⟩
 |_=>exact hc.elim
theorem zN {k:Nat}{f:Addr}{vs:List Value}{Q:V→H→Prop}(r:gJ k A)(h:CW W k f (vs.map er) hp Q):EW W A env vars (call (.ref f) vs []) hp (λv hp'=>Q (er v) hp'):=λfr s F=>
 ik (fb (h A _ s vs r F.hr.ice rfl) λ_ _ z=>z.elim λv z=>z.elim λhp' z=>⟨v,z.1,hp',F.of_ice z.2.1,z.2.2⟩)
theorem cV {pos:Pos}{f:Value}{first:List Value}{args:List (Bool×Sem Value)}{Q:Value→H→Prop}(hplain:args.any (·.1)=false)
  (hk:∀h,W.K.In h→∃k,(k=Keeper.frame∨k=Keeper.machine∨k=Keeper.boundFrame)∧Looks (model W.prog W.w) h (keeperOf f) k)
  (h:EW W A env vars (evalArgs f true args []) hp (λa hp₁=>a.kw=[]∧EW W A env vars (call f (first++a.pos) []) hp₁ Q)):EW W A env vars (callWith pos f first args []) hp Q:=λfr s F=>
 lE (P:=λh=>W.K.In h) hplain hk (a9 (h fr s F) λa s₁ z=>z.elim λhp₁ z=>⟨z.1.hr.In,z.2.1,z.2.2 fr s₁ z.1⟩)
theorem aI {M:Model}{h:Heap}{id:String}:Looks M h (keeperOf (.builtin id)) Keeper.machine:=Looks.of_pure rfl
theorem br {M:Model}{h:Heap}{id:String}:Looks M h (keeperOf (.type id)) Keeper.machine:=Looks.of_pure rfl
theorem cJ {Q:List Value→H→Prop}(h:Q [] hp):EW W A env vars (spliced []) hp Q:=EW.pure h
theorem bT {t:Sem Value}{r:List (Bool×Sem Value)}{Q:List Value→H→Prop}(h:EW W A env vars t hp λv hp₁=>EW W A env vars (spliced r) hp₁ λvs hp₂=>Q (v::vs) hp₂):EW W A env vars (spliced ((false,t)::r)) hp Q:=
 EW.bind (h.mono λv hp₁ q=>EW.bp (EW.bind (EW.hold (q.mono λvs hp₂ q'=>EW.pure q'))))
theorem c4 {f:Value}{args:List (Bool×Sem Value)}{Q:Args→H→Prop}(hplain:args.any (·.1)=false)(h:EW W A env vars (spliced args) hp λvs hp₁=>Q ⟨vs,[]⟩ hp₁):EW W A env vars (evalArgs f true args []) hp Q:=by
 have e:evalArgs f true args []=(do
   let pos←spliced args
   holding (pos++(Option.none:Option Value).toList) (do
    let kw:=([]:List Str).zip (←evalAll [])
    return ⟨pos,kw⟩)):=by
  match args,hplain with
  |[],_=>rfl
  |(true,x)::r,q=>simp at q
  |(false,x)::r,_=>
   show evalArgs f true ((false,x)::r) []=_
   unfold evalArgs
   simp only [bind_assoc,pure_bind]
   rfl
 rw [e]
 exact EW.bind (h.mono λvs hp₁ q=>EW.hold (EW.bp (EW.pure q)))
end
noncomputable section
namespace Hd
noncomputable abbrev pw:Program:=PySem.Challenge.pw_pf0218_01
noncomputable abbrev s (x:String):Str:=Str.ofString x
noncomputable abbrev I (n t:Nat):Value:= .int (Int.ofNat n) t
noncomputable abbrev R (a:Nat):Value:= .ref a
noncomputable abbrev S (x:String)(t:Nat):Value:= .str (Str.ofString x) t
noncomputable abbrev en (P:Params)(x:String)(t:Nat)(v:Value):DictEntry:=⟨PyData.keyHash P (Str.ofString x),.str (Str.ofString x) t,v⟩
noncomputable abbrev N:Obj→BT→BT→BT:=BT.node
noncomputable abbrev Z:BT:=BT.nil
noncomputable abbrev F (x:Obj):BT:=N x Z Z
noncomputable abbrev dv:Life:={}
noncomputable def Cx:Stmt:= .Pass ⟨0,0,0,0⟩
noncomputable def stm (i:Nat):Stmt:=(pw.main.body[i]?).getD Cx
noncomputable def NC (st:Stmt)(j:Nat):Stmt:=match st with
 | .ClassDef _ _ _ b _ _ _ _ _ _ _=>(b[j]?).getD Cx
 |_=>Cx
noncomputable def mem (i j:Nat):Stmt:=NC (stm i) j
noncomputable def fA (x:Stmt):Arguments:=match x with
 | .FunctionDef _ a _ _ _ _ _ _ _ _=>a
 |_=>⟨[],[],none,[],[],none,[]⟩
noncomputable def fB (x:Stmt):List Stmt:=match x with
 | .FunctionDef _ _ b _ _ _ _ _ _ _=>b
 |_=>[]
noncomputable def fS (x:Stmt):Scope:=match x with
 | .FunctionDef _ _ _ _ _ _ sc _ _ _=>sc
 |_=>⟨.function,[],false,false,[]⟩
noncomputable abbrev m0:Nat:=11
noncomputable abbrev gw:Env:={scope:=pw.main.scope,locals:=mainNs,globals:=mainNs,cells:=[],code:=(R 13),frame:=some 14}
noncomputable abbrev Oz:Pos:=⟨0,0,0,0⟩
noncomputable abbrev C (t:Nat):Value:=S "/claim/cut.py" t
noncomputable abbrev tu (l:Array Value):Obj:=⟨.type "tuple",none,.seq l 0,#[]⟩
noncomputable abbrev nf (l:Array Value):Obj:=⟨.none,none,.fields l,#[]⟩
noncomputable abbrev di (l:Array DictEntry)(n:Nat):Obj:=⟨.type "dict",none,.dict l n,#[]⟩
noncomputable abbrev co (a b:String) (n l x y z u r:Nat)(o:Bool)(q:Nat)(c d e f:Value)(m:Nat):Obj:=⟨.type "code",none,.fields #[S a n,S b (n+1),C (n+2),I l 0,I x 0,I y 0,I z 0,I u 0,R r,.bool o,I 181 0,R q,c,d,e,f,I m 0,I l 0,C (m+1)],#[]⟩
noncomputable abbrev fu (a b:String)(x:Stmt):Obj:=⟨.none,none,.func ⟨s a,s b,fA x,.stmts (fB x),fS x,0,[],.none,.none,.none,.none,none,.none,.none,0⟩,#[]⟩
noncomputable abbrev fv (a b:String)(x:Stmt)(d:Value)(c:String)(n m:Nat):Obj:=⟨.type "function",none,.func ⟨s a,s b,fA x,.stmts (fB x),fS x,3,[],d,.none,.none,S c n,none,R m,.none,0⟩,#[]⟩
abbrev o0:Obj:=tu #[]
abbrev o1:Obj:=nf #[]
abbrev o2:Obj:=co "<module>" "<module>" 182 1 0 0 0 0 11 false 12 .none .none .none .none 185
abbrev o3:Obj:=⟨.type "frame",none,.plain,#[some (R 13),some (R 3),some (R 3),none,some (S "__main__" 164),none,some (R 0)]⟩
noncomputable def Ha (P:Params):Heap:=⟨⟨[(boot_o_0 P),(boot_o_1 P),(boot_o_2 P),(boot_o_3 P),(boot_o_4 P),(boot_o_5 P),(boot_o_6 P),(boot_o_7 P),(boot_o_8 P),(boot_o_9 P),(boot_o_10 P),o0,o1,o2,o3]⟩,dv⟩
noncomputable def tb (P:Params):BT:=(N (boot_o_0 P) (N (boot_o_1 P) (N (boot_o_3 P) (F (boot_o_7 P)) (F o0)) (N (boot_o_5 P) (F (boot_o_9 P)) (F o2))) (N (boot_o_2 P) (N (boot_o_4 P) (F (boot_o_8 P)) (F o1)) (N (boot_o_6 P) (F (boot_o_10 P)) (F o3))))
abbrev o4 (P:Params):Obj:=di #[en P "__name__" 165 (S "pipeboard.errors" 194),en P "__doc__" 166 .none,en P "__package__" 167 .none,en P "__loader__" 168 (.builtin "__main__.__loader__#opaque"),en P "__spec__" 169 .none,en P "__annotations__" 170 (R 6),en P "__builtins__" 171 (R 4),en P "__file__" 173 (C 172),en P "__cached__" 174 .none,en P "_wall" 193 (R 21),en P "BoardError" 223 (R 39),en P "BadArgument" 239 (R 52),en P "NoRoom" 255 (R 64),en P "BadCall" 271 (R 76)] 14
abbrev o5:Obj:=nf #[I 1 0,I 0 0,R 20,I 5 0,I 0 0,R 27,I 10 0,I 0 0,R 48,I 12 0,I 0 0,R 60,I 14 0,I 0 0,R 72]
abbrev o8:Obj:=tu #[S "k" 190]
abbrev FJ:Obj:=fu "_wall" "_wall" (stm 0)
abbrev F3:Obj:=co "_wall" "_wall" 187 1 1 0 0 3 15 true 16 .none (R 17) (R 18) (R 19) 191
abbrev CQ:Obj:=fv "_wall" "_wall" (stm 0) .none "__main__" 164 20
abbrev F7:Obj:=tu #[.type "ValueError"]
abbrev bW:Obj:=⟨.type "builtin_function_or_method",none,.fields #[.builtin "type.__prepare__",.type "type"],#[]⟩
abbrev Fp (P:Params):Obj:=di #[en P "__module__" 203 (S "pipeboard.errors" 194),en P "__qualname__" 205 (S "BoardError" 204),en P "__firstlineno__" 207 (I 5 206),en P "__init__" 216 (R 36),en P "__static_attributes__" 218 (R 37)] 5
abbrev Fs:Obj:=nf #[I 7 0,I 4 0,R 35]
abbrev FH:Obj:=co "BoardError" "BoardError" 198 5 0 0 0 0 25 false 26 .none .none .none .none 201
abbrev Fx:Obj:=⟨.type "frame",none,.plain,#[some (R 27),some (R 3),some (R 24),none,some (S "pipeboard.errors" 194),none,some (R 0)]⟩
abbrev CZ:Obj:=tu #[S "" 208]
abbrev Fi:Obj:=tu #[S "self" 212,S "reason" 213]
abbrev Fw:Obj:=fu "__init__" "BoardError.__init__" (mem 2 0)
abbrev Cv:Obj:=co "__init__" "BoardError.__init__" 209 7 2 0 0 3 30 true 31 .none (R 32) (R 33) (R 34) 214
abbrev DE:Obj:=fv "__init__" "BoardError.__init__" (mem 2 0) (R 29) "pipeboard.errors" 194 35
abbrev Fd:Obj:=tu #[S "reason" 217]
abbrev EP (P:Params):Obj:=di #[en P "__module__" 203 (S "pipeboard.errors" 194),en P "__firstlineno__" 207 (I 5 206),en P "__init__" 216 (R 36),en P "__static_attributes__" 218 (R 37),en P "__weakref__" 220 (R 40),en P "__doc__" 221 .none] 3
abbrev Pu:Obj:=⟨.type "type",none,.cls ⟨s "BoardError",[.type "ValueError"],[R 39,.type "ValueError",.type "Exception",.type "BaseException",.type "object"],38,s "BoardError",true,[],[R 52,R 64,R 76],false,none,false⟩,#[some (R 22),none,some (S "BoardError" 196),some (S "BoardError" 204),some (.builtin "ValueError.__new__"),some (.bool true)]⟩
abbrev Ft:Obj:=⟨.type "getset_descriptor",none,.fields #[S "__weakref__" 219,R 39,.builtin "ExceptionGroup.__weakref__",.none],#[]⟩
abbrev F9:Obj:=⟨.type "super",none,.fields #[R 39,R 39,R 39],#[]⟩
abbrev Fq:Obj:=⟨.type "builtin_function_or_method",none,.fields #[.builtin "object.__init_subclass__",R 39],#[]⟩
abbrev iM:Obj:=tu #[R 39]
abbrev Fa (P:Params):Obj:=di #[en P "__module__" 231 (S "pipeboard.errors" 194),en P "__qualname__" 233 (S "BadArgument" 232),en P "__firstlineno__" 235 (I 10 234),en P "__static_attributes__" 236 (R 50)] 4
abbrev Fk:Obj:=co "BadArgument" "BadArgument" 226 10 0 0 0 0 46 false 47 .none .none .none .none 229
abbrev FG:Obj:=⟨.type "frame",none,.plain,#[some (R 48),some (R 3),some (R 45),none,some (S "pipeboard.errors" 194),none,some (R 0)]⟩
abbrev Dx (P:Params):Obj:=di #[en P "__module__" 231 (S "pipeboard.errors" 194),en P "__firstlineno__" 235 (I 10 234),en P "__static_attributes__" 236 (R 50),en P "__doc__" 237 .none] 2
abbrev D8:Obj:=⟨.type "type",none,.cls ⟨s "BadArgument",[R 39],[R 52,R 39,.type "ValueError",.type "Exception",.type "BaseException",.type "object"],51,s "BadArgument",true,[],[],false,none,false⟩,#[some (R 43),none,some (S "BadArgument" 224),some (S "BadArgument" 232),some (.builtin "ValueError.__new__"),some (.bool true)]⟩
abbrev Fe:Obj:=⟨.type "super",none,.fields #[R 52,R 52,R 52],#[]⟩
abbrev Ff:Obj:=⟨.type "builtin_function_or_method",none,.fields #[.builtin "object.__init_subclass__",R 52],#[]⟩
abbrev FF (P:Params):Obj:=di #[en P "__module__" 247 (S "pipeboard.errors" 194),en P "__qualname__" 249 (S "NoRoom" 248),en P "__firstlineno__" 251 (I 12 250),en P "__static_attributes__" 252 (R 62)] 4
abbrev FK:Obj:=co "NoRoom" "NoRoom" 242 12 0 0 0 0 58 false 59 .none .none .none .none 245
abbrev FM:Obj:=⟨.type "frame",none,.plain,#[some (R 60),some (R 3),some (R 57),none,some (S "pipeboard.errors" 194),none,some (R 0)]⟩
abbrev C6 (P:Params):Obj:=di #[en P "__module__" 247 (S "pipeboard.errors" 194),en P "__firstlineno__" 251 (I 12 250),en P "__static_attributes__" 252 (R 62),en P "__doc__" 253 .none] 2
abbrev EJ:Obj:=⟨.type "type",none,.cls ⟨s "NoRoom",[R 39],[R 64,R 39,.type "ValueError",.type "Exception",.type "BaseException",.type "object"],63,s "NoRoom",true,[],[],false,none,false⟩,#[some (R 55),none,some (S "NoRoom" 240),some (S "NoRoom" 248),some (.builtin "ValueError.__new__"),some (.bool true)]⟩
abbrev F6:Obj:=⟨.type "super",none,.fields #[R 64,R 64,R 64],#[]⟩
abbrev Fv:Obj:=⟨.type "builtin_function_or_method",none,.fields #[.builtin "object.__init_subclass__",R 64],#[]⟩
abbrev Fn (P:Params):Obj:=di #[en P "__module__" 263 (S "pipeboard.errors" 194),en P "__qualname__" 265 (S "BadCall" 264),en P "__firstlineno__" 267 (I 14 266),en P "__static_attributes__" 268 (R 74)] 4
abbrev FD:Obj:=co "BadCall" "BadCall" 258 14 0 0 0 0 70 false 71 .none .none .none .none 261
abbrev Fb:Obj:=⟨.type "frame",none,.plain,#[some (R 72),some (R 3),some (R 69),none,some (S "pipeboard.errors" 194),none,some (R 0)]⟩
abbrev EY (P:Params):Obj:=di #[en P "__module__" 263 (S "pipeboard.errors" 194),en P "__firstlineno__" 267 (I 14 266),en P "__static_attributes__" 268 (R 74),en P "__doc__" 269 .none] 2
abbrev C9:Obj:=⟨.type "type",none,.cls ⟨s "BadCall",[R 39],[R 76,R 39,.type "ValueError",.type "Exception",.type "BaseException",.type "object"],75,s "BadCall",true,[],[],false,none,false⟩,#[some (R 67),none,some (S "BadCall" 256),some (S "BadCall" 264),some (.builtin "ValueError.__new__"),some (.bool true)]⟩
abbrev Fu:Obj:=⟨.type "super",none,.fields #[R 76,R 76,R 76],#[]⟩
abbrev Fl:Obj:=⟨.type "builtin_function_or_method",none,.fields #[.builtin "object.__init_subclass__",R 76],#[]⟩
abbrev N2:List Stmt:=[stm 0,stm 1,stm 2,stm 3,stm 4,stm 5]
def t0 (P:Params):BT:=(N (boot_o_0 P) (N (boot_o_1 P) (N (o4 P) (N (boot_o_7 P) (N o0 (N o1 (F (C6 P)) Z) (F o1)) (N bW (N Pu (F o1) Z) (F iM))) (N o0 (N FJ (N Cv (F iM) Z) (F (Dx P))) (N FH (N iM (F (EY P)) Z) (F o1)))) (N (boot_o_5 P) (N (boot_o_9 P) (N o8 (N o0 (F F6) Z) (F FG)) (N o0 (N F9 (F Fb) Z) (F (FF P)))) (N o2 (N CQ (N Fd (F (Fn P)) Z) (F Fe)) (N CZ (N (Fa P) (F Fu) Z) (F FM))))) (N (boot_o_2 P) (N (boot_o_4 P) (N (boot_o_8 P) (N o1 (N Fi (F EJ) Z) (F Fk)) (N (Fp P) (N Ft (F FD) Z) (F bW))) (N o5 (N F3 (N DE (F bW) Z) (F D8)) (N Fx (N bW (F C9) Z) (F FK)))) (N (boot_o_6 P) (N (boot_o_10 P) (N o0 (N Fw (F Fv) Z) (F o0)) (N Fs (N Fq (F o0) Z) (F o0))) (N o3 (N F7 (N (EP P) (F o0) Z) (F Ff)) (N o0 (N o0 (F Fl) Z) (F o0))))))
abbrev Pw (P:Params):Obj:=di #[en P "__name__" 165 (S "pipeboard.pipes" 288),en P "__doc__" 166 .none,en P "__package__" 167 .none,en P "__loader__" 168 (.builtin "__main__.__loader__#opaque"),en P "__spec__" 169 .none,en P "__annotations__" 170 (R 6),en P "__builtins__" 171 (R 4),en P "__file__" 173 (C 172),en P "__cached__" 174 .none,en P "_wall" 193 (R 21),en P "BoardError" 223 (R 39),en P "BadArgument" 239 (R 52),en P "NoRoom" 255 (R 64),en P "BadCall" 271 (R 76),en P "Stuck" 287 (R 88),en P "DONE" 291 (I 0 290),en P "SLEEP" 293 (I 1 292),en P "BROKEN" 295 (I 2 294),en P "READ_CHANNEL" 297 (I 0 296),en P "WRITE_CHANNEL" 299 (I 1 298),en P "Pipe" 385 (R 150)] 21
abbrev Ps:Obj:=nf #[I 1 0,I 0 0,R 20,I 5 0,I 0 0,R 27,I 10 0,I 0 0,R 48,I 12 0,I 0 0,R 60,I 14 0,I 0 0,R 72,I 16 0,I 0 0,R 84,I 24 0,I 0 0,R 96]
abbrev FE:Obj:=⟨.type "type",none,.cls ⟨s "BoardError",[.type "ValueError"],[R 39,.type "ValueError",.type "Exception",.type "BaseException",.type "object"],38,s "BoardError",true,[],[R 52,R 64,R 76,R 88],false,none,false⟩,#[some (R 22),none,some (S "BoardError" 196),some (S "BoardError" 204),some (.builtin "ValueError.__new__"),some (.bool true)]⟩
abbrev Hg (P:Params):Obj:=di #[en P "__module__" 279 (S "pipeboard.errors" 194),en P "__qualname__" 281 (S "Stuck" 280),en P "__firstlineno__" 283 (I 16 282),en P "__static_attributes__" 284 (R 86)] 4
abbrev HX:Obj:=co "Stuck" "Stuck" 274 16 0 0 0 0 82 false 83 .none .none .none .none 277
abbrev Gx:Obj:=⟨.type "frame",none,.plain,#[some (R 84),some (R 3),some (R 81),none,some (S "pipeboard.errors" 194),none,some (R 0)]⟩
abbrev F8 (P:Params):Obj:=di #[en P "__module__" 279 (S "pipeboard.errors" 194),en P "__firstlineno__" 283 (I 16 282),en P "__static_attributes__" 284 (R 86),en P "__doc__" 285 .none] 2
abbrev Fj:Obj:=⟨.type "type",none,.cls ⟨s "Stuck",[R 39],[R 88,R 39,.type "ValueError",.type "Exception",.type "BaseException",.type "object"],87,s "Stuck",true,[],[],false,none,false⟩,#[some (R 79),none,some (S "Stuck" 272),some (S "Stuck" 280),some (.builtin "ValueError.__new__"),some (.bool true)]⟩
abbrev Hc:Obj:=⟨.type "super",none,.fields #[R 88,R 88,R 88],#[]⟩
abbrev Hw:Obj:=⟨.type "builtin_function_or_method",none,.fields #[.builtin "object.__init_subclass__",R 88],#[]⟩
abbrev Gu (P:Params):Obj:=di #[en P "__module__" 307 (S "pipeboard.pipes" 288),en P "__qualname__" 309 (S "Pipe" 308),en P "__firstlineno__" 311 (I 24 310),en P "__init__" 321 (R 105),en P "waiting" 328 (R 112),en P "room" 335 (R 119),en P "channel" 343 (R 126),en P "write" 353 (R 133),en P "read" 362 (R 140),en P "close" 370 (R 147),en P "__static_attributes__" 378 (R 148)] 11
abbrev Hh:Obj:=nf #[I 26 0,I 4 0,R 104,I 37 0,I 4 0,R 111,I 40 0,I 4 0,R 118,I 43 0,I 4 0,R 125,I 46 0,I 4 0,R 132,I 55 0,I 4 0,R 139,I 64 0,I 4 0,R 146]
abbrev HT:Obj:=co "Pipe" "Pipe" 302 24 0 0 0 0 94 false 95 .none .none .none .none 305
abbrev HF:Obj:=⟨.type "frame",none,.plain,#[some (R 96),some (R 3),some (R 93),none,some (S "pipeboard.pipes" 288),none,some (R 0)]⟩
abbrev FA:Obj:=tu #[I 512 312]
abbrev HP:Obj:=tu #[S "self" 316,S "ident" 317,S "size" 318]
abbrev I4:Obj:=fu "__init__" "Pipe.__init__" (mem 13 0)
abbrev Fm:Obj:=co "__init__" "Pipe.__init__" 313 26 3 0 0 3 99 true 100 .none (R 101) (R 102) (R 103) 319
abbrev o99:Obj:=fv "__init__" "Pipe.__init__" (mem 13 0) (R 98) "pipeboard.pipes" 288 104
abbrev tJ:Obj:=tu #[S "self" 325]
abbrev tE:Obj:=fu "waiting" "Pipe.waiting" (mem 13 1)
abbrev qN:Obj:=co "waiting" "Pipe.waiting" 322 37 1 0 0 3 106 true 107 .none (R 108) (R 109) (R 110) 326
abbrev o106:Obj:=fv "waiting" "Pipe.waiting" (mem 13 1) .none "pipeboard.pipes" 288 111
abbrev s6:Obj:=tu #[S "self" 332]
abbrev tH:Obj:=fu "room" "Pipe.room" (mem 13 2)
abbrev qE:Obj:=co "room" "Pipe.room" 329 40 1 0 0 3 113 true 114 .none (R 115) (R 116) (R 117) 333
abbrev o113:Obj:=fv "room" "Pipe.room" (mem 13 2) .none "pipeboard.pipes" 288 118
abbrev tD:Obj:=tu #[S "self" 339,S "side" 340]
abbrev sW:Obj:=fu "channel" "Pipe.channel" (mem 13 3)
abbrev qU:Obj:=co "channel" "Pipe.channel" 336 43 2 0 0 3 120 true 121 .none (R 122) (R 123) (R 124) 341
abbrev o120:Obj:=fv "channel" "Pipe.channel" (mem 13 3) .none "pipeboard.pipes" 288 125
abbrev sY:Obj:=tu #[S "self" 347,S "octets" 348,S "taken" 349,S "octet" 350]
abbrev sZ:Obj:=fu "write" "Pipe.write" (mem 13 4)
abbrev qS:Obj:=co "write" "Pipe.write" 344 46 2 0 0 3 127 true 128 .none (R 129) (R 130) (R 131) 351
abbrev o127:Obj:=fv "write" "Pipe.write" (mem 13 4) .none "pipeboard.pipes" 288 132
abbrev rZ:Obj:=tu #[S "self" 357,S "count" 358,S "given" 359]
abbrev rK:Obj:=fu "read" "Pipe.read" (mem 13 5)
abbrev qD:Obj:=co "read" "Pipe.read" 354 55 2 0 0 3 134 true 135 .none (R 136) (R 137) (R 138) 360
abbrev o134:Obj:=fv "read" "Pipe.read" (mem 13 5) .none "pipeboard.pipes" 288 139
abbrev rT:Obj:=tu #[S "self" 366,S "side" 367]
abbrev ui:Obj:=fu "close" "Pipe.close" (mem 13 6)
abbrev qO:Obj:=co "close" "Pipe.close" 363 64 2 0 0 3 141 true 142 .none (R 143) (R 144) (R 145) 368
abbrev o141:Obj:=fv "close" "Pipe.close" (mem 13 6) .none "pipeboard.pipes" 288 146
abbrev sA:Obj:=tu #[S "ident" 371,S "read_count" 372,S "read_open" 373,S "ring" 374,S "size" 375,S "write_count" 376,S "write_open" 377]
abbrev qW (P:Params):Obj:=di #[en P "__module__" 307 (S "pipeboard.pipes" 288),en P "__firstlineno__" 311 (I 24 310),en P "__init__" 321 (R 105),en P "waiting" 328 (R 112),en P "room" 335 (R 119),en P "channel" 343 (R 126),en P "write" 353 (R 133),en P "read" 362 (R 140),en P "close" 370 (R 147),en P "__static_attributes__" 378 (R 148),en P "__dict__" 380 (R 151),en P "__weakref__" 382 (R 152),en P "__doc__" 383 .none] 4
abbrev qJ:Obj:=⟨.type "type",none,.cls ⟨s "Pipe",[.type "object"],[R 150,.type "object"],149,s "Pipe",true,[],[],false,none,false⟩,#[none,none,some (S "Pipe" 300),some (S "Pipe" 308),some (.builtin "object.__new__"),some (.bool true)]⟩
abbrev rX:Obj:=⟨.type "getset_descriptor",none,.fields #[S "__dict__" 379,R 150,.builtin "function.__dict__",.builtin "function.__dict__#set"],#[]⟩
abbrev u0:Obj:=⟨.type "getset_descriptor",none,.fields #[S "__weakref__" 381,R 150,.builtin "ExceptionGroup.__weakref__",.none],#[]⟩
abbrev sC:Obj:=⟨.type "super",none,.fields #[R 150,R 150,R 150],#[]⟩
abbrev sf:Obj:=⟨.type "builtin_function_or_method",none,.fields #[.builtin "object.__init_subclass__",R 150],#[]⟩
abbrev JX:List Stmt:=[stm 6,stm 7,stm 8,stm 9,stm 10,stm 11,stm 12,stm 13]
def t1 (P:Params):BT:=(N (boot_o_0 P) (N (boot_o_1 P) (N (Pw P) (N (boot_o_7 P) (N o0 (N o1 (N (C6 P) (F o0) Z) (F Hh)) (N o1 (N iM (F rT) Z) (F qN))) (N bW (N FE (N o1 (F o1) Z) (F I4)) (N iM (N (F8 P) (F rX) Z) (F o113)))) (N o0 (N FJ (N Cv (N iM (F sZ) Z) (F o0)) (N (Dx P) (N o1 (F o141) Z) (F s6))) (N FH (N iM (N (EY P) (F qD) Z) (F o1)) (N o1 (F o0) (F o0))))) (N (boot_o_5 P) (N (boot_o_9 P) (N o8 (N o0 (N F6 (F sY) Z) (F HF)) (N FG (N (Hg P) (F ui) Z) (F o0))) (N o0 (N F9 (N Fb (F o0) Z) (F o99)) (N (FF P) (N Hc (F sC) Z) (F o1)))) (N o2 (N CQ (N Fd (N (Fn P) (F o127) Z) (F HP)) (N Fe (N Gx (F (qW P)) Z) (F tH))) (N CZ (N (Fa P) (N Fu (F o0) Z) (F o0)) (N FM (F (Gu P)) (F qU)))))) (N (boot_o_2 P) (N (boot_o_4 P) (N (boot_o_8 P) (N o1 (N Fi (N EJ (F o1) Z) (F HT)) (N Fk (N bW (F o0) Z) (F o106))) (N (Fp P) (N Ft (N FD (F rZ) Z) (F Fm)) (N bW (N Fj (F u0) Z) (F o0)))) (N Ps (N F3 (N DE (N bW (F qS) Z) (F o1)) (N D8 (N HX (F sA) Z) (F o0))) (N Fx (N bW (N C9 (F o134) Z) (F tJ)) (N FK (F bW) (F sW))))) (N (boot_o_6 P) (N (boot_o_10 P) (N o0 (N Fw (N Fv (F o0) Z) (F FA)) (N o0 (N o0 (F qO) Z) (F o1))) (N Fs (N Fq (N o0 (F rK) Z) (F o0)) (N o0 (N Hw (F sf) Z) (F tD)))) (N o3 (N F7 (N (EP P) (N o0 (F o0) Z) (F o0)) (N Ff (N o0 (F qJ) Z) (F qE))) (N o0 (N o0 (N Fl (F o1) Z) (F tE)) (N o0 (F o0) (F o120)))))))
abbrev P8 (P:Params):Obj:=di #[en P "__name__" 165 (S "pipeboard.calls" 442),en P "__doc__" 166 .none,en P "__package__" 167 .none,en P "__loader__" 168 (.builtin "__main__.__loader__#opaque"),en P "__spec__" 169 .none,en P "__annotations__" 170 (R 6),en P "__builtins__" 171 (R 4),en P "__file__" 173 (C 172),en P "__cached__" 174 .none,en P "_wall" 193 (R 21),en P "BoardError" 223 (R 39),en P "BadArgument" 239 (R 52),en P "NoRoom" 255 (R 64),en P "BadCall" 271 (R 76),en P "Stuck" 287 (R 88),en P "DONE" 291 (I 0 290),en P "SLEEP" 293 (I 1 292),en P "BROKEN" 295 (I 2 294),en P "READ_CHANNEL" 297 (I 0 296),en P "WRITE_CHANNEL" 299 (I 1 298),en P "Pipe" 385 (R 150),en P "PipeTable" 441 (R 193),en P "TICKS" 445 (R 198),en P "octets_of" 451 (R 203),en P "Parts" 491 (R 221)] 25
abbrev Og:Obj:=nf #[I 1 0,I 0 0,R 20,I 5 0,I 0 0,R 27,I 10 0,I 0 0,R 48,I 12 0,I 0 0,R 60,I 14 0,I 0 0,R 72,I 16 0,I 0 0,R 84,I 24 0,I 0 0,R 96,I 70 0,I 0 0,R 160,I 91 0,I 0 0,R 202,I 97 0,I 0 0,R 209]
abbrev ur (P:Params):Obj:=di #[en P "__module__" 393 (S "pipeboard.pipes" 288),en P "__qualname__" 395 (S "PipeTable" 394),en P "__firstlineno__" 397 (I 70 396),en P "__init__" 406 (R 169),en P "make" 414 (R 176),en P "close" 423 (R 183),en P "count" 430 (R 190),en P "__static_attributes__" 434 (R 191)] 8
abbrev uZ:Obj:=nf #[I 72 0,I 4 0,R 168,I 77 0,I 4 0,R 175,I 83 0,I 4 0,R 182,I 87 0,I 4 0,R 189]
abbrev wY:Obj:=co "PipeTable" "PipeTable" 388 70 0 0 0 0 158 false 159 .none .none .none .none 391
abbrev wV:Obj:=⟨.type "frame",none,.plain,#[some (R 160),some (R 3),some (R 157),none,some (S "pipeboard.pipes" 288),none,some (R 0)]⟩
abbrev tc:Obj:=tu #[I 512 398]
abbrev vW:Obj:=tu #[S "self" 402,S "size" 403]
abbrev wQ:Obj:=fu "__init__" "PipeTable.__init__" (mem 14 0)
abbrev sE:Obj:=co "__init__" "PipeTable.__init__" 399 72 2 0 0 3 163 true 164 .none (R 165) (R 166) (R 167) 404
abbrev o165:Obj:=fv "__init__" "PipeTable.__init__" (mem 14 0) (R 162) "pipeboard.pipes" 288 168
abbrev vG:Obj:=tu #[S "self" 410,S "pipe" 411]
abbrev w6:Obj:=fu "make" "PipeTable.make" (mem 14 1)
abbrev sS:Obj:=co "make" "PipeTable.make" 407 77 1 0 0 3 170 true 171 .none (R 172) (R 173) (R 174) 412
abbrev o172:Obj:=fv "make" "PipeTable.make" (mem 14 1) .none "pipeboard.pipes" 288 175
abbrev x4:Obj:=tu #[S "self" 418,S "pipe" 419,S "side" 420]
abbrev wL:Obj:=fu "close" "PipeTable.close" (mem 14 2)
abbrev tg:Obj:=co "close" "PipeTable.close" 415 83 3 0 0 3 177 true 178 .none (R 179) (R 180) (R 181) 421
abbrev o179:Obj:=fv "close" "PipeTable.close" (mem 14 2) .none "pipeboard.pipes" 288 182
abbrev wk:Obj:=tu #[S "self" 427]
abbrev vi:Obj:=fu "count" "PipeTable.count" (mem 14 3)
abbrev tz:Obj:=co "count" "PipeTable.count" 424 87 1 0 0 3 184 true 185 .none (R 186) (R 187) (R 188) 428
abbrev o186:Obj:=fv "count" "PipeTable.count" (mem 14 3) .none "pipeboard.pipes" 288 189
abbrev vj:Obj:=tu #[S "made" 431,S "pipes" 432,S "size" 433]
abbrev sd (P:Params):Obj:=di #[en P "__module__" 393 (S "pipeboard.pipes" 288),en P "__firstlineno__" 397 (I 70 396),en P "__init__" 406 (R 169),en P "make" 414 (R 176),en P "close" 423 (R 183),en P "count" 430 (R 190),en P "__static_attributes__" 434 (R 191),en P "__dict__" 436 (R 194),en P "__weakref__" 438 (R 195),en P "__doc__" 439 .none] 4
abbrev tP:Obj:=⟨.type "type",none,.cls ⟨s "PipeTable",[.type "object"],[R 193,.type "object"],192,s "PipeTable",true,[],[],false,none,false⟩,#[none,none,some (S "PipeTable" 386),some (S "PipeTable" 394),some (.builtin "object.__new__"),some (.bool true)]⟩
abbrev vH:Obj:=⟨.type "getset_descriptor",none,.fields #[S "__dict__" 435,R 193,.builtin "function.__dict__",.builtin "function.__dict__#set"],#[]⟩
abbrev uP:Obj:=⟨.type "getset_descriptor",none,.fields #[S "__weakref__" 437,R 193,.builtin "ExceptionGroup.__weakref__",.none],#[]⟩
abbrev wt:Obj:=⟨.type "super",none,.fields #[R 193,R 193,R 193],#[]⟩
abbrev uO:Obj:=⟨.type "builtin_function_or_method",none,.fields #[.builtin "object.__init_subclass__",R 193],#[]⟩
abbrev ub:Obj:=tu #[S "ticks" 444]
abbrev wF:Obj:=fu "octets_of" "octets_of" (stm 17)
abbrev uc:Obj:=co "octets_of" "octets_of" 446 91 1 0 0 3 199 true 200 .none .none .none (R 201) 449
abbrev o199:Obj:=fv "octets_of" "octets_of" (stm 17) .none "pipeboard.calls" 442 202
abbrev uY (P:Params):Obj:=di #[en P "__module__" 459 (S "pipeboard.calls" 442),en P "__qualname__" 461 (S "Parts" 460),en P "__firstlineno__" 463 (I 97 462),en P "__init__" 476 (R 218),en P "__static_attributes__" 484 (R 219)] 5
abbrev uw:Obj:=nf #[I 99 0,I 4 0,R 217]
abbrev vC:Obj:=co "Parts" "Parts" 454 97 0 0 0 0 207 false 208 .none .none .none .none 457
abbrev wJ:Obj:=⟨.type "frame",none,.plain,#[some (R 209),some (R 3),some (R 206),none,some (S "pipeboard.calls" 442),none,some (R 0)]⟩
abbrev sy:Obj:=tu #[.none,.none,.none,.none]
abbrev uV:Obj:=tu #[S "self" 467,S "table" 468,S "files" 469,S "nodes" 470,S "paths" 471,S "journal" 472,S "devices" 473]
abbrev w9:Obj:=fu "__init__" "Parts.__init__" (mem 18 0)
abbrev u6:Obj:=co "__init__" "Parts.__init__" 464 99 7 0 0 3 212 true 213 .none (R 214) (R 215) (R 216) 474
abbrev o214:Obj:=fv "__init__" "Parts.__init__" (mem 18 0) (R 211) "pipeboard.calls" 442 217
abbrev uU:Obj:=tu #[S "devices" 477,S "files" 478,S "journal" 479,S "nodes" 480,S "paths" 481,S "table" 482,S "ticks" 483]
abbrev rJ (P:Params):Obj:=di #[en P "__module__" 459 (S "pipeboard.calls" 442),en P "__firstlineno__" 463 (I 97 462),en P "__init__" 476 (R 218),en P "__static_attributes__" 484 (R 219),en P "__dict__" 486 (R 222),en P "__weakref__" 488 (R 223),en P "__doc__" 489 .none] 4
abbrev sD:Obj:=⟨.type "type",none,.cls ⟨s "Parts",[.type "object"],[R 221,.type "object"],220,s "Parts",true,[],[],false,none,false⟩,#[none,none,some (S "Parts" 452),some (S "Parts" 460),some (.builtin "object.__new__"),some (.bool true)]⟩
abbrev vn:Obj:=⟨.type "getset_descriptor",none,.fields #[S "__dict__" 485,R 221,.builtin "function.__dict__",.builtin "function.__dict__#set"],#[]⟩
abbrev x3:Obj:=⟨.type "getset_descriptor",none,.fields #[S "__weakref__" 487,R 221,.builtin "ExceptionGroup.__weakref__",.none],#[]⟩
abbrev vd:Obj:=⟨.type "super",none,.fields #[R 221,R 221,R 221],#[]⟩
abbrev uW:Obj:=⟨.type "builtin_function_or_method",none,.fields #[.builtin "object.__init_subclass__",R 221],#[]⟩
abbrev I5:List Stmt:=[stm 14,stm 15,stm 16,stm 17,stm 18]
def t2 (P:Params):BT:=(N (boot_o_0 P) (N (boot_o_1 P) (N (P8 P) (N (boot_o_7 P) (N o0 (N o1 (N (C6 P) (F o0) (F vj)) (N Hh (F uZ) (F x3))) (N o1 (N iM (F rT) (F o0)) (N qN (F sS) Z))) (N bW (N FE (N o1 (F o1) (F o0)) (N I4 (F wQ) Z)) (N iM (N (F8 P) (F rX) (F o0)) (N o113 (F o179) Z)))) (N o0 (N FJ (N Cv (N iM (F sZ) (F uP)) (N o0 (F o0) Z)) (N (Dx P) (N o1 (F o141) (F sy)) (N s6 (F x4) Z))) (N FH (N iM (N (EY P) (F qD) (F o199)) (N o1 (F o1) Z)) (N o1 (N o0 (F o0) (F uU)) (N o0 (F o0) Z))))) (N (boot_o_5 P) (N (boot_o_9 P) (N o8 (N o0 (N F6 (F sY) (F tP)) (N HF (F wV) (F uW))) (N FG (N (Hg P) (F ui) (F vC)) (N o0 (F o0) Z))) (N o0 (N F9 (N Fb (F o0) (F wF)) (N o99 (F o165) Z)) (N (FF P) (N Hc (F sC) (F u6)) (N o1 (F o1) Z)))) (N o2 (N CQ (N Fd (N (Fn P) (F o127) (F uO)) (N HP (F vW) Z)) (N Fe (N Gx (F (qW P)) (F o1)) (N tH (F wL) Z))) (N CZ (N (Fa P) (N Fu (F o0) (F bW)) (N o0 (F o0) Z)) (N FM (N (Gu P) (F (ur P)) (F sD)) (N qU (F tz) Z)))))) (N (boot_o_2 P) (N (boot_o_4 P) (N (boot_o_8 P) (N o1 (N Fi (N EJ (F o1) (F (sd P))) (N HT (F wY) (F vd))) (N Fk (N bW (F o0) (F uw)) (N o106 (F o172) Z))) (N (Fp P) (N Ft (N FD (F rZ) (F o1)) (N Fm (F sE) Z)) (N bW (N Fj (F u0) (F w9)) (N o0 (F o0) Z)))) (N Og (N F3 (N DE (N bW (F qS) (F wt)) (N o1 (F o1) Z)) (N D8 (N HX (F sA) (F o0)) (N o0 (F o0) Z))) (N Fx (N bW (N C9 (F o134) (F o0)) (N tJ (F vG) Z)) (N FK (N bW (F bW) (F (rJ P))) (N sW (F vi) Z))))) (N (boot_o_6 P) (N (boot_o_10 P) (N o0 (N Fw (N Fv (F o0) (F vH)) (N FA (F tc) Z)) (N o0 (N o0 (F qO) (F wJ)) (N o1 (F o1) Z))) (N Fs (N Fq (N o0 (F rK) (F uc)) (N o0 (F o0) Z)) (N o0 (N Hw (F sf) (F o214)) (N tD (F wk) Z)))) (N o3 (N F7 (N (EP P) (N o0 (F o0) (F ub)) (N o0 (F o0) Z)) (N Ff (N o0 (F qJ) (F uV)) (N qE (F tg) Z))) (N o0 (N o0 (N Fl (F o1) (F (uY P))) (N tE (F w6) Z)) (N o0 (N o0 (F o0) (F vn)) (N o120 (F o186) Z)))))))
abbrev NN (P:Params):Obj:=di #[en P "__name__" 165 (S "pipeboard.files" 694),en P "__doc__" 166 .none,en P "__package__" 167 .none,en P "__loader__" 168 (.builtin "__main__.__loader__#opaque"),en P "__spec__" 169 .none,en P "__annotations__" 170 (R 6),en P "__builtins__" 171 (R 4),en P "__file__" 173 (C 172),en P "__cached__" 174 .none,en P "_wall" 193 (R 21),en P "BoardError" 223 (R 39),en P "BadArgument" 239 (R 52),en P "NoRoom" 255 (R 64),en P "BadCall" 271 (R 76),en P "Stuck" 287 (R 88),en P "DONE" 291 (I 0 290),en P "SLEEP" 293 (I 1 292),en P "BROKEN" 295 (I 2 294),en P "READ_CHANNEL" 297 (I 0 296),en P "WRITE_CHANNEL" 299 (I 1 298),en P "Pipe" 385 (R 150),en P "PipeTable" 441 (R 193),en P "TICKS" 445 (R 198),en P "octets_of" 451 (R 203),en P "Parts" 491 (R 221),en P "ProcessCalls" 693 (R 368),en P "PIPE" 697 (S "pipe" 696),en P "NODE" 699 (S "node" 698),en P "DEVICE" 701 (S "device" 700)] 29
abbrev Oe:Obj:=nf #[I 1 0,I 0 0,R 20,I 5 0,I 0 0,R 27,I 10 0,I 0 0,R 48,I 12 0,I 0 0,R 60,I 14 0,I 0 0,R 72,I 16 0,I 0 0,R 84,I 24 0,I 0 0,R 96,I 70 0,I 0 0,R 160,I 91 0,I 0 0,R 202,I 97 0,I 0 0,R 209,I 107 0,I 0 0,R 231]
abbrev yG (P:Params):Obj:=di #[en P "__module__" 499 (S "pipeboard.calls" 442),en P "__qualname__" 501 (S "ProcessCalls" 500),en P "__firstlineno__" 503 (I 107 502),en P "__init__" 511 (R 239),en P "process" 520 (R 246),en P "sleep_on" 529 (R 253),en P "journaled" 538 (R 260),en P "getpid" 546 (R 267),en P "fork" 555 (R 274),en P "let_go" 567 (R 281),en P "exit" 576 (R 288),en P "wait" 584 (R 295),en P "kill" 593 (R 302),en P "uptime" 601 (R 309),en P "sleep" 610 (R 316),en P "close" 620 (R 323),en P "let_close" 629 (R 330),en P "dup" 638 (R 337),en P "pipe" 648 (R 344),en P "fstat" 657 (R 351),en P "read" 670 (R 358),en P "write" 684 (R 365),en P "__static_attributes__" 686 (R 366)] 23
abbrev xE:Obj:=nf #[I 109 0,I 4 0,R 238,I 112 0,I 4 0,R 245,I 118 0,I 4 0,R 252,I 125 0,I 4 0,R 259,I 135 0,I 4 0,R 266,I 138 0,I 4 0,R 273,I 144 0,I 4 0,R 280,I 152 0,I 4 0,R 287,I 158 0,I 4 0,R 294,I 161 0,I 4 0,R 301,I 164 0,I 4 0,R 308,I 167 0,I 4 0,R 315,I 175 0,I 4 0,R 322,I 180 0,I 4 0,R 329,I 187 0,I 4 0,R 336,I 190 0,I 4 0,R 343,I 196 0,I 4 0,R 350,I 199 0,I 4 0,R 357,I 210 0,I 4 0,R 364]
abbrev xb:Obj:=co "ProcessCalls" "ProcessCalls" 494 107 0 0 0 0 229 false 230 .none .none .none .none 497
abbrev yC:Obj:=⟨.type "frame",none,.plain,#[some (R 231),some (R 3),some (R 228),none,some (S "pipeboard.calls" 442),none,some (R 0)]⟩
abbrev xQ:Obj:=tu #[S "self" 507,S "kernel" 508]
abbrev yJ:Obj:=fu "__init__" "ProcessCalls.__init__" (mem 19 0)
abbrev vw:Obj:=co "__init__" "ProcessCalls.__init__" 504 109 2 0 0 3 233 true 234 .none (R 235) (R 236) (R 237) 509
abbrev o237:Obj:=fv "__init__" "ProcessCalls.__init__" (mem 19 0) .none "pipeboard.calls" 442 238
abbrev yP:Obj:=tu #[S "self" 515,S "pid" 516,S "found" 517]
abbrev xo:Obj:=fu "process" "ProcessCalls.process" (mem 19 1)
abbrev vx:Obj:=co "process" "ProcessCalls.process" 512 112 2 0 0 3 240 true 241 .none (R 242) (R 243) (R 244) 518
abbrev vk:Obj:=fv "process" "ProcessCalls.process" (mem 19 1) .none "pipeboard.calls" 442 245
abbrev xr:Obj:=tu #[S "self" 524,S "process" 525,S "channel" 526]
abbrev xL:Obj:=fu "sleep_on" "ProcessCalls.sleep_on" (mem 19 2)
abbrev uJ:Obj:=co "sleep_on" "ProcessCalls.sleep_on" 521 118 3 0 0 3 247 true 248 .none (R 249) (R 250) (R 251) 527
abbrev o251:Obj:=fv "sleep_on" "ProcessCalls.sleep_on" (mem 19 2) .none "pipeboard.calls" 442 252
abbrev yI:Obj:=tu #[S "self" 533,S "deed" 534,S "found" 535]
abbrev yh:Obj:=fu "journaled" "ProcessCalls.journaled" (mem 19 3)
abbrev vt:Obj:=co "journaled" "ProcessCalls.journaled" 530 125 2 0 0 3 254 true 255 .none (R 256) (R 257) (R 258) 536
abbrev wU:Obj:=fv "journaled" "ProcessCalls.journaled" (mem 19 3) .none "pipeboard.calls" 442 259
abbrev xG:Obj:=tu #[S "self" 542,S "process" 543]
abbrev xH:Obj:=fu "getpid" "ProcessCalls.getpid" (mem 19 4)
abbrev uS:Obj:=co "getpid" "ProcessCalls.getpid" 539 135 2 0 0 3 261 true 262 .none (R 263) (R 264) (R 265) 544
abbrev wD:Obj:=fv "getpid" "ProcessCalls.getpid" (mem 19 4) .none "pipeboard.calls" 442 266
abbrev ya:Obj:=tu #[S "self" 550,S "process" 551,S "child" 552]
abbrev yK:Obj:=fu "fork" "ProcessCalls.fork" (mem 19 5)
abbrev uM:Obj:=co "fork" "ProcessCalls.fork" 547 138 2 0 0 3 268 true 269 .none (R 270) (R 271) (R 272) 553
abbrev o272:Obj:=fv "fork" "ProcessCalls.fork" (mem 19 5) .none "pipeboard.calls" 442 273
abbrev ym:Obj:=tu #[S "self" 559,S "process" 560,S "number" 561,S "file" 562]
abbrev xY:Obj:=tu #[S "self" 563,S "node" 564]
abbrev yX:Obj:=fu "let_go" "ProcessCalls.let_go" (mem 19 6)
abbrev wW:Obj:=co "let_go" "ProcessCalls.let_go" 556 144 2 0 0 3 275 true 276 .none (R 277) (R 278) (R 279) 565
abbrev o279:Obj:=fv "let_go" "ProcessCalls.let_go" (mem 19 6) .none "pipeboard.calls" 442 280
abbrev yL:Obj:=tu #[S "self" 571,S "process" 572,S "status" 573]
abbrev yO:Obj:=fu "exit" "ProcessCalls.exit" (mem 19 7)
abbrev uH:Obj:=co "exit" "ProcessCalls.exit" 568 152 3 0 0 3 282 true 283 .none (R 284) (R 285) (R 286) 574
abbrev o286:Obj:=fv "exit" "ProcessCalls.exit" (mem 19 7) .none "pipeboard.calls" 442 287
abbrev yf:Obj:=tu #[S "self" 580,S "process" 581]
abbrev xI:Obj:=fu "wait" "ProcessCalls.wait" (mem 19 8)
abbrev vq:Obj:=co "wait" "ProcessCalls.wait" 577 158 2 0 0 3 289 true 290 .none (R 291) (R 292) (R 293) 582
abbrev o293:Obj:=fv "wait" "ProcessCalls.wait" (mem 19 8) .none "pipeboard.calls" 442 294
abbrev xB:Obj:=tu #[S "self" 588,S "process" 589,S "pid" 590]
abbrev xq:Obj:=fu "kill" "ProcessCalls.kill" (mem 19 9)
abbrev vY:Obj:=co "kill" "ProcessCalls.kill" 585 161 3 0 0 3 296 true 297 .none (R 298) (R 299) (R 300) 591
abbrev x5:Obj:=fv "kill" "ProcessCalls.kill" (mem 19 9) .none "pipeboard.calls" 442 301
abbrev xJ:Obj:=tu #[S "self" 597,S "process" 598]
abbrev yn:Obj:=fu "uptime" "ProcessCalls.uptime" (mem 19 10)
abbrev wP:Obj:=co "uptime" "ProcessCalls.uptime" 594 164 2 0 0 3 303 true 304 .none (R 305) (R 306) (R 307) 599
abbrev vL:Obj:=fv "uptime" "ProcessCalls.uptime" (mem 19 10) .none "pipeboard.calls" 442 308
abbrev xf:Obj:=tu #[S "self" 605,S "process" 606,S "ticks" 607]
abbrev yV:Obj:=fu "sleep" "ProcessCalls.sleep" (mem 19 11)
abbrev vg:Obj:=co "sleep" "ProcessCalls.sleep" 602 167 3 0 0 3 310 true 311 .none (R 312) (R 313) (R 314) 608
abbrev vb:Obj:=fv "sleep" "ProcessCalls.sleep" (mem 19 11) .none "pipeboard.calls" 442 315
abbrev y7:Obj:=tu #[S "self" 614,S "process" 615,S "number" 616,S "file" 617]
abbrev xt:Obj:=fu "close" "ProcessCalls.close" (mem 19 12)
abbrev wA:Obj:=co "close" "ProcessCalls.close" 611 175 3 0 0 3 317 true 318 .none (R 319) (R 320) (R 321) 618
abbrev o321:Obj:=fv "close" "ProcessCalls.close" (mem 19 12) .none "pipeboard.calls" 442 322
abbrev ze:Obj:=tu #[S "self" 624,S "file" 625,S "pipe" 626]
abbrev xN:Obj:=fu "let_close" "ProcessCalls.let_close" (mem 19 13)
abbrev vM:Obj:=co "let_close" "ProcessCalls.let_close" 621 180 2 0 0 3 324 true 325 .none (R 326) (R 327) (R 328) 627
abbrev o328:Obj:=fv "let_close" "ProcessCalls.let_close" (mem 19 13) .none "pipeboard.calls" 442 329
abbrev yA:Obj:=tu #[S "self" 633,S "process" 634,S "number" 635]
abbrev zi:Obj:=fu "dup" "ProcessCalls.dup" (mem 19 14)
abbrev uI:Obj:=co "dup" "ProcessCalls.dup" 630 187 3 0 0 3 331 true 332 .none (R 333) (R 334) (R 335) 636
abbrev uR:Obj:=fv "dup" "ProcessCalls.dup" (mem 19 14) .none "pipeboard.calls" 442 336
abbrev yi:Obj:=tu #[S "self" 642,S "process" 643,S "reader" 644,S "writer" 645]
abbrev y9:Obj:=fu "pipe" "ProcessCalls.pipe" (mem 19 15)
abbrev x0:Obj:=co "pipe" "ProcessCalls.pipe" 639 190 2 0 0 3 338 true 339 .none (R 340) (R 341) (R 342) 646
abbrev o342:Obj:=fv "pipe" "ProcessCalls.pipe" (mem 19 15) .none "pipeboard.calls" 442 343
abbrev yN:Obj:=tu #[S "self" 652,S "process" 653,S "number" 654]
abbrev xD:Obj:=fu "fstat" "ProcessCalls.fstat" (mem 19 16)
abbrev wZ:Obj:=co "fstat" "ProcessCalls.fstat" 649 196 3 0 0 3 345 true 346 .none (R 347) (R 348) (R 349) 655
abbrev uL:Obj:=fv "fstat" "ProcessCalls.fstat" (mem 19 16) .none "pipeboard.calls" 442 350
abbrev yk:Obj:=tu #[S "self" 661,S "process" 662,S "number" 663,S "count" 664,S "file" 665,S "octets" 666,S "state" 667]
abbrev yy:Obj:=fu "read" "ProcessCalls.read" (mem 19 17)
abbrev uq:Obj:=co "read" "ProcessCalls.read" 658 199 4 0 0 3 352 true 353 .none (R 354) (R 355) (R 356) 668
abbrev o356:Obj:=fv "read" "ProcessCalls.read" (mem 19 17) .none "pipeboard.calls" 442 357
abbrev xj:Obj:=tu #[S "self" 674,S "process" 675,S "number" 676,S "octets" 677,S "file" 678,S "done" 679,S "count" 680,S "state" 681]
abbrev yr:Obj:=fu "write" "ProcessCalls.write" (mem 19 18)
abbrev v6:Obj:=co "write" "ProcessCalls.write" 671 210 4 0 0 3 359 true 360 .none (R 361) (R 362) (R 363) 682
abbrev o363:Obj:=fv "write" "ProcessCalls.write" (mem 19 18) .none "pipeboard.calls" 442 364
abbrev xy:Obj:=tu #[S "kernel" 685]
abbrev vm (P:Params):Obj:=di #[en P "__module__" 499 (S "pipeboard.calls" 442),en P "__firstlineno__" 503 (I 107 502),en P "__init__" 511 (R 239),en P "process" 520 (R 246),en P "sleep_on" 529 (R 253),en P "journaled" 538 (R 260),en P "getpid" 546 (R 267),en P "fork" 555 (R 274),en P "let_go" 567 (R 281),en P "exit" 576 (R 288),en P "wait" 584 (R 295),en P "kill" 593 (R 302),en P "uptime" 601 (R 309),en P "sleep" 610 (R 316),en P "close" 620 (R 323),en P "let_close" 629 (R 330),en P "dup" 638 (R 337),en P "pipe" 648 (R 344),en P "fstat" 657 (R 351),en P "read" 670 (R 358),en P "write" 684 (R 365),en P "__static_attributes__" 686 (R 366),en P "__dict__" 688 (R 369),en P "__weakref__" 690 (R 370),en P "__doc__" 691 .none] 4
abbrev vI:Obj:=⟨.type "type",none,.cls ⟨s "ProcessCalls",[.type "object"],[R 368,.type "object"],367,s "ProcessCalls",true,[],[],false,none,false⟩,#[none,none,some (S "ProcessCalls" 492),some (S "ProcessCalls" 500),some (.builtin "object.__new__"),some (.bool true)]⟩
abbrev yF:Obj:=⟨.type "getset_descriptor",none,.fields #[S "__dict__" 687,R 368,.builtin "function.__dict__",.builtin "function.__dict__#set"],#[]⟩
abbrev yY:Obj:=⟨.type "getset_descriptor",none,.fields #[S "__weakref__" 689,R 368,.builtin "ExceptionGroup.__weakref__",.none],#[]⟩
abbrev yT:Obj:=⟨.type "super",none,.fields #[R 368,R 368,R 368],#[]⟩
abbrev xK:Obj:=⟨.type "builtin_function_or_method",none,.fields #[.builtin "object.__init_subclass__",R 368],#[]⟩
abbrev Ci:List Stmt:=[stm 19,stm 20,stm 21,stm 22,stm 23]
def t3 (P:Params):BT:=(N (boot_o_0 P) (N (boot_o_1 P) (N (NN P) (N (boot_o_7 P) (N o0 (N o1 (N (C6 P) (N o0 (F o1) Z) (N vj (F y7) Z)) (N Hh (N uZ (F uH) Z) (N x3 (F uL) Z))) (N o1 (N iM (N rT (F o0) Z) (N o0 (F zi) Z)) (N qN (N sS (F o0) Z) (N o237 (F (vm P)) Z)))) (N bW (N FE (N o1 (N o1 (F xG) Z) (N o0 (F o0) Z)) (N I4 (N wQ (F o293) Z) (N xb (F o0) Z))) (N iM (N (F8 P) (N rX (F yX) Z) (N o0 (F x0) Z)) (N o113 (N o179 (F o1) Z) (F o0))))) (N o0 (N FJ (N Cv (N iM (N sZ (F vt) Z) (N uP (F o321) Z)) (N o0 (N o0 (F yf) Z) (N bW (F o0) Z))) (N (Dx P) (N o1 (N o141 (F o0) Z) (N sy (F o1) Z)) (N s6 (N x4 (F yn) Z) (N o0 (F yT) Z)))) (N FH (N iM (N (EY P) (N qD (F wD) Z) (N o199 (F o0) Z)) (N o1 (N o1 (F o0) Z) (N xQ (F yr) Z))) (N o1 (N o0 (N o0 (F o1) Z) (N uU (F yN) Z)) (N o0 (N o0 (F vg) Z) (F xL)))))) (N (boot_o_5 P) (N (boot_o_9 P) (N o8 (N o0 (N F6 (N sY (F o0) Z) (N tP (F xt) Z)) (N HF (N wV (F o0) Z) (N uW (F o1) Z))) (N FG (N (Hg P) (N ui (F uM) Z) (N vC (F uR) Z)) (N o0 (N o0 (F xJ) Z) (N o1 (F yF) Z)))) (N o0 (N F9 (N Fb (N o0 (F xH) Z) (N wF (F vM) Z)) (N o99 (N o165 (F o1) Z) (N o0 (F xj) Z))) (N (FF P) (N Hc (N sC (F o279) Z) (N u6 (F o0) Z)) (N o1 (N o1 (F o0) Z) (F xr))))) (N o2 (N CQ (N Fd (N (Fn P) (N o127 (F o0) Z) (N uO (F o1) Z)) (N HP (N vW (F xI) Z) (N o0 (F uq) Z))) (N Fe (N Gx (N (qW P) (F ym) Z) (N o1 (F o0) Z)) (N tH (N wL (F vL) Z) (F vx)))) (N CZ (N (Fa P) (N Fu (N o0 (F o1) Z) (N bW (F yA) Z)) (N o0 (N o0 (F vY) Z) (N yJ (F o363) Z))) (N FM (N (Gu P) (N (ur P) (F o0) Z) (N sD (F xD) Z)) (N qU (N tz (F o0) Z) (F o251))))))) (N (boot_o_2 P) (N (boot_o_4 P) (N (boot_o_8 P) (N o1 (N Fi (N EJ (N o1 (F yI) Z) (N (sd P) (F o0) Z)) (N HT (N wY (F o286) Z) (N vd (F o0) Z))) (N Fk (N bW (N o0 (F yK) Z) (N uw (F uI) Z)) (N o106 (N o172 (F o1) Z) (N o0 (F vI) Z)))) (N (Fp P) (N Ft (N FD (N rZ (F o0) Z) (N o1 (F xN) Z)) (N Fm (N sE (F o0) Z) (N yC (F o1) Z))) (N bW (N Fj (N u0 (F wW) Z) (N w9 (F o342) Z)) (N o0 (N o0 (F xf) Z) (F o1))))) (N Oe (N F3 (N DE (N bW (N qS (F wU) Z) (N wt (F o0) Z)) (N o1 (N o1 (F o0) Z) (N (yG P) (F yy) Z))) (N D8 (N HX (N sA (F o1) Z) (N o0 (F yi) Z)) (N o0 (N o0 (F wP) Z) (N xo (F xK) Z)))) (N Fx (N bW (N C9 (N o134 (F o0) Z) (N o0 (F o1) Z)) (N tJ (N vG (F xq) Z) (N o0 (F v6) Z))) (N FK (N bW (N bW (F yL) Z) (N (rJ P) (F o0) Z)) (N sW (N vi (F vb) Z) (F uJ)))))) (N (boot_o_6 P) (N (boot_o_10 P) (N o0 (N Fw (N Fv (N o0 (F yh) Z) (N vH (F wA) Z)) (N FA (N tc (F o1) Z) (N o0 (F yk) Z))) (N o0 (N o0 (N qO (F o272) Z) (N wJ (F o0) Z)) (N o1 (N o1 (F o0) Z) (N yP (F yY) Z)))) (N Fs (N Fq (N o0 (N rK (F uS) Z) (N uc (F o328) Z)) (N o0 (N o0 (F xB) Z) (N o1 (F o0) Z))) (N o0 (N Hw (N sf (F o0) Z) (N o214 (F o1) Z)) (N tD (N wk (F yV) Z) (F o0))))) (N o3 (N F7 (N (EP P) (N o0 (N o0 (F o1) Z) (N ub (F ze) Z)) (N o0 (N o0 (F vq) Z) (N xE (F o356) Z))) (N Ff (N o0 (N qJ (F xY) Z) (N uV (F y9) Z)) (N qE (N tg (F o0) Z) (F vk)))) (N o0 (N o0 (N Fl (N o1 (F ya) Z) (N (uY P) (F o0) Z)) (N tE (N w6 (F x5) Z) (N vw (F xy) Z))) (N o0 (N o0 (N o0 (F yO) Z) (N vn (F wZ) Z)) (N o120 (N o186 (F o1) Z) (F o0))))))))
abbrev OT (P:Params):Obj:=di #[en P "__name__" 165 (S "pipeboard.files" 694),en P "__doc__" 166 .none,en P "__package__" 167 .none,en P "__loader__" 168 (.builtin "__main__.__loader__#opaque"),en P "__spec__" 169 .none,en P "__annotations__" 170 (R 6),en P "__builtins__" 171 (R 4),en P "__file__" 173 (C 172),en P "__cached__" 174 .none,en P "_wall" 193 (R 21),en P "BoardError" 223 (R 39),en P "BadArgument" 239 (R 52),en P "NoRoom" 255 (R 64),en P "BadCall" 271 (R 76),en P "Stuck" 287 (R 88),en P "DONE" 291 (I 0 290),en P "SLEEP" 293 (I 1 292),en P "BROKEN" 295 (I 2 294),en P "READ_CHANNEL" 297 (I 0 296),en P "WRITE_CHANNEL" 299 (I 1 298),en P "Pipe" 385 (R 150),en P "PipeTable" 441 (R 193),en P "TICKS" 445 (R 198),en P "octets_of" 451 (R 203),en P "Parts" 491 (R 221),en P "ProcessCalls" 693 (R 368),en P "PIPE" 697 (S "pipe" 696),en P "NODE" 699 (S "node" 698),en P "DEVICE" 701 (S "device" 700),en P "OpenFile" 754 (R 403)] 30
abbrev OS:Obj:=nf #[I 1 0,I 0 0,R 20,I 5 0,I 0 0,R 27,I 10 0,I 0 0,R 48,I 12 0,I 0 0,R 60,I 14 0,I 0 0,R 72,I 16 0,I 0 0,R 84,I 24 0,I 0 0,R 96,I 70 0,I 0 0,R 160,I 91 0,I 0 0,R 202,I 97 0,I 0 0,R 209,I 107 0,I 0 0,R 231,I 228 0,I 0 0,R 378]
abbrev AG (P:Params):Obj:=di #[en P "__module__" 709 (S "pipeboard.files" 694),en P "__qualname__" 711 (S "OpenFile" 710),en P "__firstlineno__" 713 (I 228 712),en P "__init__" 723 (R 386),en P "side" 730 (R 393),en P "back" 738 (R 400),en P "__static_attributes__" 747 (R 401)] 7
abbrev Ay:Obj:=nf #[I 230 0,I 4 0,R 385,I 240 0,I 4 0,R 392,I 243 0,I 4 0,R 399]
abbrev AN:Obj:=co "OpenFile" "OpenFile" 704 228 0 0 0 0 376 false 377 .none .none .none .none 707
abbrev AD:Obj:=⟨.type "frame",none,.plain,#[some (R 378),some (R 3),some (R 375),none,some (S "pipeboard.files" 694),none,some (R 0)]⟩
abbrev BP:Obj:=tu #[S "self" 717,S "kind" 718,S "readable" 719,S "writable" 720]
abbrev BR:Obj:=fu "__init__" "OpenFile.__init__" (mem 24 0)
abbrev yc:Obj:=co "__init__" "OpenFile.__init__" 714 230 4 0 0 3 380 true 381 .none (R 382) (R 383) (R 384) 721
abbrev o386:Obj:=fv "__init__" "OpenFile.__init__" (mem 24 0) .none "pipeboard.files" 694 385
abbrev BL:Obj:=tu #[S "self" 727]
abbrev BI:Obj:=fu "side" "OpenFile.side" (mem 24 1)
abbrev zg:Obj:=co "side" "OpenFile.side" 724 240 1 0 0 3 387 true 388 .none (R 389) (R 390) (R 391) 728
abbrev o393:Obj:=fv "side" "OpenFile.side" (mem 24 1) .none "pipeboard.files" 694 392
abbrev AM:Obj:=tu #[S "self" 734,S "count" 735]
abbrev AU:Obj:=fu "back" "OpenFile.back" (mem 24 2)
abbrev yj:Obj:=co "back" "OpenFile.back" 731 243 2 0 0 3 394 true 395 .none (R 396) (R 397) (R 398) 736
abbrev xO:Obj:=fv "back" "OpenFile.back" (mem 24 2) .none "pipeboard.files" 694 399
abbrev Bk:Obj:=tu #[S "holders" 739,S "kind" 740,S "major" 741,S "node" 742,S "pipe" 743,S "place" 744,S "readable" 745,S "writable" 746]
abbrev xp (P:Params):Obj:=di #[en P "__module__" 709 (S "pipeboard.files" 694),en P "__firstlineno__" 713 (I 228 712),en P "__init__" 723 (R 386),en P "side" 730 (R 393),en P "back" 738 (R 400),en P "__static_attributes__" 747 (R 401),en P "__dict__" 749 (R 404),en P "__weakref__" 751 (R 405),en P "__doc__" 752 .none] 4
abbrev xP:Obj:=⟨.type "type",none,.cls ⟨s "OpenFile",[.type "object"],[R 403,.type "object"],402,s "OpenFile",true,[],[],false,none,false⟩,#[none,none,some (S "OpenFile" 702),some (S "OpenFile" 710),some (.builtin "object.__new__"),some (.bool true)]⟩
abbrev AH:Obj:=⟨.type "getset_descriptor",none,.fields #[S "__dict__" 748,R 403,.builtin "function.__dict__",.builtin "function.__dict__#set"],#[]⟩
abbrev Bp:Obj:=⟨.type "getset_descriptor",none,.fields #[S "__weakref__" 750,R 403,.builtin "ExceptionGroup.__weakref__",.none],#[]⟩
abbrev BO:Obj:=⟨.type "super",none,.fields #[R 403,R 403,R 403],#[]⟩
abbrev BJ:Obj:=⟨.type "builtin_function_or_method",none,.fields #[.builtin "object.__init_subclass__",R 403],#[]⟩
abbrev Bm:List Stmt:=[stm 24]
def t4 (P:Params):BT:=(N (boot_o_0 P) (N (boot_o_1 P) (N (OT P) (N (boot_o_7 P) (N o0 (N o1 (N (C6 P) (N o0 (F o1) (F o0)) (N vj (F y7) Z)) (N Hh (N uZ (F uH) Z) (N x3 (F uL) Z))) (N o1 (N iM (N rT (F o0) (F yj)) (N o0 (F zi) Z)) (N qN (N sS (F o0) Z) (N o237 (F (vm P)) Z)))) (N bW (N FE (N o1 (N o1 (F xG) (F BI)) (N o0 (F o0) Z)) (N I4 (N wQ (F o293) Z) (N xb (F o0) Z))) (N iM (N (F8 P) (N rX (F yX) (F BJ)) (N o0 (F x0) Z)) (N o113 (N o179 (F o1) Z) (N o0 (F (AG P)) Z))))) (N o0 (N FJ (N Cv (N iM (N sZ (F vt) (F o0)) (N uP (F o321) Z)) (N o0 (N o0 (F yf) Z) (N bW (F o0) Z))) (N (Dx P) (N o1 (N o141 (F o0) (F xP)) (N sy (F o1) Z)) (N s6 (N x4 (F yn) Z) (N o0 (F yT) Z)))) (N FH (N iM (N (EY P) (N qD (F wD) (F o1)) (N o199 (F o0) Z)) (N o1 (N o1 (F o0) Z) (N xQ (F yr) Z))) (N o1 (N o0 (N o0 (F o1) Z) (N uU (F yN) Z)) (N o0 (N o0 (F vg) Z) (N xL (F AD) Z)))))) (N (boot_o_5 P) (N (boot_o_9 P) (N o8 (N o0 (N F6 (N sY (F o0) (F yc)) (N tP (F xt) Z)) (N HF (N wV (F o0) Z) (N uW (F o1) Z))) (N FG (N (Hg P) (N ui (F uM) (F Bk)) (N vC (F uR) Z)) (N o0 (N o0 (F xJ) Z) (N o1 (F yF) Z)))) (N o0 (N F9 (N Fb (N o0 (F xH) (F o393)) (N wF (F vM) Z)) (N o99 (N o165 (F o1) Z) (N o0 (F xj) Z))) (N (FF P) (N Hc (N sC (F o279) Z) (N u6 (F o0) Z)) (N o1 (N o1 (F o0) Z) (N xr (F Ay) Z))))) (N o2 (N CQ (N Fd (N (Fn P) (N o127 (F o0) (F BL)) (N uO (F o1) Z)) (N HP (N vW (F xI) Z) (N o0 (F uq) Z))) (N Fe (N Gx (N (qW P) (F ym) (F Bp)) (N o1 (F o0) Z)) (N tH (N wL (F vL) Z) (N vx (F o0) Z)))) (N CZ (N (Fa P) (N Fu (N o0 (F o1) (F o0)) (N bW (F yA) Z)) (N o0 (N o0 (F vY) Z) (N yJ (F o363) Z))) (N FM (N (Gu P) (N (ur P) (F o0) Z) (N sD (F xD) Z)) (N qU (N tz (F o0) Z) (N o251 (F o1) Z))))))) (N (boot_o_2 P) (N (boot_o_4 P) (N (boot_o_8 P) (N o1 (N Fi (N EJ (N o1 (F yI) (F BR)) (N (sd P) (F o0) Z)) (N HT (N wY (F o286) Z) (N vd (F o0) Z))) (N Fk (N bW (N o0 (F yK) (F xO)) (N uw (F uI) Z)) (N o106 (N o172 (F o1) Z) (N o0 (F vI) Z)))) (N (Fp P) (N Ft (N FD (N rZ (F o0) (F zg)) (N o1 (F xN) Z)) (N Fm (N sE (F o0) Z) (N yC (F o1) Z))) (N bW (N Fj (N u0 (F wW) Z) (N w9 (F o342) Z)) (N o0 (N o0 (F xf) Z) (N o1 (F o0) Z))))) (N OS (N F3 (N DE (N bW (N qS (F wU) (F o1)) (N wt (F o0) Z)) (N o1 (N o1 (F o0) Z) (N (yG P) (F yy) Z))) (N D8 (N HX (N sA (F o1) (F AH)) (N o0 (F yi) Z)) (N o0 (N o0 (F wP) Z) (N xo (F xK) Z)))) (N Fx (N bW (N C9 (N o134 (F o0) (F AM)) (N o0 (F o1) Z)) (N tJ (N vG (F xq) Z) (N o0 (F v6) Z))) (N FK (N bW (N bW (F yL) Z) (N (rJ P) (F o0) Z)) (N sW (N vi (F vb) Z) (N uJ (F o0) Z)))))) (N (boot_o_6 P) (N (boot_o_10 P) (N o0 (N Fw (N Fv (N o0 (F yh) (F o386)) (N vH (F wA) Z)) (N FA (N tc (F o1) Z) (N o0 (F yk) Z))) (N o0 (N o0 (N qO (F o272) (F (xp P))) (N wJ (F o0) Z)) (N o1 (N o1 (F o0) Z) (N yP (F yY) Z)))) (N Fs (N Fq (N o0 (N rK (F uS) (F o0)) (N uc (F o328) Z)) (N o0 (N o0 (F xB) Z) (N o1 (F o0) Z))) (N o0 (N Hw (N sf (F o0) Z) (N o214 (F o1) Z)) (N tD (N wk (F yV) Z) (N o0 (F AN) Z))))) (N o3 (N F7 (N (EP P) (N o0 (N o0 (F o1) (F o0)) (N ub (F ze) Z)) (N o0 (N o0 (F vq) Z) (N xE (F o356) Z))) (N Ff (N o0 (N qJ (F xY) (F BO)) (N uV (F y9) Z)) (N qE (N tg (F o0) Z) (N vk (F bW) Z)))) (N o0 (N o0 (N Fl (N o1 (F ya) (F AU)) (N (uY P) (F o0) Z)) (N tE (N w6 (F x5) Z) (N vw (F xy) Z))) (N o0 (N o0 (N o0 (F yO) Z) (N vn (F wZ) Z)) (N o120 (N o186 (F o1) Z) (N o0 (F BP) Z))))))))
abbrev Ol (P:Params):Obj:=di #[en P "__name__" 165 (S "pipeboard.files" 694),en P "__doc__" 166 .none,en P "__package__" 167 .none,en P "__loader__" 168 (.builtin "__main__.__loader__#opaque"),en P "__spec__" 169 .none,en P "__annotations__" 170 (R 6),en P "__builtins__" 171 (R 4),en P "__file__" 173 (C 172),en P "__cached__" 174 .none,en P "_wall" 193 (R 21),en P "BoardError" 223 (R 39),en P "BadArgument" 239 (R 52),en P "NoRoom" 255 (R 64),en P "BadCall" 271 (R 76),en P "Stuck" 287 (R 88),en P "DONE" 291 (I 0 290),en P "SLEEP" 293 (I 1 292),en P "BROKEN" 295 (I 2 294),en P "READ_CHANNEL" 297 (I 0 296),en P "WRITE_CHANNEL" 299 (I 1 298),en P "Pipe" 385 (R 150),en P "PipeTable" 441 (R 193),en P "TICKS" 445 (R 198),en P "octets_of" 451 (R 203),en P "Parts" 491 (R 221),en P "ProcessCalls" 693 (R 368),en P "PIPE" 697 (S "pipe" 696),en P "NODE" 699 (S "node" 698),en P "DEVICE" 701 (S "device" 700),en P "OpenFile" 754 (R 403),en P "FileTable" 926 (R 527)] 31
abbrev P6:Obj:=nf #[I 1 0,I 0 0,R 20,I 5 0,I 0 0,R 27,I 10 0,I 0 0,R 48,I 12 0,I 0 0,R 60,I 14 0,I 0 0,R 72,I 16 0,I 0 0,R 84,I 24 0,I 0 0,R 96,I 70 0,I 0 0,R 160,I 91 0,I 0 0,R 202,I 97 0,I 0 0,R 209,I 107 0,I 0 0,R 231,I 228 0,I 0 0,R 378,I 246 0,I 0 0,R 413]
abbrev E2 (P:Params):Obj:=di #[en P "__module__" 762 (S "pipeboard.files" 694),en P "__qualname__" 764 (S "FileTable" 763),en P "__firstlineno__" 766 (I 246 765),en P "__init__" 779 (R 421),en P "count" 786 (R 428),en P "need_room" 794 (R 435),en P "enter" 802 (R 442),en P "open_pipe" 813 (R 449),en P "open_node" 823 (R 456),en P "open_device" 833 (R 463),en P "share" 841 (R 470),en P "close" 847 (R 475),en P "device" 855 (R 482),en P "read" 865 (R 489),en P "piece" 872 (R 496),en P "write" 884 (R 503),en P "write_piece" 894 (R 510),en P "stat" 902 (R 517),en P "waits_for" 911 (R 524),en P "__static_attributes__" 919 (R 525)] 20
abbrev DX:Obj:=nf #[I 248 0,I 4 0,R 420,I 259 0,I 4 0,R 427,I 262 0,I 4 0,R 434,I 266 0,I 4 0,R 441,I 271 0,I 4 0,R 448,I 281 0,I 4 0,R 455,I 284 0,I 4 0,R 462,I 287 0,I 4 0,R 469,I 291 0,I 4 0,R 474,I 305 0,I 4 0,R 481,I 310 0,I 4 0,R 488,I 321 0,I 4 0,R 495,I 324 0,I 4 0,R 502,I 340 0,I 4 0,R 509,I 350 0,I 4 0,R 516,I 353 0,I 4 0,R 523]
abbrev EM:Obj:=co "FileTable" "FileTable" 757 246 0 0 0 0 411 false 412 .none .none .none .none 760
abbrev DT:Obj:=⟨.type "frame",none,.plain,#[some (R 413),some (R 3),some (R 410),none,some (S "pipeboard.files" 694),none,some (R 0)]⟩
abbrev Ex:Obj:=tu #[S "self" 770,S "most" 771,S "pipes" 772,S "nodes" 773,S "journal" 774,S "devices" 775,S "block" 776]
abbrev ER:Obj:=fu "__init__" "FileTable.__init__" (mem 25 0)
abbrev Bq:Obj:=co "__init__" "FileTable.__init__" 767 248 7 0 0 3 415 true 416 .none (R 417) (R 418) (R 419) 777
abbrev o423:Obj:=fv "__init__" "FileTable.__init__" (mem 25 0) .none "pipeboard.files" 694 420
abbrev Eg:Obj:=tu #[S "self" 783]
abbrev DW:Obj:=fu "count" "FileTable.count" (mem 25 1)
abbrev BQ:Obj:=co "count" "FileTable.count" 780 259 1 0 0 3 422 true 423 .none (R 424) (R 425) (R 426) 784
abbrev o430:Obj:=fv "count" "FileTable.count" (mem 25 1) .none "pipeboard.files" 694 427
abbrev DH:Obj:=tu #[S "self" 790,S "many" 791]
abbrev Co:Obj:=fu "need_room" "FileTable.need_room" (mem 25 2)
abbrev Ao:Obj:=co "need_room" "FileTable.need_room" 787 262 2 0 0 3 429 true 430 .none (R 431) (R 432) (R 433) 792
abbrev o437:Obj:=fv "need_room" "FileTable.need_room" (mem 25 2) .none "pipeboard.files" 694 434
abbrev C4:Obj:=tu #[S "self" 798,S "file" 799]
abbrev Cc:Obj:=fu "enter" "FileTable.enter" (mem 25 3)
abbrev Bx:Obj:=co "enter" "FileTable.enter" 795 266 2 0 0 3 436 true 437 .none (R 438) (R 439) (R 440) 800
abbrev o444:Obj:=fv "enter" "FileTable.enter" (mem 25 3) .none "pipeboard.files" 694 441
abbrev Eo:Obj:=tu #[S "self" 806,S "pipe" 807,S "ends" 808,S "readable" 809,S "file" 810]
abbrev En:Obj:=fu "open_pipe" "FileTable.open_pipe" (mem 25 4)
abbrev BU:Obj:=co "open_pipe" "FileTable.open_pipe" 803 271 1 0 0 3 443 true 444 .none (R 445) (R 446) (R 447) 811
abbrev o451:Obj:=fv "open_pipe" "FileTable.open_pipe" (mem 25 4) .none "pipeboard.files" 694 448
abbrev CB:Obj:=tu #[S "self" 817,S "node" 818,S "readable" 819,S "writable" 820]
abbrev EV:Obj:=fu "open_node" "FileTable.open_node" (mem 25 5)
abbrev BD:Obj:=co "open_node" "FileTable.open_node" 814 281 4 0 0 3 450 true 451 .none (R 452) (R 453) (R 454) 821
abbrev Ax:Obj:=fv "open_node" "FileTable.open_node" (mem 25 5) .none "pipeboard.files" 694 455
abbrev Cq:Obj:=tu #[S "self" 827,S "node" 828,S "readable" 829,S "writable" 830]
abbrev Dq:Obj:=fu "open_device" "FileTable.open_device" (mem 25 6)
abbrev B6:Obj:=co "open_device" "FileTable.open_device" 824 284 4 0 0 3 457 true 458 .none (R 459) (R 460) (R 461) 831
abbrev AY:Obj:=fv "open_device" "FileTable.open_device" (mem 25 6) .none "pipeboard.files" 694 462
abbrev ET:Obj:=tu #[S "self" 837,S "file" 838]
abbrev F0:Obj:=fu "share" "FileTable.share" (mem 25 7)
abbrev AW:Obj:=co "share" "FileTable.share" 834 287 2 0 0 3 464 true 465 .none (R 466) (R 467) (R 468) 839
abbrev o472:Obj:=fv "share" "FileTable.share" (mem 25 7) .none "pipeboard.files" 694 469
abbrev EE:Obj:=fu "close" "FileTable.close" (mem 25 8)
abbrev As:Obj:=co "close" "FileTable.close" 842 291 2 0 0 3 471 true 472 .none .none .none (R 473) 845
abbrev o477:Obj:=fv "close" "FileTable.close" (mem 25 8) .none "pipeboard.files" 694 474
abbrev Dl:Obj:=tu #[S "self" 851,S "file" 852]
abbrev E7:Obj:=fu "device" "FileTable.device" (mem 25 9)
abbrev Bw:Obj:=co "device" "FileTable.device" 848 305 2 0 0 3 476 true 477 .none (R 478) (R 479) (R 480) 853
abbrev BS:Obj:=fv "device" "FileTable.device" (mem 25 9) .none "pipeboard.files" 694 481
abbrev Dk:Obj:=tu #[S "self" 859,S "file" 860,S "count" 861,S "octets" 862]
abbrev D4:Obj:=fu "read" "FileTable.read" (mem 25 10)
abbrev AO:Obj:=co "read" "FileTable.read" 856 310 3 0 0 3 483 true 484 .none (R 485) (R 486) (R 487) 863
abbrev o491:Obj:=fv "read" "FileTable.read" (mem 25 10) .none "pipeboard.files" 694 488
abbrev DK:Obj:=tu #[S "self" 869]
abbrev DG:Obj:=fu "piece" "FileTable.piece" (mem 25 11)
abbrev Bf:Obj:=co "piece" "FileTable.piece" 866 321 1 0 0 3 490 true 491 .none (R 492) (R 493) (R 494) 870
abbrev AT:Obj:=fv "piece" "FileTable.piece" (mem 25 11) .none "pipeboard.files" 694 495
abbrev Em:Obj:=tu #[S "self" 876,S "file" 877,S "octets" 878,S "done" 879,S "part" 880,S "count" 881]
abbrev Eu:Obj:=fu "write" "FileTable.write" (mem 25 12)
abbrev Am:Obj:=co "write" "FileTable.write" 873 324 3 0 0 3 497 true 498 .none (R 499) (R 500) (R 501) 882
abbrev o505:Obj:=fv "write" "FileTable.write" (mem 25 12) .none "pipeboard.files" 694 502
abbrev EK:Obj:=tu #[S "self" 888,S "file" 889,S "octets" 890,S "count" 891]
abbrev CI:Obj:=fu "write_piece" "FileTable.write_piece" (mem 25 13)
abbrev Bb:Obj:=co "write_piece" "FileTable.write_piece" 885 340 3 0 0 3 504 true 505 .none (R 506) (R 507) (R 508) 892
abbrev AK:Obj:=fv "write_piece" "FileTable.write_piece" (mem 25 13) .none "pipeboard.files" 694 509
abbrev D2:Obj:=tu #[S "self" 898,S "file" 899]
abbrev EH:Obj:=fu "stat" "FileTable.stat" (mem 25 14)
abbrev B8:Obj:=co "stat" "FileTable.stat" 895 350 2 0 0 3 511 true 512 .none (R 513) (R 514) (R 515) 900
abbrev Be:Obj:=fv "stat" "FileTable.stat" (mem 25 14) .none "pipeboard.files" 694 516
abbrev Ep:Obj:=tu #[S "self" 906,S "file" 907,S "is_write" 908]
abbrev EB:Obj:=fu "waits_for" "FileTable.waits_for" (mem 25 15)
abbrev Ah:Obj:=co "waits_for" "FileTable.waits_for" 903 353 3 0 0 3 518 true 519 .none (R 520) (R 521) (R 522) 909
abbrev o526:Obj:=fv "waits_for" "FileTable.waits_for" (mem 25 15) .none "pipeboard.files" 694 523
abbrev Ei:Obj:=tu #[S "block" 912,S "devices" 913,S "journal" 914,S "most" 915,S "nodes" 916,S "open" 917,S "pipes" 918]
abbrev Bt (P:Params):Obj:=di #[en P "__module__" 762 (S "pipeboard.files" 694),en P "__firstlineno__" 766 (I 246 765),en P "__init__" 779 (R 421),en P "count" 786 (R 428),en P "need_room" 794 (R 435),en P "enter" 802 (R 442),en P "open_pipe" 813 (R 449),en P "open_node" 823 (R 456),en P "open_device" 833 (R 463),en P "share" 841 (R 470),en P "close" 847 (R 475),en P "device" 855 (R 482),en P "read" 865 (R 489),en P "piece" 872 (R 496),en P "write" 884 (R 503),en P "write_piece" 894 (R 510),en P "stat" 902 (R 517),en P "waits_for" 911 (R 524),en P "__static_attributes__" 919 (R 525),en P "__dict__" 921 (R 528),en P "__weakref__" 923 (R 529),en P "__doc__" 924 .none] 4
abbrev BB:Obj:=⟨.type "type",none,.cls ⟨s "FileTable",[.type "object"],[R 527,.type "object"],526,s "FileTable",true,[],[],false,none,false⟩,#[none,none,some (S "FileTable" 755),some (S "FileTable" 763),some (.builtin "object.__new__"),some (.bool true)]⟩
abbrev Cj:Obj:=⟨.type "getset_descriptor",none,.fields #[S "__dict__" 920,R 527,.builtin "function.__dict__",.builtin "function.__dict__#set"],#[]⟩
abbrev El:Obj:=⟨.type "getset_descriptor",none,.fields #[S "__weakref__" 922,R 527,.builtin "ExceptionGroup.__weakref__",.none],#[]⟩
abbrev Dp:Obj:=⟨.type "super",none,.fields #[R 527,R 527,R 527],#[]⟩
abbrev Cf:Obj:=⟨.type "builtin_function_or_method",none,.fields #[.builtin "object.__init_subclass__",R 527],#[]⟩
abbrev xR:List Stmt:=[stm 25]
def t5 (P:Params):BT:=(N (boot_o_0 P) (N (boot_o_1 P) (N (Ol P) (N (boot_o_7 P) (N o0 (N o1 (N (C6 P) (N o0 (N o1 (F o0) Z) (F o0)) (N vj (F y7) (F En))) (N Hh (N uZ (F uH) (F o0)) (N x3 (F uL) (F o0)))) (N o1 (N iM (N rT (N o0 (F BB) Z) (F yj)) (N o0 (F zi) (F AY))) (N qN (N sS (F o0) (F DH)) (N o237 (F (vm P)) (F Bf))))) (N bW (N FE (N o1 (N o1 (N xG (F o1) Z) (F BI)) (N o0 (F o0) (F BD))) (N I4 (N wQ (F o293) (F o1)) (N xb (F o0) (F D4)))) (N iM (N (F8 P) (N rX (F yX) (F BJ)) (N o0 (F x0) (F o0))) (N o113 (N o179 (F o1) (F o0)) (N o0 (F (AG P)) (F o505)))))) (N o0 (N FJ (N Cv (N iM (N sZ (N vt (F EH) Z) (F o0)) (N uP (F o321) (F o1))) (N o0 (N o0 (F yf) (F ER)) (N bW (F o0) (F o0)))) (N (Dx P) (N o1 (N o141 (N o0 (F Cf) Z) (F xP)) (N sy (F o1) (F o0))) (N s6 (N x4 (F yn) (F o437)) (N o0 (F yT) (F Em))))) (N FH (N iM (N (EY P) (N qD (N wD (F Ah) Z) (F o1)) (N o199 (F o0) (F Cq))) (N o1 (N o1 (F o0) (F BQ)) (N xQ (F yr) (F o1)))) (N o1 (N o0 (N o0 (F o1) (F o0)) (N uU (F yN) (F o477))) (N o0 (N o0 (F vg) (F o0)) (N xL (F AD) (F o0))))))) (N (boot_o_5 P) (N (boot_o_9 P) (N o8 (N o0 (N F6 (N sY (N o0 (F D2) Z) (F yc)) (N tP (F xt) (F o451))) (N HF (N wV (F o0) (F Ex)) (N uW (F o1) (F Bw)))) (N FG (N (Hg P) (N ui (N uM (F El) Z) (F Bk)) (N vC (F uR) (F o1))) (N o0 (N o0 (F xJ) (F Co)) (N o1 (F yF) (F o0))))) (N o0 (N F9 (N Fb (N o0 (N xH (F o0) Z) (F o393)) (N wF (F vM) (F o0))) (N o99 (N o165 (F o1) (F o0)) (N o0 (F xj) (F o491)))) (N (FF P) (N Hc (N sC (F o279) (F bW)) (N u6 (F o0) (F EE))) (N o1 (N o1 (F o0) (F Bx)) (N xr (F Ay) (F o1)))))) (N o2 (N CQ (N Fd (N (Fn P) (N o127 (N o0 (F Be) Z) (F BL)) (N uO (F o1) (F o0))) (N HP (N vW (F xI) (F o423)) (N o0 (F uq) (F Dk)))) (N Fe (N Gx (N (qW P) (F ym) (F Bp)) (N o1 (F o0) (F AW))) (N tH (N wL (F vL) (F o1)) (N vx (F o0) (F Eu))))) (N CZ (N (Fa P) (N Fu (N o0 (N o1 (F Ei) Z) (F o0)) (N bW (F yA) (F Dq))) (N o0 (N o0 (F vY) (F o0)) (N yJ (F o363) (F o0)))) (N FM (N (Gu P) (N (ur P) (F o0) (F EM)) (N sD (F xD) (F o1))) (N qU (N tz (F o0) (F Eo)) (N o251 (F o1) (F Bb)))))))) (N (boot_o_2 P) (N (boot_o_4 P) (N (boot_o_8 P) (N o1 (N Fi (N EJ (N o1 (N yI (F o1) Z) (F BR)) (N (sd P) (F o0) (F BU))) (N HT (N wY (F o286) (F o1)) (N vd (F o0) (F E7)))) (N Fk (N bW (N o0 (N yK (F Cj) Z) (F xO)) (N uw (F uI) (F o0))) (N o106 (N o172 (F o1) (F o0)) (N o0 (F vI) (F AT))))) (N (Fp P) (N Ft (N FD (N rZ (N o0 (F Ep) Z) (F zg)) (N o1 (F xN) (F Ax))) (N Fm (N sE (F o0) (F Eg)) (N yC (F o1) (F AO)))) (N bW (N Fj (N u0 (F wW) (F o0)) (N w9 (F o342) (F o1))) (N o0 (N o0 (F xf) (F Cc)) (N o1 (F o0) (F o0)))))) (N P6 (N F3 (N DE (N bW (N qS (N wU (F B8) Z) (F o1)) (N wt (F o0) (F CB))) (N o1 (N o1 (F o0) (F Bq)) (N (yG P) (F yy) (F o1)))) (N D8 (N HX (N sA (F o1) (F AH)) (N o0 (F yi) (F F0))) (N o0 (N o0 (F wP) (F o0)) (N xo (F xK) (F o0))))) (N Fx (N bW (N C9 (N o134 (N o0 (F o526) Z) (F AM)) (N o0 (F o1) (F o0))) (N tJ (N vG (F xq) (F o430)) (N o0 (F v6) (F DK)))) (N FK (N bW (N bW (F yL) (F DX)) (N (rJ P) (F o0) (F o0))) (N sW (N vi (F vb) (F o1)) (N uJ (F o0) (F CI))))))) (N (boot_o_6 P) (N (boot_o_10 P) (N o0 (N Fw (N Fv (N o0 (N yh (F o0) Z) (F o386)) (N vH (F wA) (F o0))) (N FA (N tc (F o1) (F o0)) (N o0 (F yk) (F BS)))) (N o0 (N o0 (N qO (N o272 (F Dp) Z) (F (xp P))) (N wJ (F o0) (F ET))) (N o1 (N o1 (F o0) (F Ao)) (N yP (F yY) (F o1))))) (N Fs (N Fq (N o0 (N rK (N uS (F EB) Z) (F o0)) (N uc (F o328) (F o1))) (N o0 (N o0 (F xB) (F DW)) (N o1 (F o0) (F o0)))) (N o0 (N Hw (N sf (F o0) (F (E2 P))) (N o214 (F o1) (F As))) (N tD (N wk (F yV) (F o444)) (N o0 (F AN) (F EK)))))) (N o3 (N F7 (N (EP P) (N o0 (N o0 (N o1 (F o0) Z) (F o0)) (N ub (F ze) (F EV))) (N o0 (N o0 (F vq) (F o0)) (N xE (F o356) (F o0)))) (N Ff (N o0 (N qJ (F xY) (F BO)) (N uV (F y9) (F o472))) (N qE (N tg (F o0) (F C4)) (N vk (F bW) (F Am))))) (N o0 (N o0 (N Fl (N o1 (N ya (F (Bt P)) Z) (F AU)) (N (uY P) (F o0) (F B6))) (N tE (N w6 (F x5) (F o1)) (N vw (F xy) (F DG)))) (N o0 (N o0 (N o0 (F yO) (F DT)) (N vn (F wZ) (F Dl))) (N o120 (N o186 (F o1) (F o0)) (N o0 (F BP) (F AK)))))))))
abbrev O0 (P:Params):Obj:=di #[en P "__name__" 165 (S "pipeboard.procs" 1015),en P "__doc__" 166 .none,en P "__package__" 167 .none,en P "__loader__" 168 (.builtin "__main__.__loader__#opaque"),en P "__spec__" 169 .none,en P "__annotations__" 170 (R 6),en P "__builtins__" 171 (R 4),en P "__file__" 173 (C 172),en P "__cached__" 174 .none,en P "_wall" 193 (R 21),en P "BoardError" 223 (R 39),en P "BadArgument" 239 (R 52),en P "NoRoom" 255 (R 64),en P "BadCall" 271 (R 76),en P "Stuck" 287 (R 88),en P "DONE" 291 (I 0 290),en P "SLEEP" 293 (I 1 292),en P "BROKEN" 295 (I 2 294),en P "READ_CHANNEL" 297 (I 0 296),en P "WRITE_CHANNEL" 299 (I 1 298),en P "Pipe" 385 (R 150),en P "PipeTable" 441 (R 193),en P "TICKS" 445 (R 198),en P "octets_of" 451 (R 203),en P "Parts" 491 (R 221),en P "ProcessCalls" 693 (R 368),en P "PIPE" 697 (S "pipe" 696),en P "NODE" 699 (S "node" 698),en P "DEVICE" 701 (S "device" 700),en P "OpenFile" 754 (R 403),en P "FileTable" 926 (R 527),en P "Descriptors" 1014 (R 594),en P "UNUSED" 1018 (S "unused" 1017),en P "FRESH" 1020 (S "fresh" 1019),en P "READY" 1022 (S "ready" 1021),en P "RUNNING" 1024 (S "running" 1023),en P "SLEEPING" 1026 (S "sleeping" 1025),en P "ZOMBIE" 1028 (S "zombie" 1027),en P "A0" 1030 (I 10 1029)] 39
abbrev OH:Obj:=nf #[I 1 0,I 0 0,R 20,I 5 0,I 0 0,R 27,I 10 0,I 0 0,R 48,I 12 0,I 0 0,R 60,I 14 0,I 0 0,R 72,I 16 0,I 0 0,R 84,I 24 0,I 0 0,R 96,I 70 0,I 0 0,R 160,I 91 0,I 0 0,R 202,I 97 0,I 0 0,R 209,I 107 0,I 0 0,R 231,I 228 0,I 0 0,R 378,I 246 0,I 0 0,R 413,I 357 0,I 0 0,R 537]
abbrev GQ (P:Params):Obj:=di #[en P "__module__" 934 (S "pipeboard.files" 694),en P "__qualname__" 936 (S "Descriptors" 935),en P "__firstlineno__" 938 (I 357 937),en P "__init__" 947 (R 546),en P "put" 956 (R 553),en P "free" 962 (R 558),en P "get" 970 (R 565),en P "take" 979 (R 572),en P "all_files" 985 (R 577),en P "copy" 996 (R 584),en P "close_all" 1004 (R 591),en P "__static_attributes__" 1007 (R 592)] 12
abbrev Gp:Obj:=nf #[I 359 0,I 4 0,R 545,I 365 0,I 4 0,R 552,I 372 0,I 4 0,R 557,I 375 0,I 4 0,R 564,I 380 0,I 4 0,R 571,I 385 0,I 4 0,R 576,I 388 0,I 4 0,R 583,I 394 0,I 4 0,R 590]
abbrev Hv:Obj:=co "Descriptors" "Descriptors" 929 357 0 0 0 0 535 false 536 .none .none .none .none 932
abbrev HL:Obj:=⟨.type "frame",none,.plain,#[some (R 537),some (R 3),some (R 534),none,some (S "pipeboard.files" 694),none,some (R 0)]⟩
abbrev C3:Obj:=tu #[I 16 939]
abbrev H0:Obj:=tu #[S "self" 943,S "most" 944]
abbrev Hy:Obj:=fu "__init__" "Descriptors.__init__" (mem 26 0)
abbrev Cp:Obj:=co "__init__" "Descriptors.__init__" 940 359 2 0 0 3 540 true 541 .none (R 542) (R 543) (R 544) 945
abbrev o550:Obj:=fv "__init__" "Descriptors.__init__" (mem 26 0) (R 539) "pipeboard.files" 694 545
abbrev H9:Obj:=tu #[S "self" 951,S "file" 952,S "number" 953]
abbrev Hp:Obj:=fu "put" "Descriptors.put" (mem 26 1)
abbrev CR:Obj:=co "put" "Descriptors.put" 948 365 2 0 0 3 547 true 548 .none (R 549) (R 550) (R 551) 954
abbrev o557:Obj:=fv "put" "Descriptors.put" (mem 26 1) .none "pipeboard.files" 694 552
abbrev Gc:Obj:=fu "free" "Descriptors.free" (mem 26 2)
abbrev E5:Obj:=co "free" "Descriptors.free" 957 372 1 0 0 3 554 true 555 .none .none .none (R 556) 960
abbrev o562:Obj:=fv "free" "Descriptors.free" (mem 26 2) .none "pipeboard.files" 694 557
abbrev I2:Obj:=tu #[S "self" 966,S "number" 967]
abbrev I8:Obj:=fu "get" "Descriptors.get" (mem 26 3)
abbrev Cl:Obj:=co "get" "Descriptors.get" 963 375 2 0 0 3 559 true 560 .none (R 561) (R 562) (R 563) 968
abbrev o569:Obj:=fv "get" "Descriptors.get" (mem 26 3) .none "pipeboard.files" 694 564
abbrev HG:Obj:=tu #[S "self" 974,S "number" 975,S "file" 976]
abbrev Gb:Obj:=fu "take" "Descriptors.take" (mem 26 4)
abbrev DZ:Obj:=co "take" "Descriptors.take" 971 380 2 0 0 3 566 true 567 .none (R 568) (R 569) (R 570) 977
abbrev o576:Obj:=fv "take" "Descriptors.take" (mem 26 4) .none "pipeboard.files" 694 571
abbrev Gn:Obj:=fu "all_files" "Descriptors.all_files" (mem 26 5)
abbrev Et:Obj:=co "all_files" "Descriptors.all_files" 980 385 1 0 0 3 573 true 574 .none .none .none (R 575) 983
abbrev o581:Obj:=fv "all_files" "Descriptors.all_files" (mem 26 5) .none "pipeboard.files" 694 576
abbrev G7:Obj:=tu #[S "self" 989,S "table" 990,S "found" 991,S "number" 992,S "file" 993]
abbrev Hz:Obj:=fu "copy" "Descriptors.copy" (mem 26 6)
abbrev EQ:Obj:=co "copy" "Descriptors.copy" 986 388 2 0 0 3 578 true 579 .none (R 580) (R 581) (R 582) 994
abbrev o588:Obj:=fv "copy" "Descriptors.copy" (mem 26 6) .none "pipeboard.files" 694 583
abbrev HQ:Obj:=tu #[S "self" 1000,S "table" 1001]
abbrev FP:Obj:=fu "close_all" "Descriptors.close_all" (mem 26 7)
abbrev EL:Obj:=co "close_all" "Descriptors.close_all" 997 394 2 0 0 3 585 true 586 .none (R 587) (R 588) (R 589) 1002
abbrev Ee:Obj:=fv "close_all" "Descriptors.close_all" (mem 26 7) .none "pipeboard.files" 694 590
abbrev Hr:Obj:=tu #[S "most" 1005,S "slots" 1006]
abbrev DF (P:Params):Obj:=di #[en P "__module__" 934 (S "pipeboard.files" 694),en P "__firstlineno__" 938 (I 357 937),en P "__init__" 947 (R 546),en P "put" 956 (R 553),en P "free" 962 (R 558),en P "get" 970 (R 565),en P "take" 979 (R 572),en P "all_files" 985 (R 577),en P "copy" 996 (R 584),en P "close_all" 1004 (R 591),en P "__static_attributes__" 1007 (R 592),en P "__dict__" 1009 (R 595),en P "__weakref__" 1011 (R 596),en P "__doc__" 1012 .none] 4
abbrev EA:Obj:=⟨.type "type",none,.cls ⟨s "Descriptors",[.type "object"],[R 594,.type "object"],593,s "Descriptors",true,[],[],false,none,false⟩,#[none,none,some (S "Descriptors" 927),some (S "Descriptors" 935),some (.builtin "object.__new__"),some (.bool true)]⟩
abbrev HC:Obj:=⟨.type "getset_descriptor",none,.fields #[S "__dict__" 1008,R 594,.builtin "function.__dict__",.builtin "function.__dict__#set"],#[]⟩
abbrev Gk:Obj:=⟨.type "getset_descriptor",none,.fields #[S "__weakref__" 1010,R 594,.builtin "ExceptionGroup.__weakref__",.none],#[]⟩
abbrev HU:Obj:=⟨.type "super",none,.fields #[R 594,R 594,R 594],#[]⟩
abbrev G4:Obj:=⟨.type "builtin_function_or_method",none,.fields #[.builtin "object.__init_subclass__",R 594],#[]⟩
abbrev uQ:List Stmt:=[stm 26,stm 27,stm 28,stm 29,stm 30,stm 31,stm 32,stm 33,stm 34]
def t6 (P:Params):BT:=(N (boot_o_0 P) (N (boot_o_1 P) (N (O0 P) (N (boot_o_7 P) (N o0 (N o1 (N (C6 P) (N o0 (N o1 (F o0) Z) (F o0)) (N vj (N y7 (F Gn) Z) (F En))) (N Hh (N uZ (N uH (F o0) Z) (F o0)) (N x3 (F uL) (F o0)))) (N o1 (N iM (N rT (N o0 (F BB) Z) (F yj)) (N o0 (N zi (F Ee) Z) (F AY))) (N qN (N sS (N o0 (F o0) Z) (F DH)) (N o237 (F (vm P)) (F Bf))))) (N bW (N FE (N o1 (N o1 (N xG (F o1) Z) (F BI)) (N o0 (N o0 (F EQ) Z) (F BD))) (N I4 (N wQ (N o293 (F Hp) Z) (F o1)) (N xb (F o0) (F D4)))) (N iM (N (F8 P) (N rX (N yX (F o0) Z) (F BJ)) (N o0 (F x0) (F o0))) (N o113 (N o179 (N o1 (F o1) Z) (F o0)) (N o0 (F (AG P)) (F o505)))))) (N o0 (N FJ (N Cv (N iM (N sZ (N vt (F EH) Z) (F o0)) (N uP (N o321 (F o1) Z) (F o1))) (N o0 (N o0 (N yf (F o0) Z) (F ER)) (N bW (F o0) (F o0)))) (N (Dx P) (N o1 (N o141 (N o0 (F Cf) Z) (F xP)) (N sy (N o1 (F HC) Z) (F o0))) (N s6 (N x4 (N yn (F I8) Z) (F o437)) (N o0 (F yT) (F Em))))) (N FH (N iM (N (EY P) (N qD (N wD (F Ah) Z) (F o1)) (N o199 (N o0 (F HQ) Z) (F Cq))) (N o1 (N o1 (N o0 (F o1) Z) (F BQ)) (N xQ (F yr) (F o1)))) (N o1 (N o0 (N o0 (N o1 (F C3) Z) (F o0)) (N uU (F yN) (F o477))) (N o0 (N o0 (N vg (F DZ) Z) (F o0)) (N xL (F AD) (F o0))))))) (N (boot_o_5 P) (N (boot_o_9 P) (N o8 (N o0 (N F6 (N sY (N o0 (F D2) Z) (F yc)) (N tP (N xt (F o581) Z) (F o451))) (N HF (N wV (N o0 (F Cp) Z) (F Ex)) (N uW (F o1) (F Bw)))) (N FG (N (Hg P) (N ui (N uM (F El) Z) (F Bk)) (N vC (N uR (F (DF P)) Z) (F o1))) (N o0 (N o0 (N xJ (F I2) Z) (F Co)) (N o1 (F yF) (F o0))))) (N o0 (N F9 (N Fb (N o0 (N xH (F o0) Z) (F o393)) (N wF (N vM (F o0) Z) (F o0))) (N o99 (N o165 (N o1 (F o557) Z) (F o0)) (N o0 (F xj) (F o491)))) (N (FF P) (N Hc (N sC (N o279 (F Hv) Z) (F bW)) (N u6 (F o0) (F EE))) (N o1 (N o1 (N o0 (F o0) Z) (F Bx)) (N xr (F Ay) (F o1)))))) (N o2 (N CQ (N Fd (N (Fn P) (N o127 (N o0 (F Be) Z) (F BL)) (N uO (N o1 (F o0) Z) (F o0))) (N HP (N vW (N xI (F H9) Z) (F o423)) (N o0 (F uq) (F Dk)))) (N Fe (N Gx (N (qW P) (N ym (F bW) Z) (F Bp)) (N o1 (N o0 (F HU) Z) (F AW))) (N tH (N wL (N vL (F o569) Z) (F o1)) (N vx (F o0) (F Eu))))) (N CZ (N (Fa P) (N Fu (N o0 (N o1 (F Ei) Z) (F o0)) (N bW (N yA (F FP) Z) (F Dq))) (N o0 (N o0 (N vY (F E5) Z) (F o0)) (N yJ (F o363) (F o0)))) (N FM (N (Gu P) (N (ur P) (N o0 (F o1) Z) (F EM)) (N sD (F xD) (F o1))) (N qU (N tz (N o0 (F o0) Z) (F Eo)) (N o251 (F o1) (F Bb)))))))) (N (boot_o_2 P) (N (boot_o_4 P) (N (boot_o_8 P) (N o1 (N Fi (N EJ (N o1 (N yI (F o1) Z) (F BR)) (N (sd P) (N o0 (F Et) Z) (F BU))) (N HT (N wY (N o286 (F Hy) Z) (F o1)) (N vd (F o0) (F E7)))) (N Fk (N bW (N o0 (N yK (F Cj) Z) (F xO)) (N uw (N uI (F Hr) Z) (F o0))) (N o106 (N o172 (N o1 (F o1) Z) (F o0)) (N o0 (F vI) (F AT))))) (N (Fp P) (N Ft (N FD (N rZ (N o0 (F Ep) Z) (F zg)) (N o1 (N xN (F o588) Z) (F Ax))) (N Fm (N sE (N o0 (F CR) Z) (F Eg)) (N yC (F o1) (F AO)))) (N bW (N Fj (N u0 (N wW (F Gp) Z) (F o0)) (N w9 (F o342) (F o1))) (N o0 (N o0 (N xf (F HG) Z) (F Cc)) (N o1 (F o0) (F o0)))))) (N OH (N F3 (N DE (N bW (N qS (N wU (F B8) Z) (F o1)) (N wt (N o0 (F G7) Z) (F CB))) (N o1 (N o1 (N o0 (F o1) Z) (F Bq)) (N (yG P) (F yy) (F o1)))) (N D8 (N HX (N sA (N o1 (F o0) Z) (F AH)) (N o0 (N yi (F Gk) Z) (F F0))) (N o0 (N o0 (N wP (F Cl) Z) (F o0)) (N xo (F xK) (F o0))))) (N Fx (N bW (N C9 (N o134 (N o0 (F o526) Z) (F AM)) (N o0 (N o1 (F o0) Z) (F o0))) (N tJ (N vG (N xq (F Gc) Z) (F o430)) (N o0 (F v6) (F DK)))) (N FK (N bW (N bW (N yL (F o0) Z) (F DX)) (N (rJ P) (F o0) (F o0))) (N sW (N vi (N vb (F o576) Z) (F o1)) (N uJ (F o0) (F CI))))))) (N (boot_o_6 P) (N (boot_o_10 P) (N o0 (N Fw (N Fv (N o0 (N yh (F o0) Z) (F o386)) (N vH (N wA (F o0) Z) (F o0))) (N FA (N tc (N o1 (F o550) Z) (F o0)) (N o0 (F yk) (F BS)))) (N o0 (N o0 (N qO (N o272 (F Dp) Z) (F (xp P))) (N wJ (N o0 (F EA) Z) (F ET))) (N o1 (N o1 (N o0 (F o0) Z) (F Ao)) (N yP (F yY) (F o1))))) (N Fs (N Fq (N o0 (N rK (N uS (F EB) Z) (F o0)) (N uc (N o328 (F o1) Z) (F o1))) (N o0 (N o0 (N xB (F o0) Z) (F DW)) (N o1 (F o0) (F o0)))) (N o0 (N Hw (N sf (N o0 (F HL) Z) (F (E2 P))) (N o214 (F o1) (F As))) (N tD (N wk (N yV (F Gb) Z) (F o444)) (N o0 (F AN) (F EK)))))) (N o3 (N F7 (N (EP P) (N o0 (N o0 (N o1 (F o0) Z) (F o0)) (N ub (N ze (F Hz) Z) (F EV))) (N o0 (N o0 (N vq (F o0) Z) (F o0)) (N xE (F o356) (F o0)))) (N Ff (N o0 (N qJ (N xY (F (GQ P)) Z) (F BO)) (N uV (N y9 (F G4) Z) (F o472))) (N qE (N tg (N o0 (F o0) Z) (F C4)) (N vk (F bW) (F Am))))) (N o0 (N o0 (N Fl (N o1 (N ya (F (Bt P)) Z) (F AU)) (N (uY P) (N o0 (F EL) Z) (F B6))) (N tE (N w6 (N x5 (F o562) Z) (F o1)) (N vw (F xy) (F DG)))) (N o0 (N o0 (N o0 (N yO (F H0) Z) (F DT)) (N vn (F wZ) (F Dl))) (N o120 (N o186 (N o1 (F o1) Z) (F o0)) (N o0 (F BP) (F AK)))))))))
abbrev OW (P:Params):Obj:=di #[en P "__name__" 165 (S "pipeboard.procs" 1015),en P "__doc__" 166 .none,en P "__package__" 167 .none,en P "__loader__" 168 (.builtin "__main__.__loader__#opaque"),en P "__spec__" 169 .none,en P "__annotations__" 170 (R 6),en P "__builtins__" 171 (R 4),en P "__file__" 173 (C 172),en P "__cached__" 174 .none,en P "_wall" 193 (R 21),en P "BoardError" 223 (R 39),en P "BadArgument" 239 (R 52),en P "NoRoom" 255 (R 64),en P "BadCall" 271 (R 76),en P "Stuck" 287 (R 88),en P "DONE" 291 (I 0 290),en P "SLEEP" 293 (I 1 292),en P "BROKEN" 295 (I 2 294),en P "READ_CHANNEL" 297 (I 0 296),en P "WRITE_CHANNEL" 299 (I 1 298),en P "Pipe" 385 (R 150),en P "PipeTable" 441 (R 193),en P "TICKS" 445 (R 198),en P "octets_of" 451 (R 203),en P "Parts" 491 (R 221),en P "ProcessCalls" 693 (R 368),en P "PIPE" 697 (S "pipe" 696),en P "NODE" 699 (S "node" 698),en P "DEVICE" 701 (S "device" 700),en P "OpenFile" 754 (R 403),en P "FileTable" 926 (R 527),en P "Descriptors" 1014 (R 594),en P "UNUSED" 1018 (S "unused" 1017),en P "FRESH" 1020 (S "fresh" 1019),en P "READY" 1022 (S "ready" 1021),en P "RUNNING" 1024 (S "running" 1023),en P "SLEEPING" 1026 (S "sleeping" 1025),en P "ZOMBIE" 1028 (S "zombie" 1027),en P "A0" 1030 (I 10 1029),en P "Process" 1113 (R 651)] 40
abbrev NQ:Obj:=nf #[I 1 0,I 0 0,R 20,I 5 0,I 0 0,R 27,I 10 0,I 0 0,R 48,I 12 0,I 0 0,R 60,I 14 0,I 0 0,R 72,I 16 0,I 0 0,R 84,I 24 0,I 0 0,R 96,I 70 0,I 0 0,R 160,I 91 0,I 0 0,R 202,I 97 0,I 0 0,R 209,I 107 0,I 0 0,R 231,I 228 0,I 0 0,R 378,I 246 0,I 0 0,R 413,I 357 0,I 0 0,R 537,I 404 0,I 0 0,R 604]
abbrev JJ (P:Params):Obj:=di #[en P "__module__" 1038 (S "pipeboard.procs" 1015),en P "__qualname__" 1040 (S "Process" 1039),en P "__firstlineno__" 1042 (I 404 1041),en P "__init__" 1050 (R 612),en P "clear" 1057 (R 619),en P "is_there" 1064 (R 626),en P "is_alive" 1071 (R 633),en P "size" 1079 (R 641),en P "row" 1086 (R 648),en P "__static_attributes__" 1106 (R 649)] 10
abbrev L7:Obj:=nf #[I 406 0,I 4 0,R 611,I 410 0,I 4 0,R 618,I 430 0,I 4 0,R 625,I 433 0,I 4 0,R 632,I 437 0,I 4 0,R 639,I 440 0,I 4 0,R 647]
abbrev Lb:Obj:=co "Process" "Process" 1033 404 0 0 0 0 602 false 603 .none .none .none .none 1036
abbrev KM:Obj:=⟨.type "frame",none,.plain,#[some (R 604),some (R 3),some (R 601),none,some (S "pipeboard.procs" 1015),none,some (R 0)]⟩
abbrev L1:Obj:=tu #[S "self" 1046,S "place" 1047]
abbrev IZ:Obj:=fu "__init__" "Process.__init__" (mem 35 0)
abbrev HA:Obj:=co "__init__" "Process.__init__" 1043 406 2 0 0 3 606 true 607 .none (R 608) (R 609) (R 610) 1048
abbrev o618:Obj:=fv "__init__" "Process.__init__" (mem 35 0) .none "pipeboard.procs" 1015 611
abbrev Jd:Obj:=tu #[S "self" 1054]
abbrev Li:Obj:=fu "clear" "Process.clear" (mem 35 1)
abbrev HE:Obj:=co "clear" "Process.clear" 1051 410 1 0 0 3 613 true 614 .none (R 615) (R 616) (R 617) 1055
abbrev o625:Obj:=fv "clear" "Process.clear" (mem 35 1) .none "pipeboard.procs" 1015 618
abbrev Je:Obj:=tu #[S "self" 1061]
abbrev IU:Obj:=fu "is_there" "Process.is_there" (mem 35 2)
abbrev Ic:Obj:=co "is_there" "Process.is_there" 1058 430 1 0 0 3 620 true 621 .none (R 622) (R 623) (R 624) 1062
abbrev o632:Obj:=fv "is_there" "Process.is_there" (mem 35 2) .none "pipeboard.procs" 1015 625
abbrev J0:Obj:=tu #[S "self" 1068]
abbrev IW:Obj:=fu "is_alive" "Process.is_alive" (mem 35 3)
abbrev H3:Obj:=co "is_alive" "Process.is_alive" 1065 433 1 0 0 3 627 true 628 .none (R 629) (R 630) (R 631) 1069
abbrev o639:Obj:=fv "is_alive" "Process.is_alive" (mem 35 3) .none "pipeboard.procs" 1015 632
abbrev JR:Obj:=tu #[S "self" 1075]
abbrev JG:Obj:=fu "size" "Process.size" (mem 35 4)
abbrev Kj:Obj:=co "size" "Process.size" 1072 436 1 0 0 3 634 true 635 .none (R 636) (R 637) (R 638) 1076
abbrev K7:Obj:=fv "size" "Process.size" (mem 35 4) .none "pipeboard.procs" 1015 639
abbrev GM:Obj:=⟨.type "property",none,.fields #[R 640,.none,.none,.none,S "size" 1079,.bool false],#[]⟩
abbrev J1:Obj:=tu #[S "self" 1083]
abbrev Ja:Obj:=fu "row" "Process.row" (mem 35 5)
abbrev G5:Obj:=co "row" "Process.row" 1080 440 1 0 0 3 642 true 643 .none (R 644) (R 645) (R 646) 1084
abbrev HV:Obj:=fv "row" "Process.row" (mem 35 5) .none "pipeboard.procs" 1015 647
abbrev KW:Obj:=tu #[S "channel" 1087,S "cwd" 1088,S "files" 1089,S "in_call" 1090,S "job" 1091,S "killed" 1092,S "name" 1093,S "parent" 1094,S "pc" 1095,S "pid" 1096,S "place" 1097,S "progress" 1098,S "registers" 1099,S "space" 1100,S "state" 1101,S "status" 1102,S "told" 1103,S "turns" 1104,S "wakes" 1105]
abbrev G3 (P:Params):Obj:=di #[en P "__module__" 1038 (S "pipeboard.procs" 1015),en P "__firstlineno__" 1042 (I 404 1041),en P "__init__" 1050 (R 612),en P "clear" 1057 (R 619),en P "is_there" 1064 (R 626),en P "is_alive" 1071 (R 633),en P "size" 1079 (R 641),en P "row" 1086 (R 648),en P "__static_attributes__" 1106 (R 649),en P "__dict__" 1108 (R 652),en P "__weakref__" 1110 (R 653),en P "__doc__" 1111 .none] 4
abbrev Hj:Obj:=⟨.type "type",none,.cls ⟨s "Process",[.type "object"],[R 651,.type "object"],650,s "Process",true,[],[],false,none,false⟩,#[none,none,some (S "Process" 1031),some (S "Process" 1039),some (.builtin "object.__new__"),some (.bool true)]⟩
abbrev Ky:Obj:=⟨.type "getset_descriptor",none,.fields #[S "__dict__" 1107,R 651,.builtin "function.__dict__",.builtin "function.__dict__#set"],#[]⟩
abbrev Lg:Obj:=⟨.type "getset_descriptor",none,.fields #[S "__weakref__" 1109,R 651,.builtin "ExceptionGroup.__weakref__",.none],#[]⟩
abbrev Kz:Obj:=⟨.type "super",none,.fields #[R 651,R 651,R 651],#[]⟩
abbrev Lj:Obj:=⟨.type "builtin_function_or_method",none,.fields #[.builtin "object.__init_subclass__",R 651],#[]⟩
abbrev tQ:List Stmt:=[stm 35]
def t7 (P:Params):BT:=(N (boot_o_0 P) (N (boot_o_1 P) (N (OW P) (N (boot_o_7 P) (N o0 (N o1 (N (C6 P) (N o0 (N o1 (F o0) Z) (N o0 (F Kj) Z)) (N vj (N y7 (F Gn) Z) (F En))) (N Hh (N uZ (N uH (F o0) Z) (F o0)) (N x3 (N uL (F o1) Z) (F o0)))) (N o1 (N iM (N rT (N o0 (F BB) Z) (N yj (F Lj) Z)) (N o0 (N zi (F Ee) Z) (F AY))) (N qN (N sS (N o0 (F o0) Z) (F DH)) (N o237 (N (vm P) (F o0) Z) (F Bf))))) (N bW (N FE (N o1 (N o1 (N xG (F o1) Z) (N BI (F G5) Z)) (N o0 (N o0 (F EQ) Z) (F BD))) (N I4 (N wQ (N o293 (F Hp) Z) (F o1)) (N xb (N o0 (F Jd) Z) (F D4)))) (N iM (N (F8 P) (N rX (N yX (F o0) Z) (F BJ)) (N o0 (N x0 (F o0) Z) (F o0))) (N o113 (N o179 (N o1 (F o1) Z) (F o0)) (N o0 (N (AG P) (F IW) Z) (F o505)))))) (N o0 (N FJ (N Cv (N iM (N sZ (N vt (F EH) Z) (N o0 (F o1) Z)) (N uP (N o321 (F o1) Z) (F o1))) (N o0 (N o0 (N yf (F o0) Z) (F ER)) (N bW (N o0 (F HA) Z) (F o0)))) (N (Dx P) (N o1 (N o141 (N o0 (F Cf) Z) (F xP)) (N sy (N o1 (F HC) Z) (F o0))) (N s6 (N x4 (N yn (F I8) Z) (F o437)) (N o0 (N yT (F o0) Z) (F Em))))) (N FH (N iM (N (EY P) (N qD (N wD (F Ah) Z) (N o1 (F Hj) Z)) (N o199 (N o0 (F HQ) Z) (F Cq))) (N o1 (N o1 (N o0 (F o1) Z) (F BQ)) (N xQ (N yr (F o625) Z) (F o1)))) (N o1 (N o0 (N o0 (N o1 (F C3) Z) (F o0)) (N uU (N yN (F L7) Z) (F o477))) (N o0 (N o0 (N vg (F DZ) Z) (F o0)) (N xL (N AD (F o1) Z) (F o0))))))) (N (boot_o_5 P) (N (boot_o_9 P) (N o8 (N o0 (N F6 (N sY (N o0 (F D2) Z) (N yc (F GM) Z)) (N tP (N xt (F o581) Z) (F o451))) (N HF (N wV (N o0 (F Cp) Z) (F Ex)) (N uW (N o1 (F o0) Z) (F Bw)))) (N FG (N (Hg P) (N ui (N uM (F El) Z) (F Bk)) (N vC (N uR (F (DF P)) Z) (F o1))) (N o0 (N o0 (N xJ (F I2) Z) (F Co)) (N o1 (N yF (F Ic) Z) (F o0))))) (N o0 (N F9 (N Fb (N o0 (N xH (F o0) Z) (N o393 (F KW) Z)) (N wF (N vM (F o0) Z) (F o0))) (N o99 (N o165 (N o1 (F o557) Z) (F o0)) (N o0 (N xj (F Li) Z) (F o491)))) (N (FF P) (N Hc (N sC (N o279 (F Hv) Z) (F bW)) (N u6 (N o0 (F (JJ P)) Z) (F EE))) (N o1 (N o1 (N o0 (F o0) Z) (F Bx)) (N xr (N Ay (F o639) Z) (F o1)))))) (N o2 (N CQ (N Fd (N (Fn P) (N o127 (N o0 (F Be) Z) (N BL (F o0) Z)) (N uO (N o1 (F o0) Z) (F o0))) (N HP (N vW (N xI (F H9) Z) (F o423)) (N o0 (N uq (F o0) Z) (F Dk)))) (N Fe (N Gx (N (qW P) (N ym (F bW) Z) (F Bp)) (N o1 (N o0 (F HU) Z) (F AW))) (N tH (N wL (N vL (F o569) Z) (F o1)) (N vx (N o0 (F J0) Z) (F Eu))))) (N CZ (N (Fa P) (N Fu (N o0 (N o1 (F Ei) Z) (N o0 (F Lg) Z)) (N bW (N yA (F FP) Z) (F Dq))) (N o0 (N o0 (N vY (F E5) Z) (F o0)) (N yJ (N o363 (F o1) Z) (F o0)))) (N FM (N (Gu P) (N (ur P) (N o0 (F o1) Z) (F EM)) (N sD (N xD (F KM) Z) (F o1))) (N qU (N tz (N o0 (F o0) Z) (F Eo)) (N o251 (N o1 (F o0) Z) (F Bb)))))))) (N (boot_o_2 P) (N (boot_o_4 P) (N (boot_o_8 P) (N o1 (N Fi (N EJ (N o1 (N yI (F o1) Z) (N BR (F K7) Z)) (N (sd P) (N o0 (F Et) Z) (F BU))) (N HT (N wY (N o286 (F Hy) Z) (F o1)) (N vd (N o0 (F L1) Z) (F E7)))) (N Fk (N bW (N o0 (N yK (F Cj) Z) (F xO)) (N uw (N uI (F Hr) Z) (F o0))) (N o106 (N o172 (N o1 (F o1) Z) (F o0)) (N o0 (N vI (F IU) Z) (F AT))))) (N (Fp P) (N Ft (N FD (N rZ (N o0 (F Ep) Z) (N zg (F HV) Z)) (N o1 (N xN (F o588) Z) (F Ax))) (N Fm (N sE (N o0 (F CR) Z) (F Eg)) (N yC (N o1 (F o0) Z) (F AO)))) (N bW (N Fj (N u0 (N wW (F Gp) Z) (F o0)) (N w9 (N o342 (F bW) Z) (F o1))) (N o0 (N o0 (N xf (F HG) Z) (F Cc)) (N o1 (N o0 (F H3) Z) (F o0)))))) (N NQ (N F3 (N DE (N bW (N qS (N wU (F B8) Z) (N o1 (F J1) Z)) (N wt (N o0 (F G7) Z) (F CB))) (N o1 (N o1 (N o0 (F o1) Z) (F Bq)) (N (yG P) (N yy (F o618) Z) (F o1)))) (N D8 (N HX (N sA (N o1 (F o0) Z) (F AH)) (N o0 (N yi (F Gk) Z) (F F0))) (N o0 (N o0 (N wP (F Cl) Z) (F o0)) (N xo (N xK (F o1) Z) (F o0))))) (N Fx (N bW (N C9 (N o134 (N o0 (F o526) Z) (N AM (F Ky) Z)) (N o0 (N o1 (F o0) Z) (F o0))) (N tJ (N vG (N xq (F Gc) Z) (F o430)) (N o0 (N v6 (F o0) Z) (F DK)))) (N FK (N bW (N bW (N yL (F o0) Z) (F DX)) (N (rJ P) (N o0 (F Lb) Z) (F o0))) (N sW (N vi (N vb (F o576) Z) (F o1)) (N uJ (N o0 (F JR) Z) (F CI))))))) (N (boot_o_6 P) (N (boot_o_10 P) (N o0 (N Fw (N Fv (N o0 (N yh (F o0) Z) (N o386 (F o0) Z)) (N vH (N wA (F o0) Z) (F o0))) (N FA (N tc (N o1 (F o550) Z) (F o0)) (N o0 (N yk (F IZ) Z) (F BS)))) (N o0 (N o0 (N qO (N o272 (F Dp) Z) (F (xp P))) (N wJ (N o0 (F EA) Z) (F ET))) (N o1 (N o1 (N o0 (F o0) Z) (F Ao)) (N yP (N yY (F o632) Z) (F o1))))) (N Fs (N Fq (N o0 (N rK (N uS (F EB) Z) (N o0 (F (G3 P)) Z)) (N uc (N o328 (F o1) Z) (F o1))) (N o0 (N o0 (N xB (F o0) Z) (F DW)) (N o1 (N o0 (F HE) Z) (F o0)))) (N o0 (N Hw (N sf (N o0 (F HL) Z) (F (E2 P))) (N o214 (N o1 (F o0) Z) (F As))) (N tD (N wk (N yV (F Gb) Z) (F o444)) (N o0 (N AN (F o0) Z) (F EK)))))) (N o3 (N F7 (N (EP P) (N o0 (N o0 (N o1 (F o0) Z) (N o0 (F Ja) Z)) (N ub (N ze (F Hz) Z) (F EV))) (N o0 (N o0 (N vq (F o0) Z) (F o0)) (N xE (N o356 (F o1) Z) (F o0)))) (N Ff (N o0 (N qJ (N xY (F (GQ P)) Z) (F BO)) (N uV (N y9 (F G4) Z) (F o472))) (N qE (N tg (N o0 (F o0) Z) (F C4)) (N vk (N bW (F o0) Z) (F Am))))) (N o0 (N o0 (N Fl (N o1 (N ya (F (Bt P)) Z) (N AU (F Kz) Z)) (N (uY P) (N o0 (F EL) Z) (F B6))) (N tE (N w6 (N x5 (F o562) Z) (F o1)) (N vw (N xy (F Je) Z) (F DG)))) (N o0 (N o0 (N o0 (N yO (F H0) Z) (F DT)) (N vn (N wZ (F o0) Z) (F Dl))) (N o120 (N o186 (N o1 (F o1) Z) (F o0)) (N o0 (N BP (F JG) Z) (F AK)))))))))
abbrev Of (P:Params):Obj:=di #[en P "__name__" 165 (S "law_pf0218_01" 1297),en P "__doc__" 166 .none,en P "__package__" 167 .none,en P "__loader__" 168 (.builtin "__main__.__loader__#opaque"),en P "__spec__" 169 .none,en P "__annotations__" 170 (R 6),en P "__builtins__" 171 (R 4),en P "__file__" 173 (C 172),en P "__cached__" 174 .none,en P "_wall" 193 (R 21),en P "BoardError" 223 (R 39),en P "BadArgument" 239 (R 52),en P "NoRoom" 255 (R 64),en P "BadCall" 271 (R 76),en P "Stuck" 287 (R 88),en P "DONE" 291 (I 0 290),en P "SLEEP" 293 (I 1 292),en P "BROKEN" 295 (I 2 294),en P "READ_CHANNEL" 297 (I 0 296),en P "WRITE_CHANNEL" 299 (I 1 298),en P "Pipe" 385 (R 150),en P "PipeTable" 441 (R 193),en P "TICKS" 445 (R 198),en P "octets_of" 451 (R 203),en P "Parts" 491 (R 221),en P "ProcessCalls" 693 (R 368),en P "PIPE" 697 (S "pipe" 696),en P "NODE" 699 (S "node" 698),en P "DEVICE" 701 (S "device" 700),en P "OpenFile" 754 (R 403),en P "FileTable" 926 (R 527),en P "Descriptors" 1014 (R 594),en P "UNUSED" 1018 (S "unused" 1017),en P "FRESH" 1020 (S "fresh" 1019),en P "READY" 1022 (S "ready" 1021),en P "RUNNING" 1024 (S "running" 1023),en P "SLEEPING" 1026 (S "sleeping" 1025),en P "ZOMBIE" 1028 (S "zombie" 1027),en P "A0" 1030 (I 10 1029),en P "Process" 1113 (R 651),en P "Table" 1296 (R 792),en P "_law_take" 1307 (R 803),en P "_law_child" 1313 (R 808)] 43
abbrev OL:Obj:=nf #[I 1 0,I 0 0,R 20,I 5 0,I 0 0,R 27,I 10 0,I 0 0,R 48,I 12 0,I 0 0,R 60,I 14 0,I 0 0,R 72,I 16 0,I 0 0,R 84,I 24 0,I 0 0,R 96,I 70 0,I 0 0,R 160,I 91 0,I 0 0,R 202,I 97 0,I 0 0,R 209,I 107 0,I 0 0,R 231,I 228 0,I 0 0,R 378,I 246 0,I 0 0,R 413,I 357 0,I 0 0,R 537,I 404 0,I 0 0,R 604,I 442 0,I 0 0,R 661,I 575 0,I 0 0,R 802,I 579 0,I 0 0,R 807]
abbrev Nj (P:Params):Obj:=di #[en P "__module__" 1121 (S "pipeboard.procs" 1015),en P "__qualname__" 1123 (S "Table" 1122),en P "__firstlineno__" 1125 (I 442 1124),en P "__init__" 1131 (R 667),en P "free_place" 1139 (R 674),en P "new" 1149 (R 682),en P "find" 1158 (R 689),en P "all" 1164 (R 694),en P "children" 1170 (R 699),en P "ready" 1178 (R 706),en P "next" 1188 (R 713),en P "need_next" 1195 (R 720),en P "fork" 1205 (R 728),en P "reparent" 1214 (R 735),en P "channel_of" 1222 (R 742),en P "exit" 1231 (R 749),en P "reap" 1240 (R 756),en P "wait" 1250 (R 763),en P "sleep" 1259 (R 770),en P "wakeup" 1269 (R 777),en P "kill" 1277 (R 784),en P "rows" 1283 (R 789),en P "__static_attributes__" 1289 (R 790)] 23
abbrev MW:Obj:=nf #[I 444 0,I 4 0,R 666,I 451 0,I 4 0,R 673,I 457 0,I 4 0,R 681,I 468 0,I 4 0,R 688,I 474 0,I 4 0,R 693,I 477 0,I 4 0,R 698,I 480 0,I 4 0,R 705,I 486 0,I 4 0,R 712,I 498 0,I 4 0,R 719,I 501 0,I 4 0,R 727,I 517 0,I 4 0,R 734,I 523 0,I 4 0,R 741,I 526 0,I 4 0,R 748,I 538 0,I 4 0,R 755,I 545 0,I 4 0,R 762,I 555 0,I 4 0,R 769,I 561 0,I 4 0,R 776,I 569 0,I 4 0,R 783,I 572 0,I 4 0,R 788]
abbrev LV:Obj:=co "Table" "Table" 1116 442 0 0 0 0 659 false 660 .none .none .none .none 1119
abbrev LB:Obj:=⟨.type "frame",none,.plain,#[some (R 661),some (R 3),some (R 658),none,some (S "pipeboard.procs" 1015),none,some (R 0)]⟩
abbrev LD:Obj:=fu "__init__" "Table.__init__" (mem 36 0)
abbrev J2:Obj:=co "__init__" "Table.__init__" 1126 444 2 0 0 3 663 true 664 .none .none .none (R 665) 1129
abbrev o675:Obj:=fv "__init__" "Table.__init__" (mem 36 0) .none "pipeboard.procs" 1015 666
abbrev MY:Obj:=tu #[S "self" 1135,S "process" 1136]
abbrev LS:Obj:=fu "free_place" "Table.free_place" (mem 36 1)
abbrev KN:Obj:=co "free_place" "Table.free_place" 1132 451 1 0 0 3 668 true 669 .none (R 670) (R 671) (R 672) 1137
abbrev o682:Obj:=fv "free_place" "Table.free_place" (mem 36 1) .none "pipeboard.procs" 1015 673
abbrev Kh:Obj:=tu #[S "" 1140]
abbrev MK:Obj:=tu #[S "self" 1144,S "name" 1145,S "process" 1146]
abbrev LI:Obj:=fu "new" "Table.new" (mem 36 2)
abbrev Kv:Obj:=co "new" "Table.new" 1141 457 2 0 0 3 676 true 677 .none (R 678) (R 679) (R 680) 1147
abbrev o690:Obj:=fv "new" "Table.new" (mem 36 2) (R 675) "pipeboard.procs" 1015 681
abbrev N6:Obj:=tu #[S "self" 1153,S "pid" 1154,S "process" 1155]
abbrev MG:Obj:=fu "find" "Table.find" (mem 36 3)
abbrev KH:Obj:=co "find" "Table.find" 1150 468 2 0 0 3 683 true 684 .none (R 685) (R 686) (R 687) 1156
abbrev Jg:Obj:=fv "find" "Table.find" (mem 36 3) .none "pipeboard.procs" 1015 688
abbrev NA:Obj:=fu "all" "Table.all" (mem 36 4)
abbrev Ko:Obj:=co "all" "Table.all" 1159 474 1 0 0 3 690 true 691 .none .none .none (R 692) 1162
abbrev o702:Obj:=fv "all" "Table.all" (mem 36 4) .none "pipeboard.procs" 1015 693
abbrev MZ:Obj:=fu "children" "Table.children" (mem 36 5)
abbrev J9:Obj:=co "children" "Table.children" 1165 477 2 0 0 3 695 true 696 .none .none .none (R 697) 1168
abbrev o707:Obj:=fv "children" "Table.children" (mem 36 5) .none "pipeboard.procs" 1015 698
abbrev Ly:Obj:=tu #[S "self" 1174,S "process" 1175]
abbrev MM:Obj:=fu "ready" "Table.ready" (mem 36 6)
abbrev Kq:Obj:=co "ready" "Table.ready" 1171 480 2 0 0 3 700 true 701 .none (R 702) (R 703) (R 704) 1176
abbrev o714:Obj:=fv "ready" "Table.ready" (mem 36 6) .none "pipeboard.procs" 1015 705
abbrev Nr:Obj:=tu #[S "self" 1182,S "many" 1183,S "step" 1184,S "process" 1185]
abbrev MU:Obj:=fu "next" "Table.next" (mem 36 7)
abbrev JV:Obj:=co "next" "Table.next" 1179 486 1 0 0 3 707 true 708 .none (R 709) (R 710) (R 711) 1186
abbrev J6:Obj:=fv "next" "Table.next" (mem 36 7) .none "pipeboard.procs" 1015 712
abbrev M8:Obj:=tu #[S "self" 1192]
abbrev Lx:Obj:=fu "need_next" "Table.need_next" (mem 36 8)
abbrev IY:Obj:=co "need_next" "Table.need_next" 1189 498 1 0 0 3 714 true 715 .none (R 716) (R 717) (R 718) 1193
abbrev Jf:Obj:=fv "need_next" "Table.need_next" (mem 36 8) .none "pipeboard.procs" 1015 719
abbrev KG:Obj:=tu #[.none]
abbrev MN:Obj:=tu #[S "self" 1199,S "parent" 1200,S "files" 1201,S "child" 1202]
abbrev LZ:Obj:=fu "fork" "Table.fork" (mem 36 9)
abbrev Kd:Obj:=co "fork" "Table.fork" 1196 501 3 0 0 3 722 true 723 .none (R 724) (R 725) (R 726) 1203
abbrev o736:Obj:=fv "fork" "Table.fork" (mem 36 9) (R 721) "pipeboard.procs" 1015 727
abbrev Mt:Obj:=tu #[S "self" 1209,S "process" 1210,S "child" 1211]
abbrev LG:Obj:=fu "reparent" "Table.reparent" (mem 36 10)
abbrev JZ:Obj:=co "reparent" "Table.reparent" 1206 517 2 0 0 3 729 true 730 .none (R 731) (R 732) (R 733) 1212
abbrev o743:Obj:=fv "reparent" "Table.reparent" (mem 36 10) .none "pipeboard.procs" 1015 734
abbrev N7:Obj:=tu #[S "self" 1218,S "process" 1219]
abbrev MB:Obj:=fu "channel_of" "Table.channel_of" (mem 36 11)
abbrev Kl:Obj:=co "channel_of" "Table.channel_of" 1215 523 2 0 0 3 736 true 737 .none (R 738) (R 739) (R 740) 1220
abbrev o750:Obj:=fv "channel_of" "Table.channel_of" (mem 36 11) .none "pipeboard.procs" 1015 741
abbrev Mj:Obj:=tu #[S "self" 1226,S "process" 1227,S "status" 1228]
abbrev M1:Obj:=fu "exit" "Table.exit" (mem 36 12)
abbrev JW:Obj:=co "exit" "Table.exit" 1223 526 3 0 0 3 743 true 744 .none (R 745) (R 746) (R 747) 1229
abbrev o757:Obj:=fv "exit" "Table.exit" (mem 36 12) .none "pipeboard.procs" 1015 748
abbrev Lv:Obj:=tu #[S "self" 1235,S "process" 1236,S "told" 1237]
abbrev Nk:Obj:=fu "reap" "Table.reap" (mem 36 13)
abbrev Km:Obj:=co "reap" "Table.reap" 1232 538 2 0 0 3 750 true 751 .none (R 752) (R 753) (R 754) 1238
abbrev o764:Obj:=fv "reap" "Table.reap" (mem 36 13) .none "pipeboard.procs" 1015 755
abbrev MJ:Obj:=tu #[S "self" 1244,S "process" 1245,S "children" 1246,S "child" 1247]
abbrev Mf:Obj:=fu "wait" "Table.wait" (mem 36 14)
abbrev La:Obj:=co "wait" "Table.wait" 1241 545 2 0 0 3 757 true 758 .none (R 759) (R 760) (R 761) 1248
abbrev o771:Obj:=fv "wait" "Table.wait" (mem 36 14) .none "pipeboard.procs" 1015 762
abbrev M0:Obj:=tu #[S "self" 1254,S "process" 1255,S "channel" 1256]
abbrev MD:Obj:=fu "sleep" "Table.sleep" (mem 36 15)
abbrev IV:Obj:=co "sleep" "Table.sleep" 1251 555 3 0 0 3 764 true 765 .none (R 766) (R 767) (R 768) 1257
abbrev o778:Obj:=fv "sleep" "Table.sleep" (mem 36 15) .none "pipeboard.procs" 1015 769
abbrev M7:Obj:=tu #[S "self" 1263,S "channel" 1264,S "many" 1265,S "process" 1266]
abbrev M4:Obj:=fu "wakeup" "Table.wakeup" (mem 36 16)
abbrev Jc:Obj:=co "wakeup" "Table.wakeup" 1260 561 2 0 0 3 771 true 772 .none (R 773) (R 774) (R 775) 1267
abbrev o785:Obj:=fv "wakeup" "Table.wakeup" (mem 36 16) .none "pipeboard.procs" 1015 776
abbrev Nq:Obj:=tu #[S "self" 1273,S "pid" 1274]
abbrev Nu:Obj:=fu "kill" "Table.kill" (mem 36 17)
abbrev K8:Obj:=co "kill" "Table.kill" 1270 569 2 0 0 3 778 true 779 .none (R 780) (R 781) (R 782) 1275
abbrev JQ:Obj:=fv "kill" "Table.kill" (mem 36 17) .none "pipeboard.procs" 1015 783
abbrev ND:Obj:=fu "rows" "Table.rows" (mem 36 18)
abbrev J5:Obj:=co "rows" "Table.rows" 1278 572 1 0 0 3 785 true 786 .none .none .none (R 787) 1281
abbrev JF:Obj:=fv "rows" "Table.rows" (mem 36 18) .none "pipeboard.procs" 1015 788
abbrev M3:Obj:=tu #[S "first" 1284,S "last" 1285,S "next_pid" 1286,S "places" 1287,S "running" 1288]
abbrev KI (P:Params):Obj:=di #[en P "__module__" 1121 (S "pipeboard.procs" 1015),en P "__firstlineno__" 1125 (I 442 1124),en P "__init__" 1131 (R 667),en P "free_place" 1139 (R 674),en P "new" 1149 (R 682),en P "find" 1158 (R 689),en P "all" 1164 (R 694),en P "children" 1170 (R 699),en P "ready" 1178 (R 706),en P "next" 1188 (R 713),en P "need_next" 1195 (R 720),en P "fork" 1205 (R 728),en P "reparent" 1214 (R 735),en P "channel_of" 1222 (R 742),en P "exit" 1231 (R 749),en P "reap" 1240 (R 756),en P "wait" 1250 (R 763),en P "sleep" 1259 (R 770),en P "wakeup" 1269 (R 777),en P "kill" 1277 (R 784),en P "rows" 1283 (R 789),en P "__static_attributes__" 1289 (R 790),en P "__dict__" 1291 (R 793),en P "__weakref__" 1293 (R 794),en P "__doc__" 1294 .none] 4
abbrev Jw:Obj:=⟨.type "type",none,.cls ⟨s "Table",[.type "object"],[R 792,.type "object"],791,s "Table",true,[],[],false,none,false⟩,#[none,none,some (S "Table" 1114),some (S "Table" 1122),some (.builtin "object.__new__"),some (.bool true)]⟩
abbrev ME:Obj:=⟨.type "getset_descriptor",none,.fields #[S "__dict__" 1290,R 792,.builtin "function.__dict__",.builtin "function.__dict__#set"],#[]⟩
abbrev MI:Obj:=⟨.type "getset_descriptor",none,.fields #[S "__weakref__" 1292,R 792,.builtin "ExceptionGroup.__weakref__",.none],#[]⟩
abbrev LH:Obj:=⟨.type "super",none,.fields #[R 792,R 792,R 792],#[]⟩
abbrev Mz:Obj:=⟨.type "builtin_function_or_method",none,.fields #[.builtin "object.__init_subclass__",R 792],#[]⟩
abbrev LA:Obj:=tu #[S "box" 1302,S "many" 1303,S "k" 1304]
abbrev Mb:Obj:=fu "_law_take" "_law_take" (stm 38)
abbrev Kf:Obj:=co "_law_take" "_law_take" 1299 575 2 0 0 3 797 true 798 .none (R 799) (R 800) (R 801) 1305
abbrev o811:Obj:=fv "_law_take" "_law_take" (stm 38) .none "law_pf0218_01" 1297 802
abbrev Mq:Obj:=fu "_law_child" "_law_child" (stm 39)
abbrev L3:Obj:=co "_law_child" "_law_child" 1308 579 5 0 0 3 804 true 805 .none .none .none (R 806) 1311
abbrev o816:Obj:=fv "_law_child" "_law_child" (stm 39) .none "law_pf0218_01" 1297 807
abbrev r6:List Stmt:=[stm 36,stm 37,stm 38,stm 39]
def t8 (P:Params):BT:=(N (boot_o_0 P) (N (boot_o_1 P) (N (Of P) (N (boot_o_7 P) (N o0 (N o1 (N (C6 P) (N o0 (N o1 (F o0) (F o0)) (N o0 (F Kj) Z)) (N vj (N y7 (F Gn) Z) (N En (F o0) Z))) (N Hh (N uZ (N uH (F o0) (F LA)) (N o0 (F o0) Z)) (N x3 (N uL (F o1) Z) (N o0 (F o743) Z)))) (N o1 (N iM (N rT (N o0 (F BB) (F K8)) (N yj (F Lj) Z)) (N o0 (N zi (F Ee) Z) (N AY (F IY) Z))) (N qN (N sS (N o0 (F o0) Z) (N DH (F MG) Z)) (N o237 (N (vm P) (F o0) Z) (N Bf (F o1) Z))))) (N bW (N FE (N o1 (N o1 (N xG (F o1) (F M4)) (N BI (F G5) Z)) (N o0 (N o0 (F EQ) Z) (N BD (F MU) Z))) (N I4 (N wQ (N o293 (F Hp) (F L3)) (N o1 (F o0) Z)) (N xb (N o0 (F Jd) Z) (N D4 (F o0) Z)))) (N iM (N (F8 P) (N rX (N yX (F o0) (F (KI P))) (N BJ (F o0) Z)) (N o0 (N x0 (F o0) Z) (N o0 (F Kd) Z))) (N o113 (N o179 (N o1 (F o1) Z) (N o0 (F o0) Z)) (N o0 (N (AG P) (F IW) Z) (N o505 (F MJ) Z)))))) (N o0 (N FJ (N Cv (N iM (N sZ (N vt (F EH) (F o0)) (N o0 (F o1) Z)) (N uP (N o321 (F o1) Z) (N o1 (F o0) Z))) (N o0 (N o0 (N yf (F o0) (F o811)) (N ER (F Kh) Z)) (N bW (N o0 (F HA) Z) (N o0 (F o0) Z)))) (N (Dx P) (N o1 (N o141 (N o0 (F Cf) (F ND)) (N xP (F o0) Z)) (N sy (N o1 (F HC) Z) (N o0 (F o1) Z))) (N s6 (N x4 (N yn (F I8) Z) (N o437 (F o1) Z)) (N o0 (N yT (F o0) Z) (N Em (F Km) Z))))) (N FH (N iM (N (EY P) (N qD (N wD (F Ah) (F o1)) (N o1 (F Hj) Z)) (N o199 (N o0 (F HQ) Z) (N Cq (F o1) Z))) (N o1 (N o1 (N o0 (F o1) Z) (N BQ (F o0) Z)) (N xQ (N yr (F o625) Z) (N o1 (F M1) Z)))) (N o1 (N o0 (N o0 (N o1 (F C3) (F LH)) (N o0 (F o675) Z)) (N uU (N yN (F L7) Z) (N o477 (F Mt) Z))) (N o0 (N o0 (N vg (F DZ) Z) (N o0 (F o707) Z)) (N xL (N AD (F o1) Z) (N o0 (F o771) Z))))))) (N (boot_o_5 P) (N (boot_o_9 P) (N o8 (N o0 (N F6 (N sY (N o0 (F D2) (F IV)) (N yc (F GM) Z)) (N tP (N xt (F o581) Z) (N o451 (F Kq) Z))) (N HF (N wV (N o0 (F Cp) (F Mb)) (N Ex (F KN) Z)) (N uW (N o1 (F o0) Z) (N Bw (F o1) Z)))) (N FG (N (Hg P) (N ui (N uM (F El) (F o0)) (N Bk (F bW) Z)) (N vC (N uR (F (DF P)) Z) (N o1 (F KG) Z))) (N o0 (N o0 (N xJ (F I2) Z) (N Co (F Jg) Z)) (N o1 (N yF (F Ic) Z) (N o0 (F o0) Z))))) (N o0 (N F9 (N Fb (N o0 (N xH (F o0) (F o785)) (N o393 (F KW) Z)) (N wF (N vM (F o0) Z) (N o0 (F J6) Z))) (N o99 (N o165 (N o1 (F o557) Z) (N o0 (F Kv) Z)) (N o0 (N xj (F Li) Z) (N o491 (F Mj) Z)))) (N (FF P) (N Hc (N sC (N o279 (F Hv) (F ME)) (N bW (F LD) Z)) (N u6 (N o0 (F (JJ P)) Z) (N EE (F o0) Z))) (N o1 (N o1 (N o0 (F o0) Z) (N Bx (F MZ) Z)) (N xr (N Ay (F o639) Z) (N o1 (F Mf) Z)))))) (N o2 (N CQ (N Fd (N (Fn P) (N o127 (N o0 (F Be) (F M7)) (N BL (F o0) Z)) (N uO (N o1 (F o0) Z) (N o0 (F Nr) Z))) (N HP (N vW (N xI (F H9) (F o1)) (N o423 (F o1) Z)) (N o0 (N uq (F o0) Z) (N Dk (F Kl) Z)))) (N Fe (N Gx (N (qW P) (N ym (F bW) (F JF)) (N Bp (F LV) Z)) (N o1 (N o0 (F HU) Z) (N AW (F o0) Z))) (N tH (N wL (N vL (F o569) Z) (N o1 (F Ko) Z)) (N vx (N o0 (F J0) Z) (N Eu (F o0) Z))))) (N CZ (N (Fa P) (N Fu (N o0 (N o1 (F Ei) (F o0)) (N o0 (F Lg) Z)) (N bW (N yA (F FP) Z) (N Dq (F o0) Z))) (N o0 (N o0 (N vY (F E5) Z) (N o0 (F N6) Z)) (N yJ (N o363 (F o1) Z) (N o0 (F o757) Z)))) (N FM (N (Gu P) (N (ur P) (N o0 (F o1) (F o0)) (N EM (F o1) Z)) (N sD (N xD (F KM) Z) (N o1 (F LG) Z))) (N qU (N tz (N o0 (F o0) Z) (N Eo (F o1) Z)) (N o251 (N o1 (F o0) Z) (N Bb (F o1) Z)))))))) (N (boot_o_2 P) (N (boot_o_4 P) (N (boot_o_8 P) (N o1 (N Fi (N EJ (N o1 (N yI (F o1) (F MD)) (N BR (F K7) Z)) (N (sd P) (N o0 (F Et) Z) (N BU (F MM) Z))) (N HT (N wY (N o286 (F Hy) (F o0)) (N o1 (F LS) Z)) (N vd (N o0 (F L1) Z) (N E7 (F o0) Z)))) (N Fk (N bW (N o0 (N yK (F Cj) (F JQ)) (N xO (F o0) Z)) (N uw (N uI (F Hr) Z) (N o0 (F Jf) Z))) (N o106 (N o172 (N o1 (F o1) Z) (N o0 (F KH) Z)) (N o0 (N vI (F IU) Z) (N AT (F Lv) Z))))) (N (Fp P) (N Ft (N FD (N rZ (N o0 (F Ep) (F Jc)) (N zg (F HV) Z)) (N o1 (N xN (F o588) Z) (N Ax (F JV) Z))) (N Fm (N sE (N o0 (F CR) (F o816)) (N Eg (F LI) Z)) (N yC (N o1 (F o0) Z) (N AO (F o1) Z)))) (N bW (N Fj (N u0 (N wW (F Gp) (F Jw)) (N o0 (F o1) Z)) (N w9 (N o342 (F bW) Z) (N o1 (F o736) Z))) (N o0 (N o0 (N xf (F HG) Z) (N Cc (F o1) Z)) (N o1 (N o0 (F H3) Z) (N o0 (F o0) Z)))))) (N OL (N F3 (N DE (N bW (N qS (N wU (F B8) (F o1)) (N o1 (F J1) Z)) (N wt (N o0 (F G7) Z) (N CB (F o1) Z))) (N o1 (N o1 (N o0 (F o1) (F o0)) (N Bq (F o0) Z)) (N (yG P) (N yy (F o618) Z) (N o1 (F MB) Z)))) (N D8 (N HX (N sA (N o1 (F o0) (F J5)) (N AH (F MW) Z)) (N o0 (N yi (F Gk) Z) (N F0 (F MN) Z))) (N o0 (N o0 (N wP (F Cl) Z) (N o0 (F NA) Z)) (N xo (N xK (F o1) Z) (N o0 (F o764) Z))))) (N Fx (N bW (N C9 (N o134 (N o0 (F o526) (F Nq)) (N AM (F Ky) Z)) (N o0 (N o1 (F o0) Z) (N o0 (F M8) Z))) (N tJ (N vG (N xq (F Gc) Z) (N o430 (F o1) Z)) (N o0 (N v6 (F o0) Z) (N DK (F JW) Z)))) (N FK (N bW (N bW (N yL (F o0) (F Mz)) (N DX (F o0) Z)) (N (rJ P) (N o0 (F Lb) Z) (N o0 (F o0) Z))) (N sW (N vi (N vb (F o576) Z) (N o1 (F o0) Z)) (N uJ (N o0 (F JR) Z) (N CI (F o0) Z))))))) (N (boot_o_6 P) (N (boot_o_10 P) (N o0 (N Fw (N Fv (N o0 (N yh (F o0) (F o778)) (N o386 (F o0) Z)) (N vH (N wA (F o0) Z) (N o0 (F o714) Z))) (N FA (N tc (N o1 (F o550) (F Kf)) (N o0 (F o682) Z)) (N o0 (N yk (F IZ) Z) (N BS (F N7) Z)))) (N o0 (N o0 (N qO (N o272 (F Dp) (F o1)) (N (xp P) (F (Nj P)) Z)) (N wJ (N o0 (F EA) Z) (N ET (F o0) Z))) (N o1 (N o1 (N o0 (F o0) Z) (N Ao (F o0) Z)) (N yP (N yY (F o632) Z) (N o1 (F Nk) Z))))) (N Fs (N Fq (N o0 (N rK (N uS (F EB) (F o0)) (N o0 (F (G3 P)) Z)) (N uc (N o328 (F o1) Z) (N o1 (F o0) Z))) (N o0 (N o0 (N xB (F o0) Z) (N DW (F o690) Z)) (N o1 (N o0 (F HE) Z) (N o0 (F o0) Z)))) (N o0 (N Hw (N sf (N o0 (F HL) (F MI)) (N (E2 P) (F J2) Z)) (N o214 (N o1 (F o0) Z) (N As (F o1) Z))) (N tD (N wk (N yV (F Gb) Z) (N o444 (F J9) Z)) (N o0 (N AN (F o0) Z) (N EK (F La) Z)))))) (N o3 (N F7 (N (EP P) (N o0 (N o0 (N o1 (F o0) (F o0)) (N o0 (F Ja) Z)) (N ub (N ze (F Hz) Z) (N EV (F o0) Z))) (N o0 (N o0 (N vq (F o0) (F Mq)) (N o0 (F MK) Z)) (N xE (N o356 (F o1) Z) (N o0 (F o750) Z)))) (N Ff (N o0 (N qJ (N xY (F (GQ P)) (F M3)) (N BO (F LB) Z)) (N uV (N y9 (F G4) Z) (N o472 (F LZ) Z))) (N qE (N tg (N o0 (F o0) Z) (N C4 (F o702) Z)) (N vk (N bW (F o0) Z) (N Am (F o1) Z))))) (N o0 (N o0 (N Fl (N o1 (N ya (F (Bt P)) (F Nu)) (N AU (F Kz) Z)) (N (uY P) (N o0 (F EL) Z) (N B6 (F Lx) Z))) (N tE (N w6 (N x5 (F o562) Z) (N o1 (F o0) Z)) (N vw (N xy (F Je) Z) (N DG (F o0) Z)))) (N o0 (N o0 (N o0 (N yO (F H0) (F o1)) (N DT (F MY) Z)) (N vn (N wZ (F o0) Z) (N Dl (F JZ) Z))) (N o120 (N o186 (N o1 (F o1) Z) (N o0 (F Ly) Z)) (N o0 (N BP (F JG) Z) (N AK (F M0) Z)))))))))
abbrev LC (P:Params):Obj:=di #[en P "__name__" 165 (S "law_pf0218_01" 1297),en P "__doc__" 166 .none,en P "__package__" 167 .none,en P "__loader__" 168 (.builtin "__main__.__loader__#opaque"),en P "__spec__" 169 .none,en P "__annotations__" 170 (R 6),en P "__builtins__" 171 (R 4),en P "__file__" 173 (C 172),en P "__cached__" 174 .none,en P "_wall" 193 (R 21),en P "BoardError" 223 (R 39),en P "BadArgument" 239 (R 52),en P "NoRoom" 255 (R 64),en P "BadCall" 271 (R 76),en P "Stuck" 287 (R 88),en P "DONE" 291 (I 0 290),en P "SLEEP" 293 (I 1 292),en P "BROKEN" 295 (I 2 294),en P "READ_CHANNEL" 297 (I 0 296),en P "WRITE_CHANNEL" 299 (I 1 298),en P "Pipe" 385 (R 150),en P "PipeTable" 441 (R 193),en P "TICKS" 445 (R 198),en P "octets_of" 451 (R 203),en P "Parts" 491 (R 221),en P "ProcessCalls" 693 (R 368),en P "PIPE" 697 (S "pipe" 696),en P "NODE" 699 (S "node" 698),en P "DEVICE" 701 (S "device" 700),en P "OpenFile" 754 (R 403),en P "FileTable" 926 (R 527),en P "Descriptors" 1014 (R 594),en P "UNUSED" 1018 (S "unused" 1017),en P "FRESH" 1020 (S "fresh" 1019),en P "READY" 1022 (S "ready" 1021),en P "RUNNING" 1024 (S "running" 1023),en P "SLEEPING" 1026 (S "sleeping" 1025),en P "ZOMBIE" 1028 (S "zombie" 1027),en P "A0" 1030 (I 10 1029),en P "Process" 1113 (R 651),en P "Table" 1296 (R 792),en P "_law_take" 1307 (R 803),en P "_law_child" 1313 (R 808),en P "_law_row_of" 1330 (R 815),en P "_law_writes" 1339 (R 822),en P "_law_step" 1350 (R 829),en P "_law_reads" 1360 (R 836),en P "_law_held" 1366 (R 841),en P "law" 1372 (R 846)] 49
abbrev OA:Obj:=nf #[I 1 0,I 0 0,R 20,I 5 0,I 0 0,R 27,I 10 0,I 0 0,R 48,I 12 0,I 0 0,R 60,I 14 0,I 0 0,R 72,I 16 0,I 0 0,R 84,I 24 0,I 0 0,R 96,I 70 0,I 0 0,R 160,I 91 0,I 0 0,R 202,I 97 0,I 0 0,R 209,I 107 0,I 0 0,R 231,I 228 0,I 0 0,R 378,I 246 0,I 0 0,R 413,I 357 0,I 0 0,R 537,I 404 0,I 0 0,R 604,I 442 0,I 0 0,R 661,I 575 0,I 0 0,R 802,I 579 0,I 0 0,R 807,I 588 0,I 0 0,R 814,I 598 0,I 0 0,R 821,I 602 0,I 0 0,R 828,I 616 0,I 0 0,R 835,I 629 0,I 0 0,R 840,I 636 0,I 0 0,R 845]
abbrev OP:Obj:=tu #[S "box" 1317,S "calls" 1318,S "first" 1319,S "text" 1320,S "many" 1321,S "reader" 1322,S "writer" 1323,S "rows" 1324,S "turn" 1325,S "fresh" 1326,S "row" 1327]
abbrev OE:Obj:=fu "_law_row_of" "_law_row_of" (stm 40)
abbrev M6:Obj:=co "_law_row_of" "_law_row_of" 1314 588 5 0 0 3 809 true 810 .none (R 811) (R 812) (R 813) 1328
abbrev o825:Obj:=fv "_law_row_of" "_law_row_of" (stm 40) .none "law_pf0218_01" 1297 814
abbrev O4:Obj:=tu #[S "calls" 1334,S "one" 1335,S "told" 1336]
abbrev OX:Obj:=fu "_law_writes" "_law_writes" (stm 41)
abbrev LL:Obj:=co "_law_writes" "_law_writes" 1331 598 2 0 0 3 816 true 817 .none (R 818) (R 819) (R 820) 1337
abbrev o832:Obj:=fv "_law_writes" "_law_writes" (stm 41) .none "law_pf0218_01" 1297 821
abbrev P0:Obj:=tu #[S "calls" 1343,S "one" 1344,S "world" 1345,S "process" 1346,S "told" 1347]
abbrev OB:Obj:=fu "_law_step" "_law_step" (stm 42)
abbrev ML:Obj:=co "_law_step" "_law_step" 1340 602 3 0 0 3 823 true 824 .none (R 825) (R 826) (R 827) 1348
abbrev o839:Obj:=fv "_law_step" "_law_step" (stm 42) .none "law_pf0218_01" 1297 828
abbrev Oo:Obj:=tu #[S "calls" 1354,S "one" 1355,S "world" 1356,S "got" 1357]
abbrev O3:Obj:=fu "_law_reads" "_law_reads" (stm 43)
abbrev NB:Obj:=co "_law_reads" "_law_reads" 1351 616 3 0 0 3 830 true 831 .none (R 832) (R 833) (R 834) 1358
abbrev o846:Obj:=fv "_law_reads" "_law_reads" (stm 43) .none "law_pf0218_01" 1297 835
abbrev Ok:Obj:=fu "_law_held" "_law_held" (stm 44)
abbrev MX:Obj:=co "_law_held" "_law_held" 1361 629 3 0 0 3 837 true 838 .none .none .none (R 839) 1364
abbrev o851:Obj:=fv "_law_held" "_law_held" (stm 44) .none "law_pf0218_01" 1297 840
abbrev OQ:Obj:=fu "law" "law" (stm 45)
abbrev LO:Obj:=co "law" "law" 1367 636 1 0 0 3 842 true 843 .none .none .none (R 844) 1370
abbrev o856:Obj:=fv "law" "law" (stm 45) .none "law_pf0218_01" 1297 845
abbrev q9:List Stmt:=[stm 40,stm 41,stm 42,stm 43,stm 44,stm 45]
def t9 (P:Params):BT:=(N (boot_o_0 P) (N (boot_o_1 P) (N (LC P) (N (boot_o_7 P) (N o0 (N o1 (N (C6 P) (N o0 (N o1 (F o0) (F o0)) (N o0 (F Kj) Z)) (N vj (N y7 (F Gn) (F o1)) (N En (F o0) Z))) (N Hh (N uZ (N uH (F o0) (F LA)) (N o0 (F o0) Z)) (N x3 (N uL (F o1) Z) (N o0 (F o743) Z)))) (N o1 (N iM (N rT (N o0 (F BB) (F K8)) (N yj (F Lj) Z)) (N o0 (N zi (F Ee) Z) (N AY (F IY) Z))) (N qN (N sS (N o0 (F o0) (F o825)) (N DH (F MG) Z)) (N o237 (N (vm P) (F o0) Z) (N Bf (F o1) Z))))) (N bW (N FE (N o1 (N o1 (N xG (F o1) (F M4)) (N BI (F G5) Z)) (N o0 (N o0 (F EQ) (F Ok)) (N BD (F MU) Z))) (N I4 (N wQ (N o293 (F Hp) (F L3)) (N o1 (F o0) Z)) (N xb (N o0 (F Jd) Z) (N D4 (F o0) Z)))) (N iM (N (F8 P) (N rX (N yX (F o0) (F (KI P))) (N BJ (F o0) Z)) (N o0 (N x0 (F o0) Z) (N o0 (F Kd) Z))) (N o113 (N o179 (N o1 (F o1) (F o0)) (N o0 (F o0) Z)) (N o0 (N (AG P) (F IW) Z) (N o505 (F MJ) Z)))))) (N o0 (N FJ (N Cv (N iM (N sZ (N vt (F EH) (F o0)) (N o0 (F o1) Z)) (N uP (N o321 (F o1) (F NB)) (N o1 (F o0) Z))) (N o0 (N o0 (N yf (F o0) (F o811)) (N ER (F Kh) Z)) (N bW (N o0 (F HA) Z) (N o0 (F o0) Z)))) (N (Dx P) (N o1 (N o141 (N o0 (F Cf) (F ND)) (N xP (F o0) Z)) (N sy (N o1 (F HC) Z) (N o0 (F o1) Z))) (N s6 (N x4 (N yn (F I8) (F o0)) (N o437 (F o1) Z)) (N o0 (N yT (F o0) Z) (N Em (F Km) Z))))) (N FH (N iM (N (EY P) (N qD (N wD (F Ah) (F o1)) (N o1 (F Hj) Z)) (N o199 (N o0 (F HQ) (F o1)) (N Cq (F o1) Z))) (N o1 (N o1 (N o0 (F o1) (F OP)) (N BQ (F o0) Z)) (N xQ (N yr (F o625) Z) (N o1 (F M1) Z)))) (N o1 (N o0 (N o0 (N o1 (F C3) (F LH)) (N o0 (F o675) Z)) (N uU (N yN (F L7) Z) (N o477 (F Mt) Z))) (N o0 (N o0 (N vg (F DZ) (F OB)) (N o0 (F o707) Z)) (N xL (N AD (F o1) Z) (N o0 (F o771) Z))))))) (N (boot_o_5 P) (N (boot_o_9 P) (N o8 (N o0 (N F6 (N sY (N o0 (F D2) (F IV)) (N yc (F GM) Z)) (N tP (N xt (F o581) (F o0)) (N o451 (F Kq) Z))) (N HF (N wV (N o0 (F Cp) (F Mb)) (N Ex (F KN) Z)) (N uW (N o1 (F o0) Z) (N Bw (F o1) Z)))) (N FG (N (Hg P) (N ui (N uM (F El) (F o0)) (N Bk (F bW) Z)) (N vC (N uR (F (DF P)) Z) (N o1 (F KG) Z))) (N o0 (N o0 (N xJ (F I2) (F o1)) (N Co (F Jg) Z)) (N o1 (N yF (F Ic) Z) (N o0 (F o0) Z))))) (N o0 (N F9 (N Fb (N o0 (N xH (F o0) (F o785)) (N o393 (F KW) Z)) (N wF (N vM (F o0) (F o851)) (N o0 (F J6) Z))) (N o99 (N o165 (N o1 (F o557) (F o0)) (N o0 (F Kv) Z)) (N o0 (N xj (F Li) Z) (N o491 (F Mj) Z)))) (N (FF P) (N Hc (N sC (N o279 (F Hv) (F ME)) (N bW (F LD) Z)) (N u6 (N o0 (F (JJ P)) Z) (N EE (F o0) Z))) (N o1 (N o1 (N o0 (F o0) (F P0)) (N Bx (F MZ) Z)) (N xr (N Ay (F o639) Z) (N o1 (F Mf) Z)))))) (N o2 (N CQ (N Fd (N (Fn P) (N o127 (N o0 (F Be) (F M7)) (N BL (F o0) Z)) (N uO (N o1 (F o0) (F o0)) (N o0 (F Nr) Z))) (N HP (N vW (N xI (F H9) (F o1)) (N o423 (F o1) Z)) (N o0 (N uq (F o0) Z) (N Dk (F Kl) Z)))) (N Fe (N Gx (N (qW P) (N ym (F bW) (F JF)) (N Bp (F LV) Z)) (N o1 (N o0 (F HU) Z) (N AW (F o0) Z))) (N tH (N wL (N vL (F o569) (F LL)) (N o1 (F Ko) Z)) (N vx (N o0 (F J0) Z) (N Eu (F o0) Z))))) (N CZ (N (Fa P) (N Fu (N o0 (N o1 (F Ei) (F o0)) (N o0 (F Lg) Z)) (N bW (N yA (F FP) (F LO)) (N Dq (F o0) Z))) (N o0 (N o0 (N vY (F E5) (F OE)) (N o0 (F N6) Z)) (N yJ (N o363 (F o1) Z) (N o0 (F o757) Z)))) (N FM (N (Gu P) (N (ur P) (N o0 (F o1) (F o0)) (N EM (F o1) Z)) (N sD (N xD (F KM) Z) (N o1 (F LG) Z))) (N qU (N tz (N o0 (F o0) (F o839)) (N Eo (F o1) Z)) (N o251 (N o1 (F o0) Z) (N Bb (F o1) Z)))))))) (N (boot_o_2 P) (N (boot_o_4 P) (N (boot_o_8 P) (N o1 (N Fi (N EJ (N o1 (N yI (F o1) (F MD)) (N BR (F K7) Z)) (N (sd P) (N o0 (F Et) (F Oo)) (N BU (F MM) Z))) (N HT (N wY (N o286 (F Hy) (F o0)) (N o1 (F LS) Z)) (N vd (N o0 (F L1) Z) (N E7 (F o0) Z)))) (N Fk (N bW (N o0 (N yK (F Cj) (F JQ)) (N xO (F o0) Z)) (N uw (N uI (F Hr) Z) (N o0 (F Jf) Z))) (N o106 (N o172 (N o1 (F o1) (F o0)) (N o0 (F KH) Z)) (N o0 (N vI (F IU) Z) (N AT (F Lv) Z))))) (N (Fp P) (N Ft (N FD (N rZ (N o0 (F Ep) (F Jc)) (N zg (F HV) Z)) (N o1 (N xN (F o588) (F MX)) (N Ax (F JV) Z))) (N Fm (N sE (N o0 (F CR) (F o816)) (N Eg (F LI) Z)) (N yC (N o1 (F o0) Z) (N AO (F o1) Z)))) (N bW (N Fj (N u0 (N wW (F Gp) (F Jw)) (N o0 (F o1) Z)) (N w9 (N o342 (F bW) Z) (N o1 (F o736) Z))) (N o0 (N o0 (N xf (F HG) (F o1)) (N Cc (F o1) Z)) (N o1 (N o0 (F H3) Z) (N o0 (F o0) Z)))))) (N OA (N F3 (N DE (N bW (N qS (N wU (F B8) (F o1)) (N o1 (F J1) Z)) (N wt (N o0 (F G7) (F o846)) (N CB (F o1) Z))) (N o1 (N o1 (N o0 (F o1) (F o0)) (N Bq (F o0) Z)) (N (yG P) (N yy (F o618) Z) (N o1 (F MB) Z)))) (N D8 (N HX (N sA (N o1 (F o0) (F J5)) (N AH (F MW) Z)) (N o0 (N yi (F Gk) Z) (N F0 (F MN) Z))) (N o0 (N o0 (N wP (F Cl) (F OX)) (N o0 (F NA) Z)) (N xo (N xK (F o1) Z) (N o0 (F o764) Z))))) (N Fx (N bW (N C9 (N o134 (N o0 (F o526) (F Nq)) (N AM (F Ky) Z)) (N o0 (N o1 (F o0) (F OQ)) (N o0 (F M8) Z))) (N tJ (N vG (N xq (F Gc) (F o0)) (N o430 (F o1) Z)) (N o0 (N v6 (F o0) Z) (N DK (F JW) Z)))) (N FK (N bW (N bW (N yL (F o0) (F Mz)) (N DX (F o0) Z)) (N (rJ P) (N o0 (F Lb) Z) (N o0 (F o0) Z))) (N sW (N vi (N vb (F o576) (F ML)) (N o1 (F o0) Z)) (N uJ (N o0 (F JR) Z) (N CI (F o0) Z))))))) (N (boot_o_6 P) (N (boot_o_10 P) (N o0 (N Fw (N Fv (N o0 (N yh (F o0) (F o778)) (N o386 (F o0) Z)) (N vH (N wA (F o0) (F O3)) (N o0 (F o714) Z))) (N FA (N tc (N o1 (F o550) (F Kf)) (N o0 (F o682) Z)) (N o0 (N yk (F IZ) Z) (N BS (F N7) Z)))) (N o0 (N o0 (N qO (N o272 (F Dp) (F o1)) (N (xp P) (F (Nj P)) Z)) (N wJ (N o0 (F EA) Z) (N ET (F o0) Z))) (N o1 (N o1 (N o0 (F o0) (F O4)) (N Ao (F o0) Z)) (N yP (N yY (F o632) Z) (N o1 (F Nk) Z))))) (N Fs (N Fq (N o0 (N rK (N uS (F EB) (F o0)) (N o0 (F (G3 P)) Z)) (N uc (N o328 (F o1) (F o0)) (N o1 (F o0) Z))) (N o0 (N o0 (N xB (F o0) (F o1)) (N DW (F o690) Z)) (N o1 (N o0 (F HE) Z) (N o0 (F o0) Z)))) (N o0 (N Hw (N sf (N o0 (F HL) (F MI)) (N (E2 P) (F J2) Z)) (N o214 (N o1 (F o0) Z) (N As (F o1) Z))) (N tD (N wk (N yV (F Gb) (F o0)) (N o444 (F J9) Z)) (N o0 (N AN (F o0) Z) (N EK (F La) Z)))))) (N o3 (N F7 (N (EP P) (N o0 (N o0 (N o1 (F o0) (F o0)) (N o0 (F Ja) Z)) (N ub (N ze (F Hz) (F o1)) (N EV (F o0) Z))) (N o0 (N o0 (N vq (F o0) (F Mq)) (N o0 (F MK) Z)) (N xE (N o356 (F o1) Z) (N o0 (F o750) Z)))) (N Ff (N o0 (N qJ (N xY (F (GQ P)) (F M3)) (N BO (F LB) Z)) (N uV (N y9 (F G4) Z) (N o472 (F LZ) Z))) (N qE (N tg (N o0 (F o0) (F o832)) (N C4 (F o702) Z)) (N vk (N bW (F o0) Z) (N Am (F o1) Z))))) (N o0 (N o0 (N Fl (N o1 (N ya (F (Bt P)) (F Nu)) (N AU (F Kz) Z)) (N (uY P) (N o0 (F EL) (F o856)) (N B6 (F Lx) Z))) (N tE (N w6 (N x5 (F o562) (F M6)) (N o1 (F o0) Z)) (N vw (N xy (F Je) Z) (N DG (F o0) Z)))) (N o0 (N o0 (N o0 (N yO (F H0) (F o1)) (N DT (F MY) Z)) (N vn (N wZ (F o0) Z) (N Dl (F JZ) Z))) (N o120 (N o186 (N o1 (F o1) (F o0)) (N o0 (F Ly) Z)) (N o0 (N BP (F JG) Z) (N AK (F M0) Z)))))))))
noncomputable abbrev j8:Code:= .body (behindTheImports pw) gw
noncomputable abbrev ow:List Frame:=[topFrame Oz]
noncomputable abbrev annT:Option Value:=some (R 6)
theorem Mg (w:World)(os:OsState):topGo treeTable pw w m0 annT 12 ⟨boot_heap w.params,#[],boot_drawn,boot_toks,os⟩ (topStub pw)=some (⟨Ha w.params,#[],boot_drawn,187,os⟩,⟨denote treeTable j8,j8,⟨0,0,0,0⟩,ow⟩):=by
 rewrite [PySem.W.Fast.te15667345088766844465,PySem.W.Fast.te11892475500146522536,PySem.W.Fast.te14364793385576792824];kernel_rfl
theorem GP (w:World)(os:OsState):segRun treeTable pw w m0 annT 1 1 ⟨Ha w.params,#[],boot_drawn,187,os⟩ (blockOf (behindTheImports pw) gw j8 ⟨0,0,0,0⟩ ow)=some (.next,SharedT.abs ⟨tb w.params,15,dv,#[],boot_drawn,187,os⟩,j8,⟨0,0,0,0⟩):=by
 rewrite [PySem.W.Fast.te14374325043358763698,PySem.W.Fast.te14364793385576792824];kernel_rfl
theorem Ob (w:World)(os:OsState):segRunT treeTable pw w m0 annT 1 898 ⟨tb w.params,15,dv,#[],boot_drawn,187,os⟩ (piecesOf N2 gw j8 ⟨0,0,0,0⟩ ow)=some (.next,⟨t0 w.params,79,dv,#[],boot_drawn,272,os⟩,j8,⟨14,0,15,8⟩):=by
 rewrite [PySem.W.Fast.te10110043849684766642,PySem.W.Fast.te14364793385576792824];kernel_rfl
theorem Oj (w:World)(os:OsState):segRunT treeTable pw w m0 annT 1 692 ⟨t0 w.params,79,dv,#[],boot_drawn,272,os⟩ (piecesOf JX gw j8 ⟨14,0,15,8⟩ ow)=some (.next,⟨t1 w.params,155,dv,#[],boot_drawn,386,os⟩,j8,⟨24,0,69,59⟩):=by
 rewrite [PySem.W.Fast.te10110043849684766642,PySem.W.Fast.te14364793385576792824];kernel_rfl
theorem ON (w:World)(os:OsState):segRunT treeTable pw w m0 annT 1 603 ⟨t1 w.params,155,dv,#[],boot_drawn,386,os⟩ (piecesOf I5 gw j8 ⟨24,0,69,59⟩ ow)=some (.next,⟨t2 w.params,226,dv,#[],boot_drawn,492,os⟩,j8,⟨97,0,106,22⟩):=by
 rewrite [PySem.W.Fast.te10110043849684766642,PySem.W.Fast.te14364793385576792824];kernel_rfl
theorem NY (w:World)(os:OsState):segRunT treeTable pw w m0 annT 1 864 ⟨t2 w.params,226,dv,#[],boot_drawn,492,os⟩ (piecesOf Ci gw j8 ⟨97,0,106,22⟩ ow)=some (.next,⟨t3 w.params,373,dv,#[],boot_drawn,702,os⟩,j8,⟨227,0,227,6⟩):=by
 rewrite [PySem.W.Fast.te10110043849684766642,PySem.W.Fast.te14364793385576792824];kernel_rfl
theorem NR (w:World)(os:OsState):segRunT treeTable pw w m0 annT 1 295 ⟨t3 w.params,373,dv,#[],boot_drawn,702,os⟩ (piecesOf Bm gw j8 ⟨227,0,227,6⟩ ow)=some (.next,⟨t4 w.params,408,dv,#[],boot_drawn,755,os⟩,j8,⟨228,0,245,31⟩):=by
 rewrite [PySem.W.Fast.te10110043849684766642,PySem.W.Fast.te14364793385576792824];kernel_rfl
theorem Oa (w:World)(os:OsState):segRunT treeTable pw w m0 annT 1 724 ⟨t4 w.params,408,dv,#[],boot_drawn,755,os⟩ (piecesOf xR gw j8 ⟨228,0,245,31⟩ ow)=some (.next,⟨t5 w.params,532,dv,#[],boot_drawn,927,os⟩,j8,⟨246,0,356,42⟩):=by
 rewrite [PySem.W.Fast.te10110043849684766642,PySem.W.Fast.te14364793385576792824];kernel_rfl
theorem O6 (w:World)(os:OsState):segRunT treeTable pw w m0 annT 1 519 ⟨t5 w.params,532,dv,#[],boot_drawn,927,os⟩ (piecesOf uQ gw j8 ⟨246,0,356,42⟩ ow)=some (.next,⟨t6 w.params,599,dv,#[],boot_drawn,1031,os⟩,j8,⟨403,0,403,2⟩):=by
 rewrite [PySem.W.Fast.te10110043849684766642,PySem.W.Fast.te14364793385576792824];kernel_rfl
theorem Op (w:World)(os:OsState):segRunT treeTable pw w m0 annT 1 454 ⟨t6 w.params,599,dv,#[],boot_drawn,1031,os⟩ (piecesOf tQ gw j8 ⟨403,0,403,2⟩ ow)=some (.next,⟨t7 w.params,656,dv,#[],boot_drawn,1114,os⟩,j8,⟨404,0,441,95⟩):=by
 rewrite [PySem.W.Fast.te10110043849684766642,PySem.W.Fast.te14364793385576792824];kernel_rfl
theorem Oq (w:World)(os:OsState):segRunT treeTable pw w m0 annT 1 869 ⟨t7 w.params,656,dv,#[],boot_drawn,1114,os⟩ (piecesOf r6 gw j8 ⟨404,0,441,95⟩ ow)=some (.next,⟨t8 w.params,809,dv,#[],boot_drawn,1314,os⟩,j8,⟨579,0,587,14⟩):=by
 rewrite [PySem.W.Fast.te10110043849684766642,PySem.W.Fast.te14364793385576792824];kernel_rfl
theorem Ou (w:World)(os:OsState):segRunT treeTable pw w m0 annT 1 188 ⟨t8 w.params,809,dv,#[],boot_drawn,1314,os⟩ (piecesOf q9 gw j8 ⟨579,0,587,14⟩ ow)=some (.next,⟨t9 w.params,847,dv,#[],boot_drawn,1373,os⟩,j8,⟨636,0,662,113⟩):=by
 rewrite [PySem.W.Fast.te10110043849684766642,PySem.W.Fast.te14364793385576792824];kernel_rfl
noncomputable def Hf (P:Params):Heap:=absHeap (t9 P) 847 dv
theorem Ny (w:World)(os:OsState):topRun treeTable pw w m0 annT 2 (SharedT.abs ⟨t9 w.params,847,dv,#[],boot_drawn,1373,os⟩) ⟨doneF .next,j8,⟨636,0,662,113⟩,ow⟩=some ⟨Hf w.params,#[],boot_drawn,1373,os⟩:=by
 rewrite [PySem.W.Fast.te14082659384304107361,PySem.W.Fast.te14364793385576792824];kernel_rfl
theorem h_run (w:World)(os:OsState):topRun treeTable pw w m0 annT (12+(1+(898+(692+(603+(864+(295+(724+(519+(454+(869+(188+2)))))))))))) ⟨boot_heap w.params,#[],boot_drawn,boot_toks,os⟩ (topStub pw)=some ⟨Hf w.params,#[],boot_drawn,1373,os⟩:=by
 have k:topRun treeTable pw w m0 annT 2 _ (restOf [] gw j8 ⟨636,0,662,113⟩ ow)=_:=Ny w os
 replace k:topRun treeTable pw w m0 annT (188+2) _ (restOf (q9++[]) gw j8 ⟨579,0,587,14⟩ ow)=_:=piece_app (segRun_of (Ou w os)) k
 replace k:topRun treeTable pw w m0 annT (869+(188+2)) _ (restOf (r6++(q9++[])) gw j8 ⟨404,0,441,95⟩ ow)=_:=piece_app (segRun_of (Oq w os)) k
 replace k:topRun treeTable pw w m0 annT (454+(869+(188+2))) _ (restOf (tQ++(r6++(q9++[]))) gw j8 ⟨403,0,403,2⟩ ow)=_:=piece_app (segRun_of (Op w os)) k
 replace k:topRun treeTable pw w m0 annT (519+(454+(869+(188+2)))) _ (restOf (uQ++(tQ++(r6++(q9++[])))) gw j8 ⟨246,0,356,42⟩ ow)=_:=piece_app (segRun_of (O6 w os)) k
 replace k:topRun treeTable pw w m0 annT (724+(519+(454+(869+(188+2))))) _ (restOf (xR++(uQ++(tQ++(r6++(q9++[]))))) gw j8 ⟨228,0,245,31⟩ ow)=_:=piece_app (segRun_of (Oa w os)) k
 replace k:topRun treeTable pw w m0 annT (295+(724+(519+(454+(869+(188+2)))))) _ (restOf (Bm++(xR++(uQ++(tQ++(r6++(q9++[])))))) gw j8 ⟨227,0,227,6⟩ ow)=_:=piece_app (segRun_of (NR w os)) k
 replace k:topRun treeTable pw w m0 annT (864+(295+(724+(519+(454+(869+(188+2))))))) _ (restOf (Ci++(Bm++(xR++(uQ++(tQ++(r6++(q9++[]))))))) gw j8 ⟨97,0,106,22⟩ ow)=_:=piece_app (segRun_of (NY w os)) k
 replace k:topRun treeTable pw w m0 annT (603+(864+(295+(724+(519+(454+(869+(188+2)))))))) _ (restOf (I5++(Ci++(Bm++(xR++(uQ++(tQ++(r6++(q9++[])))))))) gw j8 ⟨24,0,69,59⟩ ow)=_:=piece_app (segRun_of (ON w os)) k
 replace k:topRun treeTable pw w m0 annT (692+(603+(864+(295+(724+(519+(454+(869+(188+2))))))))) _ (restOf (JX++(I5++(Ci++(Bm++(xR++(uQ++(tQ++(r6++(q9++[]))))))))) gw j8 ⟨14,0,15,8⟩ ow)=_:=piece_app (segRun_of (Oj w os)) k
 replace k:topRun treeTable pw w m0 annT (898+(692+(603+(864+(295+(724+(519+(454+(869+(188+2)))))))))) _ (restOf (N2++(JX++(I5++(Ci++(Bm++(xR++(uQ++(tQ++(r6++(q9++[])))))))))) gw j8 ⟨0,0,0,0⟩ ow)=_:=piece_app (segRun_of (Ob w os)) k
 replace k:topRun treeTable pw w m0 annT (1+(898+(692+(603+(864+(295+(724+(519+(454+(869+(188+2))))))))))) _ ⟨denote treeTable (.body (behindTheImports pw) gw),j8,⟨0,0,0,0⟩,ow⟩=_:=piece_block (GP w os) k
 exact go_top (Mg w os) k
noncomputable abbrev runSteps:Nat:=(12+(1+(898+(692+(603+(864+(295+(724+(519+(454+(869+(188+2))))))))))))
noncomputable abbrev Ph:Nat:=1373
def KK (P:Params):Frag:=[(2,(boot_o_2 P)),(3,(LC P)),(20,F3),(21,CQ),(29,CZ),(35,Cv),(36,DE),(38,(EP P)),(39,FE),(51,(Dx P)),(52,D8),(63,(C6 P)),(64,EJ),(75,(EY P)),(76,C9),(87,(F8 P)),(88,Fj),(98,FA),(104,Fm),(105,o99),(111,qN),(112,o106),(118,qE),(119,o113),(125,qU),(126,o120),(132,qS),(133,o127),(139,qD),(140,o134),(146,qO),(147,o141),(149,(qW P)),(150,qJ),(162,tc),(168,sE),(169,o165),(175,sS),(176,o172),(182,tg),(183,o179),(189,tz),(190,o186),(192,(sd P)),(193,tP),(198,ub),(202,uc),(203,o199),(211,sy),(217,u6),(218,o214),(220,(rJ P)),(221,sD),(238,vw),(239,o237),(245,vx),(246,vk),(252,uJ),(253,o251),(259,vt),(260,wU),(266,uS),(267,wD),(273,uM),(274,o272),(280,wW),(281,o279),(287,uH),(288,o286),(294,vq),(295,o293),(301,vY),(302,x5),(308,wP),(309,vL),(315,vg),(316,vb),(322,wA),(323,o321),(329,vM),(330,o328),(336,uI),(337,uR),(343,x0),(344,o342),(350,wZ),(351,uL),(357,uq),(358,o356),(364,v6),(365,o363),(367,(vm P)),(368,vI),(385,yc),(386,o386),(392,zg),(393,o393),(399,yj),(400,xO),(402,(xp P)),(403,xP),(420,Bq),(421,o423),(427,BQ),(428,o430),(434,Ao),(435,o437),(441,Bx),(442,o444),(448,BU),(449,o451),(455,BD),(456,Ax),(462,B6),(463,AY),(469,AW),(470,o472),(474,As),(475,o477),(481,Bw),(482,BS),(488,AO),(489,o491),(495,Bf),(496,AT),(502,Am),(503,o505),(509,Bb),(510,AK),(516,B8),(517,Be),(523,Ah),(524,o526),(526,(Bt P)),(527,BB),(539,C3),(545,Cp),(546,o550),(552,CR),(553,o557),(557,E5),(558,o562),(564,Cl),(565,o569),(571,DZ),(572,o576),(576,Et),(577,o581),(583,EQ),(584,o588),(590,EL),(591,Ee),(593,(DF P)),(594,EA),(611,HA),(612,o618),(618,HE),(619,o625),(625,Ic),(626,o632),(632,H3),(633,o639),(641,GM),(647,G5),(648,HV),(650,(G3 P)),(651,Hj),(666,J2),(667,o675),(673,KN),(674,o682),(675,Kh),(681,Kv),(682,o690),(688,KH),(689,Jg),(693,Ko),(694,o702),(698,J9),(699,o707),(705,Kq),(706,o714),(712,JV),(713,J6),(719,IY),(720,Jf),(721,KG),(727,Kd),(728,o736),(734,JZ),(735,o743),(741,Kl),(742,o750),(748,JW),(749,o757),(755,Km),(756,o764),(762,La),(763,o771),(769,IV),(770,o778),(776,Jc),(777,o785),(783,K8),(784,JQ),(788,J5),(789,JF),(791,(KI P)),(792,Jw),(802,Kf),(803,o811),(807,L3),(808,o816),(814,M6),(815,o825),(821,LL),(822,o832),(828,ML),(829,o839),(835,NB),(836,o846),(840,MX),(841,o851),(845,LO),(846,o856)]
abbrev KA:List Addr:=[2,3,20,21,29,35,36,38,39,51,52,63,64,75,76,87,88,98,104,105,111,112,118,119,125,126,132,133,139,140,146,147,149,150,162,168,169,175,176,182,183,189,190,192,193,198,202,203,211,217,218,220,221,238,239,245,246,252,253,259,260,266,267,273,274,280,281,287,288,294,295,301,302,308,309,315,316,322,323,329,330,336,337,343,344,350,351,357,358,364,365,367,368,385,386,392,393,399,400,402,403,420,421,427,428,434,435,441,442,448,449,455,456,462,463,469,470,474,475,481,482,488,489,495,496,502,503,509,510,516,517,523,524,526,527,539,545,546,552,553,557,558,564,565,571,572,576,577,583,584,590,591,593,594,611,612,618,619,625,626,632,633,641,647,648,650,651,666,667,673,674,675,681,682,688,689,693,694,698,699,705,706,712,713,719,720,721,727,728,734,735,741,742,748,749,755,756,762,763,769,770,776,777,783,784,788,789,791,792,802,803,807,808,814,815,821,822,828,829,835,836,840,841,845,846]
end Hd
end
noncomputable def u3:Str:="block"
noncomputable def B7:Str:="channel"
noncomputable def iw:Str:="child"
noncomputable def N3:Str:="cwd"
noncomputable def gA:Str:="devices"
noncomputable def oS:Str:="files"
noncomputable def bD:Str:="first"
noncomputable def HJ:Str:="fresh"
noncomputable def rq:Str:="holders"
noncomputable def rR:Str:="ident"
noncomputable def tR:Str:="in"
noncomputable def Bg:Str:="in_call"
noncomputable def EO:Str:="is_out"
noncomputable def Md:Str:="job"
noncomputable def gz:Str:="journal"
noncomputable def pK:Str:="kernel"
noncomputable def EN:Str:="killed"
noncomputable def Cd:Str:="kind"
noncomputable def sT:Str:="last"
noncomputable def i8:Str:="left"
noncomputable def s8:Str:="made"
noncomputable def zK:Str:="major"
noncomputable def mN:Str:="most"
noncomputable def JY:Str:="name"
noncomputable def iI:Str:="next_pid"
noncomputable def Dr:Str:="node"
noncomputable def jH:Str:="nodes"
noncomputable def tM:Str:="open"
noncomputable def kx:Str:="out"
noncomputable def CV:Str:="parent"
noncomputable def fP:Str:="passed"
noncomputable def tK:Str:="paths"
noncomputable def NV:Str:="pc"
noncomputable def rh:Str:="pid"
noncomputable def fy:Str:="pipe"
noncomputable def jL:Str:="pipes"
noncomputable def lg:Str:="place"
noncomputable def l6:Str:="places"
noncomputable def fh:Str:="process"
noncomputable def xk:Str:="progress"
noncomputable def iC:Str:="read_count"
noncomputable def ju:Str:="read_open"
noncomputable def qh:Str:="readable"
noncomputable def Ib:Str:="ready"
noncomputable def nJ:Str:="registers"
noncomputable def jz:Str:="rest"
noncomputable def u7:Str:="ring"
noncomputable def jK:Str:="running"
noncomputable def eC:Str:="size"
noncomputable def zb:Str:="sleeping"
noncomputable def oR:Str:="slots"
noncomputable def Hn:Str:="space"
noncomputable def FV:Str:="state"
noncomputable def E0:Str:="status"
noncomputable def uh:Str:="table"
noncomputable def rO:Str:="ticks"
noncomputable def yg:Str:="told"
noncomputable def H7:Str:="turns"
noncomputable def pP:Str:="unused"
noncomputable def FX:Str:="wakes"
noncomputable def qt:Str:="writable"
noncomputable def hO:Str:="write_count"
noncomputable def iD:Str:="write_open"
noncomputable def qb:Str:="zombie"
noncomputable def ec:Str:=""
noncomputable def bQ:Addr:=150
noncomputable def gf:Addr:=105
noncomputable def cN:Addr:=112
noncomputable def fT:Addr:=119
noncomputable def dE:Addr:=126
noncomputable def dM:Addr:=133
noncomputable def eL:Addr:=140
noncomputable def eT:Addr:=147
noncomputable def bf:Addr:=193
noncomputable def dK:Addr:=169
noncomputable def cQ:Addr:=176
noncomputable def cu:Addr:=183
noncomputable def cp:Addr:=190
noncomputable def fW:Addr:=203
noncomputable def fH:Addr:=221
noncomputable def ff:Addr:=218
noncomputable def ae:Addr:=368
noncomputable def cO:Addr:=239
noncomputable def be:Addr:=253
noncomputable def bV:Addr:=274
noncomputable def bF:Addr:=281
noncomputable def aQ:Addr:=288
noncomputable def aZ:Addr:=295
noncomputable def aW:Addr:=323
noncomputable def b6:Addr:=330
noncomputable def bu:Addr:=344
noncomputable def bv:Addr:=358
noncomputable def bm:Addr:=365
noncomputable def aY:Addr:=403
noncomputable def dU:Addr:=386
noncomputable def dg:Addr:=393
noncomputable def aD:Addr:=527
noncomputable def dG:Addr:=421
noncomputable def cx:Addr:=428
noncomputable def bH:Addr:=435
noncomputable def cm:Addr:=442
noncomputable def bG:Addr:=449
noncomputable def cq:Addr:=470
noncomputable def cv:Addr:=475
noncomputable def cK:Addr:=489
noncomputable def cr:Addr:=503
noncomputable def bI:Addr:=524
noncomputable def am:Addr:=594
noncomputable def cZ:Addr:=546
noncomputable def bO:Addr:=553
noncomputable def cf:Addr:=558
noncomputable def ct:Addr:=565
noncomputable def cg:Addr:=572
noncomputable def bg:Addr:=577
noncomputable def c8:Addr:=584
noncomputable def aB:Addr:=651
noncomputable def eA:Addr:=612
noncomputable def cj:Addr:=619
noncomputable def c9:Addr:=626
noncomputable def ce:Addr:=633
noncomputable def aV:Addr:=792
noncomputable def fq:Addr:=667
noncomputable def ci:Addr:=674
noncomputable def fQ:Addr:=682
noncomputable def fY:Addr:=694
noncomputable def cL:Addr:=699
noncomputable def dX:Addr:=706
noncomputable def eW:Addr:=728
noncomputable def cI:Addr:=735
noncomputable def c7:Addr:=742
noncomputable def eQ:Addr:=749
noncomputable def eS:Addr:=756
noncomputable def dR:Addr:=763
noncomputable def dZ:Addr:=770
noncomputable def dB:Addr:=777
noncomputable def fN:Addr:=803
noncomputable def dN:Addr:=808
noncomputable def dY:Addr:=815
noncomputable def bZ:Addr:=822
noncomputable def eF:Addr:=829
noncomputable def d9:Addr:=836
noncomputable def fM:Addr:=841
noncomputable def vN:Addr:=846
section
inductive Id where
 |proc (i:Nat)|procD (i:Nat)|regs (i:Nat)|pipe (i:Nat)|pipeD (i:Nat)|ring (i:Nat)|file (i:Nat)|fileD (i:Nat)
 |desc (i:Nat)|descD (i:Nat)|slots (i:Nat)|row (i:Nat)
 |st (n:Nat)
deriving DecidableEq
noncomputable abbrev Id.table:Id:= .st 0
noncomputable abbrev Id.tableD:Id:= .st 1
noncomputable abbrev Id.places:Id:= .st 2
noncomputable abbrev Id.pt:Id:= .st 3
noncomputable abbrev Id.ptD:Id:= .st 4
noncomputable abbrev Id.ptP:Id:= .st 5
noncomputable abbrev Id.ft:Id:= .st 6
noncomputable abbrev Id.ftD:Id:= .st 7
noncomputable abbrev Id.openL:Id:= .st 8
noncomputable abbrev Id.dev:Id:= .st 9
noncomputable abbrev Id.dev2:Id:= .st 10
noncomputable abbrev Id.parts:Id:= .st 11
noncomputable abbrev Id.partsD:Id:= .st 12
noncomputable abbrev Id.calls:Id:= .st 13
noncomputable abbrev Id.callsD:Id:= .st 14
noncomputable abbrev Id.rowsL:Id:= .st 15
noncomputable abbrev Id.pipesL:Id:= .st 16
noncomputable abbrev Id.world:Id:= .st 17
noncomputable abbrev Id.toldL:Id:= .st 18
noncomputable abbrev Id.box:Id:= .st 19
noncomputable abbrev Id.cells:Id:= .st 20
inductive PS where|unused|fresh|ready|sleeping|zombie
deriving DecidableEq
noncomputable def PS.s:PS→Str
 | .unused=>pP
 | .fresh=>HJ
 | .ready=>Ib
 | .sleeping=>zb
 | .zombie=>qb
theorem PS.beq (a b:PS):(a.s==b.s)=decide (a=b):=by cases a<;>cases b<;>decide+kernel
inductive Ch where
 |none
 |pipe (a:Addr) (i:Nat) (side:Int)
 |child (a:Addr) (pid:Int)
noncomputable def Ch.ok (h:H):Ch→Prop
 | .none=>True
 | .pipe a i s=>h a=some (.tup [.str fy,.int i,.int s])
 | .child a p=>h a=some (.tup [.str iw,.int p])
inductive OK where
 |inst (C d:Addr)
 |attrs (kv:List (Str×V))
 |list (vs:List V)
 |barr (b:List UInt8)
 |idict (kv:List (Int×V))
noncomputable def OK.o:OK→O
 | .inst C d=> .inst C d
 | .attrs kv=> .attrs kv
 | .list vs=> .list vs
 | .barr b=> .barr b
 | .idict kv=> .idict kv
theorem OK.nt (x:OK)(vs:List V):x.o≠ .tup vs:=by cases x<;>nofun
inductive VI where
 |none|bool (b:Bool)|int (i:Int)|str (x:Str)|bytes (b:List UInt8)|ref (x:Id)|adr (a:Addr)
noncomputable def den (A:Id→Addr):VI→V
 | .none=> .none
 | .bool b=> .bool b
 | .int i=> .int i
 | .str x=> .str x
 | .bytes b=> .bytes b
 | .ref x=> .ref (A x)
 | .adr a=> .ref a
theorem Dt (A:Id→Addr)(v:VI):(den A v).nb=true:=by cases v<;>rfl
noncomputable def eY (f:Nat→Id):Option Nat→VI
 | .none=> .none
 | .some i=> .ref (f i)
noncomputable def Ch.i:Ch→VI
 | .none=> .none
 | .pipe a _ _=> .adr a
 | .child a _=> .adr a
noncomputable abbrev KV:=List (Str×VI)
noncomputable def dT (A:Id→Addr)(l:KV):List (Str×V):=l.map λq=>(q.1,den A q.2)
noncomputable def dL (A:Id→Addr)(l:List VI):List V:=l.map (den A)
structure ac where
 (size rc wc:Nat) (ring:List UInt8) (ro wo:Bool)
structure fX where
 (rd wr:Bool) (holders:Int) (pipe:Nat)
structure aa where
 (pid:Int) (state:PS) (parent:Option Nat) (files:Option Nat) (name:Str) (chan:Ch) (status progress:Int) (regs:Addr)
structure c6 where
 (last:Bool) (proc:Nat) (inn out:VI) (left rest:List UInt8) (size passed pid:Int)
structure ao where
 (out:List UInt8) (isOut:Bool) (told:List (Addr×Int×Int)) (toldA:Addr)
structure fU where
 (cells:List Int) (k:Nat) (s:Int)
noncomputable def aa.wPid (p:aa)(x:Int):aa:={p with pid:=x}
noncomputable def aa.wState (p:aa)(x:PS):aa:={p with state:=x}
noncomputable def aa.wParent (p:aa)(x:Option Nat):aa:={p with parent:=x}
noncomputable def aa.wFiles (p:aa)(x:Option Nat):aa:={p with files:=x}
noncomputable def aa.wName (p:aa)(x:Str):aa:={p with name:=x}
noncomputable def aa.wChan (p:aa)(x:Ch):aa:={p with chan:=x}
noncomputable def aa.wStat (p:aa)(x:Int):aa:={p with status:=x}
noncomputable def aa.wProg (p:aa)(x:Int):aa:={p with progress:=x}
noncomputable def aa.wRegs (p:aa)(x:Addr):aa:={p with regs:=x}
noncomputable def aa.rdy (p:aa):aa:=(p.wState .ready).wChan .none
noncomputable def ac.wRo (p:ac)(b:Bool):ac:={p with ro:=b}
noncomputable def ac.wWo (p:ac)(b:Bool):ac:={p with wo:=b}
noncomputable def ac.wRc (p:ac)(n:Nat):ac:={p with rc:=n}
noncomputable def ac.wWc (p:ac)(n:Nat):ac:={p with wc:=n}
noncomputable def ac.wRing (p:ac)(l:List UInt8):ac:={p with ring:=l}
noncomputable def fX.wHold (p:fX)(x:Int):fX:={p with holders:=x}
noncomputable def oJ (i:Nat)(p:ac):KV:=[(rR,.int i),(eC,.int p.size),(u7,.ref (.ring i)),(iC,.int p.rc),(hO,.int p.wc),(ju,.bool p.ro),(iD,.bool p.wo)]
noncomputable def vh (p:fX):KV:=[(Cd,.str fy),(qh,.bool p.rd),(qt,.bool p.wr),(rq,.int p.holders),(lg,.int 0),(fy,.ref (.pipe p.pipe)),(Dr,.none),(zK,.int 0)]
noncomputable def Od (i:Nat):KV:=[(mN,.int 6),(oR,.ref (.slots i))]
noncomputable def lD (i:Nat)(p:aa):KV:=[(lg,.int i),(rh,.int p.pid),(FV,.str p.state.s),(CV,eY .proc p.parent),(Hn,.none),(nJ,.adr p.regs),(NV,.int 0),(oS,eY .desc p.files),(N3,.none),(JY,.str p.name),(B7,p.chan.i),(EN,.bool false),(E0,.int p.status),(Bg,.none),(xk,.int p.progress),(yg,.none),(FX,.none),(Md,.none),(H7,.int 0)]
noncomputable def Fc (np:Int)(p:Option Nat):KV:=[(l6,.ref .places),(iI,.int np),(sT,.int 5),(bD,eY .proc p),(jK,.none)]
noncomputable def LE (ps:Int)(m:Nat):KV:=[(eC,.int ps),(s8,.int m),(jL,.ref .ptP)]
noncomputable def Ln (o:Addr):KV:=[(mN,.int 10),(jL,.ref .pt),(jH,.none),(gz,.none),(gA,.ref .dev),(u3,.int 16),(tM,.adr o)]
noncomputable def OY:KV:=[(uh,.ref .table),(oS,.ref .ft),(jH,.none),(tK,.none),(gz,.none),(gA,.ref .dev2),(rO,.int 0)]
noncomputable def OR:KV:=[(pK,.ref .parts)]
noncomputable def A4 (w:ao):KV:=[(kx,.bytes w.out),(EO,.bool w.isOut),(yg,.adr w.toldA)]
noncomputable def OM (p:c6):KV:=[(tR,p.inn),(kx,p.out),(i8,.bytes p.left),(eC,.int p.size),(fh,.ref (.proc p.proc)),(jz,.bytes p.rest),(fP,.int p.passed)]
noncomputable def mw (p:c6):KV:=match p.last with
 |false=>[(tR,p.inn),(kx,p.out),(i8,.bytes p.left),(eC,.int p.size),(fh,.ref (.proc p.proc)),(rh,.int p.pid),(jz,.bytes p.rest),(fP,.int p.passed)]
 |true=>[(fh,.ref (.proc p.proc)),(tR,p.inn),(kx,p.out),(i8,.bytes p.left),(eC,.int p.size),(jz,.bytes p.rest),(fP,.int p.passed)]
structure KS where
 on:Bool
 np:Nat
 nf:Nat
 nd:Nat
 nr:Nat
 psize:Int
 made:Nat
 pipe:Nat→ac
 file:Nat→fX
 desc:Nat→List (Option Nat)
 proc:Nat→aa
 row:Nat→c6
 tab:List Nat
 opn:List Nat
 openA:Addr
 nextPid:Int
 first:Option Nat
 world:Option ao
 lists:Option (List Nat)
 box:Option fU
noncomputable def KS.at (K:KS)(A:Id→Addr):Id→Addr
 | .regs i=>(K.proc i).regs
 | .st n=>if n=8 then K.openA else if n=18 then (K.world.elim 0 (·.toldA)) else A (.st n)
 |x=>A x
noncomputable def KS.slotsI (K:KS)(i:Nat):List VI:=(K.desc i).map (eY .file)
noncomputable def KS.sob1 (K:KS)(A:Id→Addr):List (Option OK):=[
  some (.inst aV (A .tableD)),
  some (.attrs (dT A (Fc K.nextPid K.first))),
  some (.list (dL A ((List.range 6).map λi=> .ref (.proc i)))),
  some (.inst bf (A .ptD)),
  some (.attrs (dT A (LE K.psize K.made))),
  some (.idict (K.tab.map λ(i:Nat)=>((i:Int),V.ref (A (.pipe i))))),
  some (.inst aD (A .ftD)),
  some (.attrs (dT A (Ln K.openA))),
  some (.list (dL A (K.opn.map λi=> .ref (.file i)))),
  some (.attrs []),
  some (.attrs []),
  some (.inst fH (A .partsD)),
  some (.attrs (dT A OY)),
  some (.inst ae (A .callsD)),
  some (.attrs (dT A OR))]
noncomputable def KS.sob2 (K:KS)(A:Id→Addr):List (Option OK):=
 [K.lists.map λ_=> .list (dL A ((List.range K.nr).map λi=> .ref (.row i))),
  K.lists.map λl=> .list (dL A (l.map λi=> .ref (.pipe i))),
  K.world.map λw=> .attrs (dT A (A4 w)),
  K.world.map λw=> .list (w.told.map λp=> .ref p.1),
  K.box.map λb=> .list [.ref (A .cells),.int b.k,.int b.s],
  K.box.map λb=> .list (b.cells.map V.int)]
noncomputable def KS.sob (K:KS)(A:Id→Addr):List (Option OK):=(if K.on=true then K.sob1 A else List.replicate 15 none)++K.sob2 A
noncomputable def KS.ob (K:KS)(A:Id→Addr):Id→Option OK
 | .proc i=>if K.on=true∧i<6 then some (.inst aB (A (.procD i))) else none
 | .procD i=>if K.on=true∧i<6 then some (.attrs (dT A (lD i (K.proc i)))) else none
 | .regs i=>if K.on=true∧i<6 then some (.list (List.replicate 32 (.int 0))) else none
 | .pipe i=>if i<K.np then some (.inst bQ (A (.pipeD i))) else none
 | .pipeD i=>if i<K.np then some (.attrs (dT A (oJ i (K.pipe i)))) else none
 | .ring i=>if i<K.np then some (.barr (K.pipe i).ring) else none
 | .file i=>if i<K.nf then some (.inst aY (A (.fileD i))) else none
 | .fileD i=>if i<K.nf then some (.attrs (dT A (vh (K.file i)))) else none
 | .desc i=>if i<K.nd then some (.inst am (A (.descD i))) else none
 | .descD i=>if i<K.nd then some (.attrs (dT A (Od i))) else none
 | .slots i=>if i<K.nd then some (.list (dL A (K.slotsI i))) else none
 | .row i=>if i<K.nr then some (.attrs (dT A (mw (K.row i)))) else none
 | .st n=>(K.sob A)[n]?.join
noncomputable def KS.obj (K:KS)(A:Id→Addr)(x:Id):Option O:=(K.ob A x).map OK.o
structure KS.Wf (K:KS):Prop where
 fpipe:∀i,i<K.nf→(K.file i).pipe<K.np
 slot:∀i,i<K.nd→∀f,some f∈K.desc i→f<K.nf
 six:∀i,i<K.nd→(K.desc i).length=6
 par:∀i,i<6→∀p,(K.proc i).parent=some p→p<6
 files:∀i,i<6→∀d,(K.proc i).files=some d→d<K.nd
 fst:∀p,K.first=some p→p<6
 tab:∀i∈K.tab,i<K.np
 tabN:K.tab.Nodup
 opn:∀i∈K.opn,i<K.nf
 ring:∀i,i<K.np→(K.pipe i).ring.length=(K.pipe i).size∧0<(K.pipe i).size∧(K.pipe i).size≤4
 rowp:∀i,i<K.nr→(K.row i).proc<6
structure Is (W:Wd)(A:Id→Addr)(K:KS)(X:H)(h:H):Prop where
 hW:W.K=Hd.KK W.w.params
 get:∀x o,K.obj A x=some o→h (K.at A x)=some o
 inj:∀x y,K.obj A x≠none→K.obj A y≠none→K.at A x=K.at A y→x=y
 oth:∀c o,X c=some o→h c=some o∧∀x,K.obj A x≠none→K.at A x≠c
 chan:∀i,i<6→(K.proc i).chan.ok h
 told:∀w,K.world=some w→∀p∈w.told,h p.1=some (.tup [.int p.2.1,.int p.2.2])
 wf:K.Wf
noncomputable def upd {α:Type}(f:Nat→α)(i:Nat)(a:α):Nat→α:=λj=>if j=i then a else f j
@[simp] theorem aj {α:Type}(f:Nat→α)(i:Nat)(a:α):upd f i a i=a:=if_pos rfl
theorem av {α:Type}{f:Nat→α}{i j:Nat}{a:α}(n:j≠i):upd f i a j=f j:=if_neg n
theorem pz {α:Type}(f:Nat→α)(i:Nat):upd f i (f i)=f:=by
 funext j;unfold upd;split
 ·rw [‹j=i›]
 ·rfl
theorem oQ {α:Type}(f:Nat→α)(i:Nat)(a b:α):upd (upd f i a) i b=upd f i b:=by funext j;unfold upd;split<;>rfl
noncomputable def KS.setProc (K:KS)(i:Nat)(p:aa):KS:={K with proc:=upd K.proc i p}
noncomputable def KS.setPipe (K:KS)(i:Nat)(p:ac):KS:={K with pipe:=upd K.pipe i p}
noncomputable def KS.setFile (K:KS)(i:Nat)(f:fX):KS:={K with file:=upd K.file i f}
noncomputable def KS.setDesc (K:KS)(i:Nat)(l:List (Option Nat)):KS:={K with desc:=upd K.desc i l}
noncomputable def KS.setRow (K:KS)(i:Nat)(r:c6):KS:={K with row:=upd K.row i r}
noncomputable def KS.setWorld (K:KS)(w:ao):KS:={K with world:=some w}
noncomputable def KS.setTab (K:KS)(np:Int)(f:Option Nat):KS:={K with nextPid:=np,first:=f}
section
variable {W:Wd}{A:Id→Addr}{K K':KS}{X h:H}
theorem GG (x:Id)(vs:List V)(e:K.obj A x=some (.tup vs)):False:=by
 obtain ⟨y, -,e⟩:=Option.map_eq_some_iff.mp e
 exact y.nt vs e
theorem Is.st (I:Is W A K X h)(on:K.on=true){n:Nat}{o:OK}(e:(K.sob1 A++K.sob2 A)[n]?.join=some o):h (K.at A (.st n))=some o.o:=
 I.get (.st n) _ (by
  show ((K.sob A)[n]?.join).map OK.o=_
  unfold KS.sob
  rw [if_pos on,e];rfl)
theorem Is.live (I:Is W A K X h){x:Id}(hx:K.obj A x≠none):∃o,h (K.at A x)=some o∧∀vs,o≠ .tup vs:=by
 cases q:K.obj A x with
 |none=>exact absurd q hx
 |some o=>exact ⟨o,I.get x o q,λvs e=>GG x vs (e▸q)⟩
theorem Ch.ok_put {c:Ch}{a:Addr}{o:O}(hc:c.ok h)(ha:∀vs,h a≠some (.tup vs)):c.ok (h.put a o):=by
 cases c with
 |none=>trivial
 |pipe b i s=>show (h.put a o) b=_;rw [H.put_ne];exact hc;rintro rfl;exact ha _ hc
 |child b p=>show (h.put a o) b=_;rw [H.put_ne];exact hc;rintro rfl;exact ha _ hc
theorem Is.change {mv:Prop}{x₀:Id}{r:Addr}{X':H}{xd:Id}{od:O}(I:Is W A K X h)(hd:K.obj A xd≠none)(kd:K'.obj A xd=some od)(ad:K'.at A xd=K.at A xd)
  (ko:∀y,y≠xd→(K'.obj A y=K.obj A y∧K'.at A y=K.at A y)∨(mv∧y=x₀∧K.obj A y≠none∧K'.at A y=r∧K'.obj A y=X r))
  (hX:∀c o,X' c=some o→X c=some o∧(mv→c≠r)) (hc:∀i,i<6→(K'.proc i).chan=(K.proc i).chan∨(K'.proc i).chan.ok X)
  (hw:∀w,K'.world=some w→∀p∈w.told,h p.1=some (.tup [.int p.2.1,.int p.2.2])) (wf:K'.Wf):Is W A K' X' (h.put (K.at A xd) od):=by
 obtain ⟨o0,h0,nt0⟩:=I.live hd
 have nt:∀vs,h (K.at A xd)≠some (.tup vs):=λvs e=>by rw [h0] at e;cases e;exact nt0 _ rfl
 have far:∀{o x},X r=some o→K.obj A x≠none→K.at A x≠r:=λq hx=>(I.oth r _ q).2 _ hx
 have sp:∀y,K'.obj A y≠none→K.obj A y≠none∧(K'.at A y=K.at A y∨(mv∧y=x₀∧K'.at A y=r∧∃o,X r=some o)):=λy q=>by
  by_cases e:y=xd
  ·subst e;exact ⟨hd,.inl ad⟩
  ·rcases ko y e with ⟨a,b⟩|⟨m,a,b,c,d⟩
   ·exact ⟨a▸q,.inl b⟩
   ·exact ⟨b,.inr ⟨m,a,c,Option.ne_none_iff_exists'.mp (d▸q)⟩⟩
 refine ⟨I.hW,λy o hy=> ?_,λy z hy hz e=> ?_,λc o q=> ?_,λi hi=> ?_,λw q p hp=> ?_,wf⟩
 ·by_cases e:y=xd
  ·subst e;rw [kd] at hy;cases hy;rw [ad];exact H.put_same ..
  ·rcases ko y e with ⟨a,b⟩|⟨-, -, -,b,c⟩
   ·rw [b,H.put_ne λq=>e (I.inj y xd (by rw [←a,hy];nofun) hd q)];exact I.get y o (a▸hy)
   ·rw [c] at hy;rw [b,H.put_ne λq=>far hy hd q.symm];exact (I.oth r o hy).1
 ·obtain ⟨ly,ey⟩:=sp y hy
  obtain ⟨lz,ez⟩:=sp z hz
  rcases ey with ey|⟨-,ey,ay,_,q⟩
  ·rcases ez with ez|⟨-, -,az,_,q⟩
   ·exact I.inj y z ly lz (by rw [←ey,←ez];exact e)
   ·exact absurd (ey.symm.trans (e.trans az)) (far q ly)
  ·rcases ez with ez|⟨-,ez, -⟩
   ·exact absurd (ez.symm.trans (e.symm.trans ay)) (far q lz)
   ·rw [ey,ez]
 ·obtain ⟨q1,q2⟩:=hX c o q
  obtain ⟨a,b⟩:=I.oth c o q1
  refine ⟨by rw [H.put_ne λe=>b xd hd e.symm];exact a,λy hy=> ?_⟩
  obtain ⟨ly,ey⟩:=sp y hy
  rcases ey with ey|⟨m, -,ay, -⟩
  ·rw [ey];exact b y ly
  ·rw [ay];exact (q2 m).symm
 ·refine Ch.ok_put ?_ nt
  rcases hc i hi with q|q
  ·rw [q];exact I.chan i hi
  ·revert q
   cases (K'.proc i).chan with
   |none=>exact λ_=>trivial
   |pipe a i s=>exact λq=>(I.oth _ _ q).1
   |child a p=>exact λq=>(I.oth _ _ q).1
 ·rw [H.put_ne λe=>nt _ (e▸hw w q p hp)];exact hw w q p hp
theorem Is.put {xd:Id}{od:O}(I:Is W A K X h)(hd:K.obj A xd≠none)(kd:K'.obj A xd=some od)(ad:K'.at A xd=K.at A xd)(ko:∀y,y≠xd→K'.obj A y=K.obj A y∧K'.at A y=K.at A y)
  (hc:∀i,i<6→(K'.proc i).chan=(K.proc i).chan∨(K'.proc i).chan.ok X)
  (hw:∀w,K'.world=some w→∀p∈w.told,h p.1=some (.tup [.int p.2.1,.int p.2.2])) (wf:K'.Wf):Is W A K' X (h.put (K.at A xd) od):=
 I.change (mv:=False) (x₀:=xd) (r:=0) hd kd ad (λy q=> .inl (ko y q)) (λc o q=>⟨q,False.elim⟩) hc hw wf
theorem Is.xnone (I:Is W A K X h){c:Addr}(hc:h c=none):X c=none:=by
 cases q:X c with
 |none=>rfl
 |some o=>rw [(I.oth c o q).1] at hc;cases hc
theorem Is.new {c:Addr}{o:O}(I:Is W A K X h)(hc:h c=none):Is W A K (X.put c o) (h.put c o):=by
 have nn:∀{a o'},h a=some o'→a≠c:=λq e=>by rw [e,hc] at q;cases q
 refine ⟨I.hW,λy o' hy=> ?_,I.inj,λa o' ha=> ?_,λi hi=>Ch.ok_put (I.chan i hi) (λvs e=>by rw [hc] at e;cases e),λw hw p hp=> ?_,I.wf⟩
 ·rw [H.put_ne (nn (I.get y o' hy))];exact I.get y o' hy
 ·by_cases e:a=c
  ·subst e;rw [H.put_same] at ha⊢;exact ⟨ha,λx hx=>by obtain ⟨_,q,_⟩:=I.live hx;exact nn q⟩
  ·rw [H.put_ne e] at ha⊢;exact I.oth a o' ha
 ·rw [H.put_ne (nn (I.told w hw p hp))];exact I.told w hw p hp
theorem Is.side {c:Addr}{o o₀:O}(I:Is W A K X h)(hc:X c=some o₀)(ht:∀vs,o₀≠ .tup vs):Is W A K (X.put c o) (h.put c o):=by
 obtain ⟨h0,live⟩:=I.oth c o₀ hc
 have nt:∀vs,h c≠some (.tup vs):=λvs e=>by rw [h0] at e;cases e;exact ht _ rfl
 refine ⟨I.hW,λy o' hy=> ?_,I.inj,λa o' ha=> ?_,λi hi=>Ch.ok_put (I.chan i hi) nt,λw hw p hp=> ?_,I.wf⟩
 ·rw [H.put_ne (live y (by rw [hy];nofun))];exact I.get y o' hy
 ·by_cases e:a=c
  ·subst e;rw [H.put_same] at ha⊢;exact ⟨ha,live⟩
  ·rw [H.put_ne e] at ha⊢;exact I.oth a o' ha
 ·rw [H.put_ne (λq=>nt _ (q▸I.told w hw p hp))];exact I.told w hw p hp
theorem Is.drop {X':H}(I:Is W A K X h)(l:∀c o,X' c=some o→X c=some o):Is W A K X' h:=⟨I.hW,I.get,I.inj,λc o q=>I.oth c o (l c o q),I.chan,I.told,I.wf⟩
end
end
section
theorem an {a b:Bool}(h:(a&&b)=true):a=true∧b=true:=by revert h;cases a<;>cases b<;>(intro h;first|exact ⟨rfl,rfl⟩|cases h)
structure Cn where
 W:Wd
 j:Nat
 sc:Scope
 fn:Bool
structure nY (c:Cn)(B:Around)(env:Env):Prop where
 eo:vo env c.sc c.fn
 room:gJ (11*c.j+10) B
theorem nY.kind {c:Cn}{B:Around}{env:Env}(o:nY c B env){n:Str}:env.kindOf n=c.sc.names.lookup n:=by unfold Env.kindOf;rw [o.eo.scope]
theorem nY.fk {c:Cn}{B:Around}{env:Env}(o:nY c B env):env.scope.kind= .function:=by rw [o.eo.scope];exact o.eo.kind
noncomputable def gx (e:Expr):Bool:=Nat.beq e.ctorIdx 16
noncomputable def cy (e:Expr):Bool:=Nat.beq e.ctorIdx 22||Nat.beq e.ctorIdx 26
noncomputable def jr (e:Expr):Bool:=Nat.beq e.ctorIdx 7
noncomputable def H2:Option NameKind→Bool
 |some .local=>true
 |some .cell=>true
 |some .free=>true
 |_=>false
noncomputable def qA (K:Frag)(id:Str):Option V:=match nsIn K mainGlobals id with
 |some (some v)=>some (er v)
 |some none=>if id==("__name__":Str) then none else (bootBuiltins id).map er
 |none=>none
theorem cH (A:Id→Addr)(n:Str):∀l:KV,(dT A l).lookup n=(l.lookup n).map (den A)
 |[]=>rfl
 |(k,v)::r=>by
  show (match n==k with|true=>some (den A v)|false=>(dT A r).lookup n)=_
  rw [List.lookup_cons,cH A n r]
  cases n==k<;>rfl
theorem gO {f:Str×VI→Bool}{n:Str}{v:VI}:∀{l:KV},l.all f=true→l.lookup n=some v→f (n,v)=true
 |[],_,q=>nomatch q
 |(k,u)::r,a,q=>by
  rw [List.all_cons] at a
  have a:=an a
  rw [List.lookup_cons] at q
  cases e:n==k with
  |true=>rw [e] at q;cases q;rw [eq_of_beq e];exact a.1
  |false=>rw [e] at q;exact gO a.2 q
theorem cU {p:Prop} [Decidable p] {o:OK}{k:Option OK}(hp:p):Option.map OK.o (if p then some o else k)=some o.o:=congrArg (Option.map OK.o) (if_pos hp)
noncomputable def yq (P:Params)(C:Addr)(kv:KV):Bool:=kv.all λq=>yx (Hd.KK P) C q.1&&Ez (Hd.KK P) C q.1
noncomputable def OI (W:Wd)(A:Id→Addr)(K:KS)(X:H)(u:VI)(C d:Addr)(kv:KV):Prop:=∀⦃h⦄,Is W A K X h→∃a,den A u= .ref a∧h a=some (.inst C d)∧h d=some (.attrs (dT A kv))∧yq W.w.params C kv=true
theorem bP (P:Params)(i:Nat)(p:aa):yq P aB (lD i p)=true:=by kernel_rfl
theorem h9 (P:Params)(i:Nat)(p:ac):yq P bQ (oJ i p)=true:=by kernel_rfl
theorem fJ (P:Params)(p:fX):yq P aY (vh p)=true:=by kernel_rfl
theorem u5 (P:Params)(i:Nat):yq P am (Od i)=true:=by kernel_rfl
theorem r8 (P:Params)(n:Int)(f:Option Nat):yq P aV (Fc n f)=true:=by kernel_rfl
theorem zZ (P:Params)(n:Int)(f:Nat):yq P bf (LE n f)=true:=by kernel_rfl
theorem n7 (P:Params)(a:Addr):yq P aD (Ln a)=true:=by kernel_rfl
theorem nu (P:Params):yq P fH OY=true:=by kernel_rfl
theorem Ir (P:Params):yq P ae OR=true:=by kernel_rfl
section
variable {W:Wd}{A:Id→Addr}{X:H}{K:KS}{i:Nat}
theorem bB {p:aa}(on:K.on=true)(hi:i<6)(e:K.proc i=p):OI W A K X (.ref (.proc i)) aB (A (.procD i)) (lD i p):=λh I=>⟨_,rfl,I.get (.proc i) _ (cU ⟨on,hi⟩),e▸I.get (.procD i) _ (cU ⟨on,hi⟩),bP ..⟩
theorem cC {p:ac}(hi:i<K.np)(e:K.pipe i=p):OI W A K X (.ref (.pipe i)) bQ (A (.pipeD i)) (oJ i p):=λh I=>⟨_,rfl,I.get (.pipe i) _ (cU hi),e▸I.get (.pipeD i) _ (cU hi),h9 ..⟩
theorem gB {p:fX}(hi:i<K.nf)(e:K.file i=p):OI W A K X (.ref (.file i)) aY (A (.fileD i)) (vh p):=λh I=>⟨_,rfl,I.get (.file i) _ (cU hi),e▸I.get (.fileD i) _ (cU hi),fJ ..⟩
theorem fD (hi:i<K.nd):OI W A K X (.ref (.desc i)) am (A (.descD i)) (Od i):=λh I=>⟨_,rfl,I.get (.desc i) _ (cU hi),I.get (.descD i) _ (cU hi),u5 ..⟩
theorem eZ (on:K.on=true):OI W A K X (.ref .table) aV (A .tableD) (Fc K.nextPid K.first):=λh I=>⟨_,rfl,I.st on (n:=0) rfl,I.st on (n:=1) rfl,r8 ..⟩
theorem BC (on:K.on=true):OI W A K X (.ref .pt) bf (A .ptD) (LE K.psize K.made):=λh I=>⟨_,rfl,I.st on (n:=3) rfl,I.st on (n:=4) rfl,zZ ..⟩
theorem ma (on:K.on=true):OI W A K X (.ref .ft) aD (A .ftD) (Ln K.openA):=λh I=>⟨_,rfl,I.st on (n:=6) rfl,I.st on (n:=7) rfl,n7 ..⟩
theorem Jq (on:K.on=true):OI W A K X (.ref .parts) fH (A .partsD) OY:=λh I=>⟨_,rfl,I.st on (n:=11) rfl,I.st on (n:=12) rfl,nu ..⟩
theorem j4 (on:K.on=true):OI W A K X (.ref .calls) ae (A .callsD) OR:=λh I=>⟨_,rfl,I.st on (n:=13) rfl,I.st on (n:=14) rfl,Ir ..⟩
end
noncomputable def GV (c:Cn)(e:Expr)(ρ:KV)(A:Id→Addr)(K:KS)(X:H)(u:VI):Prop:=
 ∀⦃B env h⦄ ⦃Q:Value→H→Prop⦄,nY c B env→Is c.W A K X h→(∀v h',er v=den A u→Is c.W A K X h'→Q v h')→EW c.W B env (dT A ρ) (eval e env) h Q
noncomputable def jo (c:Cn)(e:Expr)(ρ:KV)(A:Id→Addr)(K:KS)(X:H)(t:Bool):Prop:=
 ∀⦃B env h⦄ ⦃Q:Bool→H→Prop⦄,nY c B env→Is c.W A K X h→(∀h',Is c.W A K X h'→Q t h')→EW c.W B env (dT A ρ) (isTrue e env (eval e env)) h Q
noncomputable def Ct (c:Cn)(l:List Expr)(ρ:KV)(A:Id→Addr)(K:KS)(X:H)(us:List VI):Prop:=
 (∀env,(starEach l env).any (·.1)=false)∧∀⦃B env h⦄ ⦃Q:List Value→H→Prop⦄ pos,nY c B env→Is c.W A K X h→(∀vs h',vs.map er=dL A us→Is c.W A K X h'→Q vs h')→EW c.W B env (dT A ρ) (spliced (backTo pos (starEach l env))) h Q
section
variable {c:Cn}{ρ:KV}{A:Id→Addr}{K:KS}{X:H}{u v x y:VI}{us:List VI}{e a b:Expr}{p:Pos}{l:List Expr}
theorem aL {id:Str}(kd:H2 (c.sc.names.lookup id)=true)(hv:ρ.lookup id=some u)(n1:(id==("__classdict__":Str))=false)(n2:(id==("__debug__":Str))=false):GV c (.Name id p) ρ A K X u:=λB env h Q o I q=>by
 refine EW.eq (arm_eval_Name ..) (EW.ba ?_)
 rw [n2]
 have hx:(dT A ρ).lookup id=some (den A u):=by simp only [cH,hv];rfl
 have fin:∀v,er v=den A u→Q v h:=λv ev=>q v h ev I
 rw [←o.kind] at kd
 cases k:env.kindOf id with
 |none=>rw [k] at kd;cases kd
 |some k'=>
  rw [k] at kd
  cases k' with
  |«local»=>exact wM o.fk k hx fin
  |cell=>exact oP o.fk (.inl k) hx n1 fin
  |free=>exact oP o.fk (.inr k) hx n1 fin
  |_=>cases kd
set_option tactic.hygienic true in
theorem yp {id:Str}{z:V}{B:Around}{env:Env}{h:H}{vars:List (Str×V)}{Q:Value→H→Prop}(o:nY c B env)(hk:c.sc.names.lookup id=some .globalImplicit)(hg:qA c.W.K id=some z)(n2:(id==("__debug__":Str))=false)(k:∀v,er v=z→Q v h):
  EW c.W B env vars (eval (.Name id p) env) h Q:=by
 refine EW.eq (arm_eval_Name ..) (EW.ba ?_)
 rw [n2]
 have kd:env.kindOf id=some .globalImplicit:=o.kind.trans hk
 refine EW.eq (show loadName env id=_ from loadName_read o.fk kd) ?_
 unfold qA at hg
 split at hg
 ·rename_i v e;exact BE o.fk kd o.eo.globals e (k _ (Option.some.inj hg))
 ·rename_i e
  cases q:id==("__name__":Str) with
  |true=>rw [q] at hg;cases hg
  |false=>
   rw [q] at hg
   obtain ⟨v,hv,ev⟩:=Option.map_eq_some_iff.mp hg
   exact xM o.fk kd o.eo.globals o.eo.builtins e hv (beq_eq_false_iff_ne.mp q) (k v ev)
 ·cases hg
theorem Oh {id:Str}(hk:c.sc.names.lookup id=some .globalImplicit)(n2:(id==("__debug__":Str))=false)(hg:∀P,qA (Hd.KK P) id=some (den A u)):GV c (.Name id p) ρ A K X u:=λB env h Q o I q=>
 yp o hk (by rw [I.hW];exact hg _) n2 λv ev=>q v h ev I
theorem Dw {k:Const}{n:Nat}(hc:match sj k with| .other=>False|_=>True)(e:sj k=den A u):GV c (.Constant k n p) ρ A K X u:=λB env h Q o I q=>
 EW.eq (arm_eval_Constant ..) (ve hc λv hv=>q v h (hv.trans e) I)
theorem qw {o:Expr}{a:Str}{env:Env}{w:Sem Value}(k:gx o=false):attributeBase o a env w=w:=by
 cases o<;>first|rfl|cases k
theorem E1 {n:Str}{C d:Addr}{kv:KV}{w:VI}(k:GV c e ρ A K X w)(h0:∀env w,attributeBase e n env w=w)(oi:OI c.W A K X w C d kv)(hl:kv.lookup n=some u):GV c (.Attribute e n p) ρ A K X u:=λB env h Q o I q=>by
 refine EW.eq (arm_eval_Attribute ..) ?_
 rw [h0]
 refine EW.bind (k o I λv h' ev I'=>EW.ba ?_)
 refine bq λzq=> ?_
 obtain ⟨a,ea,h1,h2,ok⟩:=oi I'
 apply zq;clear zq
 rw [ah (ev.trans ea)]
 have l':=cH A n kv
 simp only [hl] at l'
 exact EW.bind (EW.hold (EW.lift (pu (Q:=λu h''=>EW c.W B env (dT A ρ) (letTemporaryGo e (.ref a) u>>=λ_=>pure u) h'' Q) h1 h2 (by rw [I'.hW];exact (an (gO ok hl)).1) l' (Dt A u) λu hu=>EW.bl (fx (EW.pure (q u _ hu I'))))))
theorem bU {n:Str}{C d:Addr}{kv:KV}{w:VI}(k:GV c e ρ A K X w)(h0:gx e=false)(oi:OI c.W A K X w C d kv)(hl:kv.lookup n=some u):GV c (.Attribute e n p) ρ A K X u:=E1 k (λ_ _=>qw h0) oi hl
noncomputable def G6 (op:Operator)(x y v:VI):Prop:=∀⦃W:Wd⦄ ⦃B:Around⦄ ⦃A:Id→Addr⦄ ⦃h:H⦄ ⦃u w:Value⦄ ⦃Q:Value→H→Prop⦄,er u=den A x→er w=den A y→(∀z,er z=den A v→Q z h)→TW W B (binaryOp op u w) h Q
theorem gG {i j:Int}:G6 .Add (.int i) (.int j) (.int (i+j)):=λW B A h u w Q e1 e2 q=>Kk e1 e2 q
theorem zt {i j:List UInt8}(g:i.length+j.length≤100000):G6 .Add (.bytes i) (.bytes j) (.bytes (i++j)):=λW B A h u w Q e1 e2 q=>GY g e1 e2 q
theorem s9 {i j:Int}:G6 .Sub (.int i) (.int j) (.int (i - j)):=λW B A h u w Q e1 e2 q=>L2 e1 e2 q
theorem DB {i j:Int}(g:i.natAbs≤1000):G6 .Mult (.int i) (.int j) (.int (i*j)):=λW B A h u w Q e1 e2 q=>L6 g e1 e2 q
theorem tn {i j:Int}(g:j≠0):G6 .Mod (.int i) (.int j) (.int (i.fmod j)):=λW B A h u w Q e1 e2 q=>JO g e1 e2 q
theorem E8 {i j:Int}(g:j≠0∧j.natAbs≤1000):G6 .FloorDiv (.int i) (.int j) (.int (i.fdiv j)):=λW B A h u w Q e1 e2 q=>Kr g.1 g.2 e1 e2 q
theorem j0 {op:Operator}(k1:GV c a ρ A K X x)(k2:GV c b ρ A K X y)(t:G6 op x y v):GV c (.BinOp a op b p) ρ A K X v:=λB env h Q o I q=>
 EW.eq (arm_eval_BinOp ..) (EW.bind (k1 o I λv h' ev I'=>EW.bind (EW.hold (k2 o I' λu h'' eu I''=>EW.ba (bc (EW.lift (t ev eu λz ez=>q z h'' ez I'')))))))
theorem Ap {t:Bool}(he:∀env,isTrue e env (eval e env)=(do let v←eval e env;standAt e.pos;holding [v] (truthy v)))(k:GV c e ρ A K X (.bool t)):jo c e ρ A K X t:=λB env h Q o I q=>
 EW.eq (he env) (EW.bind (k o I λv h' ev I'=>EW.ba (EW.hold (EW.lift (dW ev (q h' I'))))))
theorem MQ {t t':Bool}(k:jo c e ρ A K X t)(e':(!t)=t'):jo c (.UnaryOp .Not e p) ρ A K X t':=λB env h Q o I q=>
 EW.eq (arm_isTrue_UnaryOp ..) (EW.bind (k o I λh' I'=>EW.pure (e'▸q h' I')))
noncomputable def mx (W:Wd)(A:Id→Addr)(K:KS)(X:H)(op:CmpOp)(x y:VI)(t:Bool):Prop:=∀⦃B:Around⦄ ⦃j:Nat⦄ ⦃h:H⦄ ⦃u w:Value⦄ ⦃Q:Value→H→Prop⦄,gJ (j+10) B→Is W A K X h→er u=den A x→er w=den A y→Q (.bool t) h→TW W B (compareOp op u w) h Q
theorem eN {op:CmpOp}{t:Sem Value}(q:jr e=false):markedBehindIn op e t=t:=by
 have:behindInMarks op e=false:=by cases e<;>first|rfl|(cases q)
 unfold markedBehindIn
 rw [this]
theorem b8 {op:CmpOp}{t:Bool}(k1:GV c a ρ A K X x)(k2:GV c b ρ A K X y)(ns:jr b=false)(m:mx c.W A K X op x y t):jo c (.Compare a [op] [b] p) ρ A K X t:=λB env h Q o I q=>by
 refine EW.eq (arm_isTrue_Compare ..) (EW.bind (k1 o I λv h' ev I'=> ?_))
 show EW c.W B env (dT A ρ) (testChain p v [op] [markedBehindIn op b (eval b env)]) h' _
 rw [eN ns]
 exact EW.bind (EW.hold (k2 o I' λu h'' eu I''=>EW.ba (EW.bind (bc (EW.lift (m o.room I'' ev eu (EW.hold (EW.lift (dW rfl (q h'' I''))))))))))
theorem E3 {op:CmpOp}{t:Bool}(k1:GV c a ρ A K X x)(k2:GV c b ρ A K X y)(ns:jr b=false)(m:mx c.W A K X op x y t):GV c (.Compare a [op] [b] p) ρ A K X (.bool t):=λB env h Q o I q=>by
 refine EW.eq (arm_eval_Compare ..) (EW.bind (k1 o I λv h' ev I'=> ?_))
 show EW c.W B env (dT A ρ) (compareChain p v [op] [markedBehindIn op b (eval b env)]) h' _
 rw [eN ns]
 exact EW.bind (EW.hold (k2 o I' λu h'' eu I''=>EW.ba (bc (EW.lift (m o.room I'' ev eu (q _ h'' rfl I''))))))
section
variable {W:Wd}
theorem iu {i j:Int}:mx W A K X .Eq (.int i) (.int j) (i==j):=λB k h u w Q r I e1 e2 q=>rH r (.int i j) e1 e2 q
theorem pq {i j:Str}:mx W A K X .Eq (.str i) (.str j) (i==j):=λB k h u w Q r I e1 e2 q=>rH r (.str i j) e1 e2 q
theorem KO {i j:List UInt8}:mx W A K X .Eq (.bytes i) (.bytes j) (i==j):=λB k h u w Q r I e1 e2 q=>rH r (.bytes i j) e1 e2 q
theorem DS {i j:Int}:mx W A K X .NotEq (.int i) (.int j) (i !=j):=λB k h u w Q r I e1 e2 q=>zL r (.int i j) e1 e2 q
theorem Cu {i j:Str}:mx W A K X .NotEq (.str i) (.str j) (i !=j):=λB k h u w Q r I e1 e2 q=>zL r (.str i j) e1 e2 q
theorem qu {i j:List UInt8}:mx W A K X .NotEq (.bytes i) (.bytes j) (i !=j):=λB k h u w Q r I e1 e2 q=>zL r (.bytes i j) e1 e2 q
theorem iW {i j:Int}:mx W A K X .Lt (.int i) (.int j) (decide (i<j)):=λB k h u w Q r I e1 e2 q=>LJ e1 e2 q
theorem IF {i j:Int}:mx W A K X .LtE (.int i) (.int j) (decide (i≤j)):=λB k h u w Q r I e1 e2 q=>Ng e1 e2 q
theorem wO {i j:Int}:mx W A K X .Gt (.int i) (.int j) (decide (j<i)):=λB k h u w Q r I e1 e2 q=>LF e1 e2 q
theorem Mv {i j:Int}:mx W A K X .GtE (.int i) (.int j) (decide (j≤i)):=λB k h u w Q r I e1 e2 q=>Nd e1 e2 q
noncomputable def AS:VI→Option Bool
 | .none=>some true
 | .int _=>some false
 | .bytes _=>some false
 | .ref _=>some false
 | .adr _=>some false
 |_=>none
theorem Ea {h:H}{t:Bool}(e:AS x=some t):Df h (den A x) .none t:=by cases x<;>cases e<;>constructor
theorem gF {t:Bool}(e:AS x=some t):mx W A K X .Is x .none t:=λB k h u w Q r I e1 e2 q=>Ev (Ea e) e1 e2 q
theorem gc {t:Bool}(e:AS x=some t):mx W A K X .IsNot x .none (!t):=λB k h u w Q r I e1 e2 q=>uD (Ea e) e1 e2 q
end
theorem gY {op:BoolOp}{env:Env}{B:Around}{W:Wd}{h:H}{vars:List (Str×V)}{Q:Bool→H→Prop}(k:EW W B env vars (isTrue e env (eval e env)) h Q):EW W B env vars (allTrue op [e] env) h Q:=by
 refine EW.eq (arm_allTrue_cons ..) (EW.bind (k.mono λb h' q=> ?_))
 cases op<;>cases b<;>exact EW.pure q
theorem Ck {r:List Expr}(k:jo c a ρ A K X false):jo c (.BoolOp .And (a::r) p) ρ A K X false:=λB env h Q o I q=>
 EW.eq ((arm_isTrue_BoolOp ..).trans (arm_allTrue_cons ..)) (EW.bind (k o I λh' I'=>EW.pure (q h' I')))
theorem It {t:Bool}(k:jo c a ρ A K X true)(k2:jo c b ρ A K X t):jo c (.BoolOp .And [a,b] p) ρ A K X t:=λB env h Q o I q=>
 EW.eq ((arm_isTrue_BoolOp ..).trans (arm_allTrue_cons ..)) (EW.bind (k o I λh' I'=>gY (k2 o I' q)))
theorem BZ {t:Bool}(k:jo c a ρ A K X false)(k2:jo c b ρ A K X t):jo c (.BoolOp .Or [a,b] p) ρ A K X t:=λB env h Q o I q=>
 EW.eq ((arm_isTrue_BoolOp ..).trans (arm_allTrue_cons ..)) (EW.bind (k o I λh' I'=>gY (k2 o I' q)))
theorem Nz {t:Bool}{r:List Expr}{d:Expr}(k:jo c a ρ A K X true)(k2:jo c (.BoolOp .And (b::d::r) p) ρ A K X t):jo c (.BoolOp .And (a::b::d::r) p) ρ A K X t:=λB env h Q o I q=>
 EW.eq ((arm_isTrue_BoolOp ..).trans (arm_allTrue_cons ..)) (EW.bind (k o I λh' I'=>k2 o I' q))
theorem CX (k:jo c e ρ A K X true)(k1:GV c a ρ A K X u):GV c (.IfExp e a b p) ρ A K X u:=λB env h Q o I q=>EW.eq (arm_eval_IfExp ..) (EW.bind (k o I λh' I'=>k1 o I' q))
theorem Iv (k:jo c e ρ A K X false)(k1:GV c b ρ A K X u):GV c (.IfExp e a b p) ρ A K X u:=λB env h Q o I q=>EW.eq (arm_eval_IfExp ..) (EW.bind (k o I λh' I'=>k1 o I' q))
theorem cD {env:Env}{es:List Expr}(ns:cy e=false):starEach (e::es) env=(false,eval e env)::starEach es env:=by cases e<;>first|rfl|cases ns
theorem aF {env:Env}(q:∀env,(starEach l env).any (·.1)=false):(backTo p (starEach l env)).any (·.1)=false:=by
 unfold backTo
 rw [List.any_map]
 exact q env
theorem aK:Ct c [] ρ A K X []:=⟨λ_=>rfl,λB env h Q pos o I q=>cJ (q [] h rfl I)⟩
theorem af {e:Expr}{l:List Expr}(ns:cy e=false)(k:∀env,(starEach l env).any (·.1)=false):∀env,(starEach (e::l) env).any (·.1)=false:=λenv=>by rw [cD ns,List.any_cons,k env];rfl
theorem aw (k1:GV c e ρ A K X u)(ns:cy e=false)(k2:Ct c l ρ A K X us):Ct c (e::l) ρ A K X (u::us):=⟨af ns k2.1,λB env h Q pos o I q=>by
 rw [cD ns]
 exact bT (k1 o I λv h' ev I'=>k2.2 pos o I' λvs h'' es I''=>q _ h'' (by simp only [List.map_cons,ev,es];rfl) I'')⟩
noncomputable def g8 (W:Wd)(A:Id→Addr)(K:KS)(X:H)(u:VI)(us:List VI):Prop:=∀⦃h⦄,Is W A K X h→∃a,den A u= .ref a∧h a=some (.list (dL A us))
noncomputable def BM (W:Wd)(A:Id→Addr)(K:KS)(X:H)(u:VI)(b:List UInt8):Prop:=∀⦃h⦄,Is W A K X h→∃a,den A u= .ref a∧h a=some (.barr b)
noncomputable def DA (W:Wd)(A:Id→Addr)(K:KS)(X:H)(u:VI)(n:Str)(v:VI):Prop:=∀⦃h⦄,Is W A K X h→∃a l,den A u= .ref a∧h a=some (.attrs l)∧l.lookup n=some (den A v)
section
variable {W:Wd}
theorem x6 {x:Id}{us:List VI}(e:K.ob A x=some (.list (dL A us)))(a:K.at A x=A x):g8 W A K X (.ref x) us:=λh I=>⟨_,rfl,a▸I.get x _ (congrArg (Option.map OK.o) e)⟩
theorem bR {c:Addr}{us:List VI}(e:X c=some (.list (dL A us))):g8 W A K X (.adr c) us:=λh I=>⟨_,rfl,(I.oth c _ e).1⟩
theorem oN (on:K.on=true):g8 W A K X (.adr K.openA) (K.opn.map λi=> .ref (.file i)):=λh I=>⟨_,rfl,I.st on (n:=8) rfl⟩
theorem ia (on:K.on=true):g8 W A K X (.ref .places) ((List.range 6).map λi=> .ref (.proc i)):=λh I=>⟨_,rfl,I.st on (n:=2) rfl⟩
theorem m6 {i:Nat}(hi:i<K.nd):g8 W A K X (.ref (.slots i)) (K.slotsI i):=x6 (x:= .slots i) (if_pos hi) rfl
theorem iK {K:KS}{A:Id→Addr}{n:Nat}{o:Option OK}(e:(K.sob2 A)[n]?=some o):K.ob A (.st (15+n))=o:=by
 show ((K.sob A)[15+n]?).join=o
 unfold KS.sob
 cases K.on
 ·rw [List.getElem?_append_right (Nat.le_add_right 15 n),show 15+n - (List.length (if false=true then K.sob1 A else List.replicate 15 none))=n from Nat.add_sub_cancel_left ..,e];rfl
 ·rw [List.getElem?_append_right (Nat.le_add_right 15 n),show 15+n - (List.length (if true=true then K.sob1 A else List.replicate 15 none))=n from Nat.add_sub_cancel_left ..,e];rfl
theorem mG {b:fU}(e:K.box=some b):g8 W A K X (.ref .box) [.ref .cells,.int b.k,.int b.s]:=x6 (iK (n:=4) (by unfold KS.sob2;rw [e];rfl)) rfl
theorem wT {b:fU}(e:K.box=some b):g8 W A K X (.ref .cells) (b.cells.map .int):=x6 (iK (n:=5) (by unfold KS.sob2;rw [e,show dL A (b.cells.map .int)=b.cells.map V.int from List.map_map ..];rfl)) rfl
theorem lK {l:List Nat}(e:K.lists=some l):g8 W A K X (.ref .rowsL) ((List.range K.nr).map λi=> .ref (.row i)):=x6 (iK (n:=0) (by unfold KS.sob2;rw [e];rfl)) rfl
theorem uC {l:List Nat}(e:K.lists=some l):g8 W A K X (.ref .pipesL) (l.map λi=> .ref (.pipe i)):=x6 (iK (n:=1) (by unfold KS.sob2;rw [e];rfl)) rfl
theorem Gi {i:Nat}(hi:i<K.np):BM W A K X (.ref (.ring i)) (K.pipe i).ring:=λh I=>⟨_,rfl,I.get (.ring i) _ (cU hi)⟩
theorem tV {c:Addr}{b:List UInt8}(e:X c=some (.barr b)):BM W A K X (.adr c) b:=λh I=>⟨_,rfl,(I.oth c _ e).1⟩
end
end
end
section
noncomputable abbrev SV (α:Type):=(Id→Addr)→KS→H→α→Prop
section
variable (W:Wd)(j:Nat)
noncomputable def GC (n:Nat)(f:Addr)(vs:List VI)(A:Id→Addr)(K:KS)(X:H)(R:SV VI):Prop:=
 ∀⦃h⦄ ⦃Q:V→H→Prop⦄,Is W A K X h→(∀A₁ K₁ X₁ u h',Is W A₁ K₁ X₁ h'→R A₁ K₁ X₁ u→Q (den A₁ u) h')→CW W (11*n) f (dL A vs) h Q
noncomputable def x9 (n:Nat)(f:Addr)(vs:List VI)(A:Id→Addr)(K:KS)(X:H)(u:VI):Prop:=∀⦃h⦄ ⦃Q:V→H→Prop⦄,Is W A K X h→(∀h',Is W A K X h'→Q (den A u) h')→CW W (11*n) f (dL A vs) h Q
theorem rM {f:Addr}(hk:∀P,keepIn (Hd.KK P) (.ref f)=true){A:Id→Addr}{K:KS}{X h:H}(I:Is W A K X h):∀h,W.K.In h→∃k,(k=Keeper.frame∨k=Keeper.machine∨k=Keeper.boundFrame)∧Looks (model W.prog W.w) h (keeperOf (.ref f)) k:=λhp hK=>keeps_K (by rw [I.hW];exact hk _) hp hK
noncomputable def GK (f:Value)(us:List VI)(A:Id→Addr)(K:KS)(X:H)(R:SV VI):Prop:=∀⦃h⦄,Is W A K X h→
 (∀hp,W.K.In hp→∃k,(k=Keeper.frame∨k=Keeper.machine∨k=Keeper.boundFrame)∧Looks (model W.prog W.w) hp (keeperOf f) k)∧
 ∀⦃B env vars vs⦄ ⦃Q:Value→H→Prop⦄,gJ (11*j+10) B→vs.map er=dL A us→(∀A₁ K₁ X₁ u v h',er v=den A₁ u→Is W A₁ K₁ X₁ h'→R A₁ K₁ X₁ u→Q v h')→EW W B env vars (call f vs []) h Q
noncomputable def Av (f:Value)(us:List VI)(A:Id→Addr)(K:KS)(X:H)(u:VI):Prop:=∀⦃h⦄,Is W A K X h→
 (∀hp,W.K.In hp→∃k,(k=Keeper.frame∨k=Keeper.machine∨k=Keeper.boundFrame)∧Looks (model W.prog W.w) hp (keeperOf f) k)∧
 ∀⦃B env vars vs⦄ ⦃Q:Value→H→Prop⦄,gJ (11*j+10) B→vs.map er=dL A us→(∀v h',er v=den A u→Is W A K X h'→Q v h')→EW W B env vars (call f vs []) h Q
end
section
variable {W:Wd}{j:Nat}{A:Id→Addr}{K:KS}{X:H} {u v w x y:VI}{us:List VI}{R:SV VI}
theorem aM {f:Addr}(hk:∀P,keepIn (Hd.KK P) (.ref f)=true)(k:GC W j f us A K X R):GK W j (.ref f) us A K X R:=λh I=>⟨rM W hk I,λB env vars vs Q r e q=>
 (zN (Q:=λv h'=>∃A₁ K₁ X₁ u,v=den A₁ u∧Is W A₁ K₁ X₁ h'∧R A₁ K₁ X₁ u) (r.le (Nat.le_add_right _ _)) (e▸k I λA₁ K₁ X₁ u h' I' r=>⟨A₁,K₁,X₁,u,rfl,I',r⟩)).mono λv h' z=>z.elim λA₁ z=>z.elim λK₁ z=>z.elim λX₁ z=>z.elim λu z=>q A₁ K₁ X₁ u v h' z.1 z.2.1 z.2.2⟩
theorem i5 {f:Addr}(hk:∀P,keepIn (Hd.KK P) (.ref f)=true)(k:x9 W j f us A K X u):Av W j (.ref f) us A K X u:=λh I=>⟨rM W hk I,λB env vars vs Q r e q=>
 (zN (Q:=λv h'=>v=den A u∧Is W A K X h') (r.le (Nat.le_add_right _ _)) (e▸k I λh' I'=>⟨rfl,I'⟩)).mono λv h' z=>q v h' z.1 z.2⟩
theorem JI {f:Value}(k:Av W j f us A K X u)(r:R A K X u):GK W j f us A K X R:=λh I=>⟨(k I).1,λB env vars vs Q ro e q=>(k I).2 ro e λv h' ev I'=>q A K X u v h' ev I' r⟩
theorem one {α β:Type}{f:α→β}{x:β}{P:List α→Prop}{vs:List α}(e:vs.map f=[x])(k:∀v,f v=x→P [v]):P vs:=by
 cases vs with
 |nil=>cases e
 |cons v r=>cases r with
  |nil=>exact k v (List.cons.inj e).1
  |cons=>cases e
theorem two {α β:Type}{f:α→β}{x y:β}{P:List α→Prop}{vs:List α}(e:vs.map f=[x,y])(k:∀v w,f v=x→f w=y→P [v,w]):P vs:=by
 cases vs with
 |nil=>cases e
 |cons v r=>exact one (P:=λr=>P (v::r)) (List.cons.inj e).2 λw e'=>k v w (List.cons.inj e).1 e'
theorem uB {f:Value}(hl:∀{M:Model}{h:Heap},Looks M h (keeperOf f) Keeper.machine)(k:∀⦃h B env vars v⦄,Is W A K X h→B.handled=none→er v=den A x→EW W B env vars (call f [v] []) h λv h'=>er v=den A u∧h'=h):Av W j f [x] A K X u:=λh I=>
 ⟨λ_ _=>⟨_,.inr (.inl rfl),hl⟩,λB env vars vs Q r e q=>one (P:=λvs=>EW W B env vars (call f vs []) h Q) e λv ev=>(k I r.2.2 ev).mono λz h' ⟨a,b⟩=>b▸q z h a I⟩
theorem l9 {b:List UInt8}(hb:b.length≤100000):Av W j (.builtin "len") [.bytes b] A K X (.int b.length):=uB aI λh B env vars v I hh ev=>rV (Q:=λz h'=>z= .int b.length∧h'=h) ev hb ⟨rfl,rfl⟩
theorem jj (l:g8 W A K X x us):Av W j (.builtin "len") [x] A K X (.int us.length):=uB aI λh B env vars v I hh ev=>by
 refine bq λzq=> ?_
 obtain ⟨a,ea,ha⟩:=l I
 apply zq;clear zq
 rw [ah (ev.trans ea)]
 have e:(dL A us).length=us.length:=List.length_map ..
 exact w8 (Q:=λz h'=>z= .int us.length∧h'=h) ha ⟨congrArg (λn:Nat=>V.int n) e,rfl⟩
theorem Dh {b:List UInt8}(l:BM W A K X x b):Av W j (.builtin "len") [x] A K X (.int b.length):=uB aI λh B env vars v I hh ev=>by
 refine bq λzq=> ?_
 obtain ⟨a,ea,ha⟩:=l I
 apply zq;clear zq
 rw [ah (ev.trans ea)]
 exact EW.lift (Gr (Q:=λz h'=>z= .int b.length∧h'=h) ha ⟨rfl,rfl⟩)
theorem MS {i k:Int}:Av W j (.builtin "min") [.int i,.int k] A K X (.int (min i k)):=λh I=>
 ⟨λ_ _=>⟨_,.inr (.inl rfl),aI⟩,λB env vars vs Q r e q=>two (P:=λvs=>EW W B env vars (call (.builtin "min") vs []) h Q) e λv w ev ew=>(JH (Q:=λz h'=>z= .int (min i k)∧h'=h) r.2.2 ev ew ⟨rfl,rfl⟩).mono λz h' ⟨a,b⟩=>b▸q z h a I⟩
theorem Jj {b:List UInt8}(l:BM W A K X x b):Av W j (.type "bytes") [x] A K X (.bytes b):=uB br λh B env vars v I hh ev=>by
 refine bq λzq=> ?_
 obtain ⟨a,ea,ha⟩:=l I
 apply zq;clear zq
 rw [ah (ev.trans ea)]
 exact EW.lift (sQ (Q:=λz h'=>z= .bytes b∧h'=h) ha ⟨rfl,rfl⟩)
theorem Js {b:List UInt8}:Av W j (.type "bytes") [.bytes b] A K X (.bytes b):=uB br λh B env vars v I hh ev=>EW.lift (qI (Q:=λz h'=>z= .bytes b∧h'=h) ev ⟨rfl,rfl⟩)
theorem IM {ns:List Int}(l:g8 W A K X x (ns.map .int)):Av W j (.builtin "sum") [x] A K X (.int ns.sum):=uB aI λh B env vars v I hh ev=>by
 refine bq λzq=> ?_
 obtain ⟨a,ea,ha⟩:=l I
 apply zq;clear zq
 rw [ah (ev.trans ea)]
 exact JP (Q:=λz h'=>z= .int ns.sum∧h'=h) hh (ha.trans (congrArg (λl=>some (O.list l)) (List.map_map ..))) ⟨rfl,rfl⟩
theorem KQ {ns:List Int}(l:g8 W A K X x (ns.map .int))(hr:∀n∈ns,0≤n∧n<256):Av W j (.type "bytes") [x] A K X (.bytes (ns.map λn=>UInt8.ofNat n.toNat)):=uB br λh B env vars v I hh ev=>by
 refine bq λzq=> ?_
 obtain ⟨a,ea,ha⟩:=l I
 apply zq;clear zq
 rw [ah (ev.trans ea)]
 exact y6 (Q:=λz h'=>z= .bytes (ns.map λn=>UInt8.ofNat n.toNat)∧h'=h) hh (ha.trans (congrArg (λl=>some (O.list l)) (List.map_map ..))) hr ⟨rfl,rfl⟩
theorem Kc {f:Value}(hl:∀{M:Model}{h:Heap},Looks M h (keeperOf f) Keeper.machine){o:O}(k:∀⦃h B env vars v⦄⦃Q:V→H→Prop⦄,Is W A K X h→B.handled=none→er v=den A x→(∀c,h c=none→Q (.ref c) (h.put c o))→EW W B env vars (call f [v] []) h λv h'=>Q (er v) h')
  (r:∀c,X c=none→R A K (X.put c o) (.adr c)):GK W j f [x] A K X R:=λh I=>
 ⟨λ_ _=>⟨_,.inr (.inl rfl),hl⟩,λB env vars vs Q ro e q=>one (P:=λvs=>EW W B env vars (call f vs []) h Q) e λv ev=>(k (Q:=λz h'=>∃c,X c=none∧z= .ref c∧Is W A K (X.put c o) h') I ro.2.2 ev λc hc=>⟨c,I.xnone hc,rfl,I.new hc⟩).mono λz h' ⟨c,xc,ez,I'⟩=>q A K _ (.adr c) z h' ez I' (r c xc)⟩
theorem Jn (l:g8 W A K X x us)(r:∀c,X c=none→R A K (X.put c (.list (dL A us))) (.adr c)):GK W j (.type "list") [x] A K X R:=Kc br (λh B env vars v Q I hh ev q=>by
 refine bq λzq=> ?_
 obtain ⟨a,ea,ha⟩:=l I
 apply zq;clear zq
 rw [ah (ev.trans ea)]
 exact Ba ha q) r
theorem JT {i:Int}(h0:0<i)(h1:i≤90000)(r:∀c,X c=none→R A K (X.put c (.barr (List.replicate i.toNat 0))) (.adr c)):GK W j (.type "bytearray") [.int i] A K X R:=
 Kc br (λh B env vars v Q I hh ev q=>qG ev h0 h1 q) r
theorem FU (r:∀c,X c=none→R A K (X.put c (.barr [])) (.adr c)):GK W j (.type "bytearray") [] A K X R:=λh I=>
 ⟨λ_ _=>⟨_,.inr (.inl rfl),br⟩,λB env vars vs Q ro e q=>by
  obtain rfl:vs=[]:=List.map_eq_nil_iff.mp e
  exact (qV (Q:=λz h'=>∃c,X c=none∧z= .ref c∧Is W A K (X.put c (.barr [])) h') λc hc=>⟨c,I.xnone hc,rfl,I.new hc⟩).mono λz h' ⟨c,xc,ez,I'⟩=>q A K _ (.adr c) z h' ez I' (r c xc)⟩
theorem Do {c:Addr}{l:List VI}{a:VI}(hc:X c=some (.list (dL A l)))(hl:l.length≤90000)(r:R A K (X.put c (.list (dL A (l++[a])))) .none):GK W j (.builtin "list.append") [.adr c,a] A K X R:=λh I=>
 ⟨λ_ _=>⟨_,.inr (.inl rfl),aI⟩,λB env vars vs Q ro e q=>two (P:=λvs=>EW W B env vars (call (.builtin "list.append") vs []) h Q) e λv w ev ew=>by
  rw [ah ev]
  have z:(dL A l).length≤90000:=by rw [show (dL A l).length=l.length from List.length_map ..];exact hl
  refine EW.lift ((mM (Q:=λz h'=>er z= .none∧Is W A K (X.put c (.list (dL A (l++[a])))) h') (I.oth c _ hc).1 z ⟨rfl,?_⟩).mono λz h' ⟨e,I'⟩=>q A K _ .none z h' e I' r)
  rw [ew,show dL A l++[den A a]=dL A (l++[a]) from (List.map_append (f:=den A) (l₁:=l) (l₂:=[a])).symm]
  exact I.side hc nofun⟩
theorem Mc {c:Addr}{b:List UInt8}{i:Int}(hc:X c=some (.barr b))(hb:b.length≤90000)(i0:0≤i)(i1:i<256)(r:R A K (X.put c (.barr (b++[i.toNat.toUInt8]))) .none):GK W j (.builtin "bytearray.append") [.adr c,.int i] A K X R:=λh I=>
 ⟨λ_ _=>⟨_,.inr (.inl rfl),aI⟩,λB env vars vs Q ro e q=>two (P:=λvs=>EW W B env vars (call (.builtin "bytearray.append") vs []) h Q) e λv w ev ew=>by
  rw [ah ev]
  exact (xV (Q:=λz h'=>z= .none∧Is W A K (X.put c (.barr (b++[i.toNat.toUInt8]))) h') (I.oth c _ hc).1 ew i0 i1 hb ⟨rfl,I.side hc nofun⟩).mono λz h' ⟨e,I'⟩=>q A K _ .none z h' e I' r⟩
noncomputable def Hx (W:Wd)(A:Id→Addr)(K:KS)(X:H)(u:VI)(n:Str)(f:Value):Prop:=∀⦃B h o pl⦄ ⦃Q:Value×List Value→H→Prop⦄,Is W A K X h→er o=den A u→Q (f,[o]) h→TW W B (getMethod o n pl) h Q
noncomputable abbrev MF (C:Addr)(n:Str)(f:Addr):Prop:=∀P,yS (Hd.KK P) C n f=true
theorem aJ {C d f:Addr}{n:Str}{kv:KV}(m:MF C n f)(oi:OI W A K X u C d kv)(hl:kv.lookup n=none):Hx W A K X u n (.ref f):=λB h o pl Q I e q=>by
 refine bq λzq=> ?_
 obtain ⟨a,ea,h1,h2,_⟩:=oi I
 apply zq;clear zq
 rw [ah (e.trans ea)] at q⊢
 exact s5 h1 h2 (by rw [I.hW];exact m _) (by rw [cH,hl];rfl) q
theorem I3 (l:g8 W A K X u us):Hx W A K X u "append" (.builtin "list.append"):=λB h o pl Q I e q=>by
 refine bq λzq=> ?_
 obtain ⟨a,ea,ha⟩:=l I
 apply zq;clear zq
 rw [ah (e.trans ea)] at q⊢
 exact lM ha q
theorem Om {b:List UInt8}(l:BM W A K X u b):Hx W A K X u "append" (.builtin "bytearray.append"):=λB h o pl Q I e q=>by
 obtain ⟨a,ea,ha⟩:=l I
 rw [ah (e.trans ea)] at q⊢
 exact lT ha q
noncomputable def Ls (W:Wd)(A:Id→Addr)(K:KS)(X:H)(u w v:VI):Prop:=∀⦃B h o i⦄,Is W A K X h→er o=den A u→er i=den A w→TW W B (getitemInPython o) h (λb h'=>b=false∧h'=h)∧TW W B (getItem o i) h (λr h'=>er r=den A v∧h'=h)
theorem iU {i:Int}(l:g8 W A K X u us)(h0:0≤i)(e:us[i.toNat]?=some v):Ls W A K X u (.int i) v:=λB h o k I eo ei=>by
 refine bq λzq=> ?_
 obtain ⟨a,ea,ha⟩:=l I
 apply zq;clear zq
 rw [ah (eo.trans ea)]
 refine ⟨jl (λfr s R=> ?_) list_getitem_lookup ⟨rfl,rfl⟩,GH (Q:=λx h'=>x=den A v∧h'=h) ha h0 (by unfold dL;rw [List.getElem?_map,e];rfl) ei ⟨rfl,rfl⟩⟩
 obtain ⟨ws,hl,_⟩:=b5 R ha;exact hl.typeIs
theorem MA {b:List UInt8}{i:Int}{x:UInt8}(l:BM W A K X u b)(h0:0≤i)(e:b[i.toNat]?=some x):Ls W A K X u (.int i) (.int x.toNat):=λB h o k I eo ei=>by
 refine bq λzq=> ?_
 obtain ⟨a,ea,ha⟩:=l I
 apply zq;clear zq
 rw [ah (eo.trans ea)]
 exact ⟨jl (λfr s R=>⟨_,(iG R ha).1,rfl⟩) BF.slot_getitem.lookup ⟨rfl,rfl⟩,H4 (Q:=λz h'=>z= .int x.toNat∧h'=h) ha h0 e ei ⟨rfl,rfl⟩⟩
theorem bj {n:Str}(l:DA W A K X u n v):Ls W A K X u (.str n) v:=λB h o k I eo ei=>by
 refine bq λzq=> ?_
 obtain ⟨a,kv,ea,ha,hl⟩:=l I
 apply zq;clear zq
 rw [ah (eo.trans ea)]
 refine ⟨jl (λfr s R=> ?_) F.slot_dict_getitem.lookup ⟨rfl,rfl⟩,Gd (Q:=λx h'=>x=den A v∧h'=h) ha hl ei ⟨rfl,rfl⟩⟩
 obtain ⟨kvs,d,_⟩:=jF R ha;exact d.typeIs
end
theorem eU {k:Expr}{o i:Value}(q:cy k=false):subscripted k false o i=operate [o,i] (getItem o i):=by
 cases k<;>first|rfl|cases q
noncomputable def Io (c:Cn)(e:Option Expr)(ρ:KV)(A:Id→Addr)(K:KS)(X:H)(u:VI)(p:Option Int):Prop:=
 ∀⦃B env h⦄ ⦃Q:Value→H→Prop⦄,nY c B env→Is c.W A K X h→(∀v h',er v=den A u→Is c.W A K X h'→jw (den A u) p→Q v h')→EW c.W B env (dT A ρ) (valueOrNone (evalOpt e env)) h Q
section
variable {c:Cn}{ρ:KV}{A:Id→Addr}{K:KS}{X:H} {u v w x y:VI}{us:List VI}{e a b:Expr}{p:Pos}{l:List Expr}
theorem aO (k1:GV c e ρ A K X u)(k2:GV c a ρ A K X w)(ns:cy a=false)(g:Ls c.W A K X u w v):GV c (.Subscript e a p) ρ A K X v:=λB env h Q o I q=>by
 refine EW.eq (arm_eval_Subscript ..) (EW.bind (k1 o I λz h₁ ez I₁=>EW.bind (EW.hold (k2 o I₁ λi h₂ ei I₂=>EW.ba ?_))))
 have ⟨q1,q2⟩:=g (B:=B) I₂ ez ei
 refine EW.bl (q1.mono λb h₃ ⟨e1,e2⟩=> ?_)
 rw [e1,e2,eU ns]
 exact EW.bind (bc (EW.lift (q2.mono λr h₃ ⟨q',e⟩=>EW.bl (fx (EW.pure (e▸q r _ q' I₂))))))
theorem Bn:Io c none ρ A K X .none none:=λB env h Q o I q=>EW.pure (q .none h rfl I .none)
theorem By {i:Int}(k:GV c e ρ A K X (.int i)):Io c (some e) ρ A K X (.int i) (some i):=λB env h Q o I q=>k o I λv h' ev I'=>q v h' ev I' (.int _)
theorem FR.lessH {W:Wd}{env:Env}{vars:List (Str×V)}{h:H}{fr:Fz}{s:Shared}{hp':H}(F:FR W env fr vars h s)(l:∀a o,hp' a=some o→h a=some o):FR W env fr vars hp' s:=by
 have nn:∀a,h a=none→hp' a=none:=λa e=>by
  cases q:hp' a with
  |none=>rfl
  |some o=>rw [l a o q] at e;cases e
 exact ⟨F.hr.less l,F.ns,F.cell,F.has,⟨F.Lfree.1,nn _ F.Lfree.2⟩,λn c e=>⟨nn c (F.own n c e).1,(F.own n c e).2⟩,F.apart,F.above⟩
theorem EW.less {W:Wd}{B:Around}{env:Env}{vars:List (Str×V)}{h:H}{α:Type}{t:Sem α}{Q Q':α→H→Prop}(k:EW W B env vars t h Q')(l:∀v h',Q' v h'→∃h'',(∀a o,h'' a=some o→h' a=some o)∧Q v h''):EW W B env vars t h Q:=λfr s F=>
 a9 (k fr s F) λv s' ⟨h',F',q⟩=>let ⟨h'',a,b⟩:=l v h' q;⟨h'',F'.lessH a,b⟩
theorem D9 {h:H}{d:Addr}{o:O}(hd:h d=none):∀a x,h a=some x→(h.put d o) a=some x:=λa x e=>by
 rw [H.put_ne (λq=>by rw [q,hd] at e;cases e)];exact e
theorem vU {lo hi:Option Expr}{q:Pos}{pl pr:Option Int}{Q:Value→H→Prop}{B:Around}{env:Env}{h:H}{ov:Value}(o:nY c B env)(I:Is c.W A K X h)(k2:Io c lo ρ A K X x pl)(k3:Io c hi ρ A K X y pr)
  (k:∀h d i,Is c.W A K X h→h d=none→er i= .ref d→jw (den A x) pl→jw (den A y) pr→EW c.W B env (dT A ρ) (standAt p>>=λ_=>do
   let b←getitemInPython ov
   let r←subscripted (.Slice lo hi none q) b ov i
   letTemporaryGo e ov r
   pure r) (h.put d (.fields "slice" [den A x,den A y,.none])) Q):EW c.W B env (dT A ρ) (holding [ov] (eval (.Slice lo hi none q) env)>>=λi=>standAt p>>=λ_=>do
   let b←getitemInPython ov
   let r←subscripted (.Slice lo hi none q) b ov i
   letTemporaryGo e ov r
   pure r) h Q:=by
 refine EW.bind (EW.hold ?_)
 show EW c.W B env (dT A ρ) (do
  let l←valueOrNone (evalOpt lo env)
  let u←holding [l] (valueOrNone (evalOpt hi env))
  let s←holding [l,u] (valueOrNone (evalOpt none env))
  newFields "slice" [l,u,s]) h _
 exact EW.bind (k2 o I λa h₂ ea I₂ pa=>EW.bind (EW.hold (k3 o I₂ λb h₃ eb I₃ pb=>EW.bind (EW.hold (EW.pure (EW.lift (vB λd hd=>by
  rw [ea,eb]
  exact k h₃ d _ I₃ hd rfl pa pb)))))))
theorem ua {lo hi:Option Expr}{q:Pos}{b r:List UInt8}{pl pr:Option Int}(k1:GV c e ρ A K X (.bytes b))(k2:Io c lo ρ A K X x pl)(k3:Io c hi ρ A K X y pr)(hb:b.length≤100000)(er':cut b pl pr=r):GV c (.Subscript e (.Slice lo hi none q) p) ρ A K X (.bytes r):=λB env h Q o I kq=>by
 refine EW.eq (arm_eval_Subscript ..) (EW.bind (k1 o I λv h₁ ev I₁=>vU o I₁ k2 k3 λh₃ d i I₃ hd ei px py=>EW.ba ?_))
 obtain ⟨t,rfl⟩:=cM ev
 rw [ah ei]
 have hdd:(h₃.put d (.fields "slice" [den A x,den A y,.none])) d=some (.fields "slice" [den A x,den A y,.none]):=H.put_same ..
 refine EW.less (Q':=λz h'=>h'=h₃.put d (.fields "slice" [den A x,den A y,.none])∧er z= .bytes (cut b pl pr)) ?_ (λz h' ⟨e,z'⟩=>⟨h₃,by rw [e];exact D9 hd,kq z h₃ (z'.trans (congrArg V.bytes er')) I₃⟩)
 refine EW.bl ((jl (T:="bytes") (Q:=λ_ h'=>h'=h₃.put d (.fields "slice" [den A x,den A y,.none])) (λfr s R=>PySem.W.typeIs_bytes _ _ _) FB.slot_bytes_getitem.lookup rfl).mono λbb h' e=> ?_)
 subst e
 rw [show subscripted (.Slice lo hi none q) bb (.bytes b.toArray t) (.ref d)=operate [.ref d,.bytes b.toArray t] (getItem (.bytes b.toArray t) (.ref d)) from rfl]
 exact EW.bind (bc (EW.lift ((Bj (Q:=λx' h'=>h'=h₃.put d (.fields "slice" [den A x,den A y,.none])∧x'= .bytes (cut b pl pr)) ev hb hdd px py ⟨rfl,rfl⟩).mono λr h' z=>EW.bl (fx (EW.pure z)))))
noncomputable def GN (id:Str)(f:Value):Prop:=∀P,∃z,qA (Hd.KK P) id=some z∧∀v,er v=z→v=f
theorem jk {id:Str}{f:Addr}(h:∀P,qA (Hd.KK P) id=some (.ref f)):GN id (.ref f):=λP=>⟨_,h P,λ_ e=>ah e⟩
theorem CT {id:Str}{f:String}(h:∀P,qA (Hd.KK P) id=some (.bi f)):GN id (.builtin f):=λP=>⟨_,h P,λ_ e=>M2 e⟩
theorem DY {id:Str}{f:String}(h:∀P,qA (Hd.KK P) id=some (.ty f)):GN id (.type f):=λP=>⟨_,h P,λ_ e=>IB e⟩
theorem Bh {id:Str}{f:Value}{B:Around}{env:Env}{h:H}{vars:List (Str×V)}{Q:Value→H→Prop}(o:nY c B env)(I:Is c.W A K X h)(hk:c.sc.names.lookup id=some .globalImplicit)(g:GN id f)(n2:(id==("__debug__":Str))=false)(k:Q f h):EW c.W B env vars (eval (.Name id p) env) h Q:=by
 refine bq λzq=> ?_
 obtain ⟨z,hz,hv⟩:=g c.W.w.params
 apply zq;clear zq
 exact yp o hk (by rw [I.hW];exact hz) n2 λv e=>hv v e▸k
theorem ge {id:Str}{f:Value}{q:Pos}(hk:c.sc.names.lookup id=some .globalImplicit)(g:GN id f)(n2:(id==("__debug__":Str))=false)(k1:Ct c l ρ A K X us)(k:Av c.W c.j f us A K X u):GV c (.Call (.Name id q) l [] p) ρ A K X u:=λB env h Q o I kq=>
 EW.bind (Bh o I hk g n2 (cV (aF k1.1) (k I).1 (c4 (aF k1.1) (k1.2 _ o I λvs h' es I'=>⟨rfl,(k I').2 o.room es kq⟩))))
theorem yw {env:Env}(q:∀env,(starEach l env).any (·.1)=false)(hl:Nat.blt l.length 30=true):methodCallForm (l.length+([]:List Keyword).length) (backTo p (starEach l env)) []=true:=by
 have a:=aF (env:=env) (p:=p) q
 unfold methodCallForm
 have:(backTo p (starEach l env)).all (!·.1)=true:=by
  rw [List.all_eq_not_any_not]
  simp only [Bool.not_not]
  rw [a];rfl
 rw [this]
 have hl:=Nat.le_of_ble_eq_true hl
 exact decide_eq_true hl
theorem oV {q:Pos}{n:Str}{f:Value}{Q:Value→H→Prop}{B:Around}{env:Env}{h:H}(o:nY c B env)(I:Is c.W A K X h)(k1:GV c e ρ A K X u)(h0:gx e=false)(m:Hx c.W A K X u n f)(hp:(q.endLine==p.line)=true)(hl:Nat.blt l.length 30=true)(pl:∀env,(starEach l env).any (·.1)=false)
  (k:∀v h,Is c.W A K X h→er v=den A u→EW c.W B env (dT A ρ) (callWith p f [v] (backTo p (starEach l env)) []) h Q):EW c.W B env (dT A ρ) (eval (.Call (.Attribute e n q) l [] p) env) h Q:=by
 show EW c.W B env (dT A ρ) (do
  let ov←attributeBase e n env (eval e env)
  standAt q.atName
  methodCall e n q p env ov (l.length+([]:List Keyword).length) (backTo p (starEach l env)) []) h _
 rw [qw h0]
 refine EW.bind (k1 o I λv h' ev I'=>EW.ba ?_)
 unfold methodCall
 rw [yw pl hl]
 refine EW.bind (EW.hold (EW.lift (m I' ev ?_)))
 have:methodCallPos true e env q p=pure p:=by
  unfold methodCallPos
  simp [beq_iff_eq.mp hp]
 dsimp only
 rw [this]
 exact EW.bp (k v h' I' ev)
theorem iz {q:Pos}{n:Str}{f:Value}(k1:GV c e ρ A K X u)(h0:gx e=false)(m:Hx c.W A K X u n f)(hp:(q.endLine==p.line)=true)(hl:Nat.blt l.length 30=true)(kl:Ct c l ρ A K X us)(k:Av c.W c.j f (u::us) A K X v):GV c (.Call (.Attribute e n q) l [] p) ρ A K X v:=λB env h Q o I kq=>
 oV o I k1 h0 m hp hl kl.1 λz h' I' ez=>cV (first:=[z]) (aF kl.1) (k I').1 (c4 (aF kl.1) (kl.2 _ o I' λvs h' es I'=>⟨rfl,(k I').2 o.room (by show er z::vs.map er=_;rw [ez,es];rfl) kq⟩))
end
end
section
inductive FI where|next|brk|ret (v:VI)
noncomputable abbrev oz:=(Id→Addr)→KS→H→FI→KV→Prop
noncomputable def FI.val:FI→VI
 | .ret v=>v
 |_=> .none
noncomputable def fR (A:Id→Addr):FI→Flow→Prop
 | .next,.next=>True
 | .brk,.brk=>True
 | .ret v,.ret w=>er w=den A v
 |_,_=>False
structure Nx (A A₁:Id→Addr)(ρ:KV)(P:Prop):Prop where
 e:dT A₁ ρ=dT A ρ
 k:P
structure Sm (A₁ A₂:Id→Addr)(x:VI)(P:Prop):Prop where
 e:den A₂ x=den A₁ x
 k:P
structure IG (t:Bool)(p1 p2:Prop):Prop where
 a:t=true→p1
 b:t=false→p2
noncomputable def GE (c:Cn)(e:Expr)(ρ:KV)(A:Id→Addr)(K:KS)(X:H)(R:SV VI):Prop:=
 ∀⦃B env h⦄ ⦃Q:Value→H→Prop⦄,nY c B env→Is c.W A K X h→(∀A₁ K₁ X₁ u v h',er v=den A₁ u→Is c.W A₁ K₁ X₁ h'→R A₁ K₁ X₁ u→Q v h')→EW c.W B env (dT A ρ) (eval e env) h Q
noncomputable def GB (c:Cn)(e:Expr)(ρ:KV)(A:Id→Addr)(K:KS)(X:H)(R:SV Bool):Prop:=
 ∀⦃B env h⦄ ⦃Q:Bool→H→Prop⦄,nY c B env→Is c.W A K X h→(∀A₁ K₁ X₁ u h',Is c.W A₁ K₁ X₁ h'→R A₁ K₁ X₁ u→Q u h')→EW c.W B env (dT A ρ) (isTrue e env (eval e env)) h Q
noncomputable def GL (c:Cn)(l:List Expr)(ρ:KV)(A:Id→Addr)(K:KS)(X:H)(R:SV (List VI)):Prop:=
 (∀env,(starEach l env).any (·.1)=false)∧∀⦃B env h⦄ ⦃Q:List Value→H→Prop⦄ pos,nY c B env→Is c.W A K X h→(∀A₁ K₁ X₁ us vs h',vs.map er=dL A₁ us→Is c.W A₁ K₁ X₁ h'→R A₁ K₁ X₁ us→Q vs h')→EW c.W B env (dT A ρ) (spliced (backTo pos (starEach l env))) h Q
noncomputable def GA (c:Cn)(t:Expr)(u:VI)(ρ:KV)(A:Id→Addr)(K:KS)(X:H)(R:SV KV):Prop:=
 ∀⦃B env h v⦄ ⦃Q:Unit→List (Str×V)→H→Prop⦄,nY c B env→Is c.W A K X h→er v=den A u→(∀A₁ K₁ X₁ ρ₁ h',Is c.W A₁ K₁ X₁ h'→R A₁ K₁ X₁ ρ₁→Q () (dT A₁ ρ₁) h')→SW c.W B env (assign t env v) (dT A ρ) h Q
noncomputable def GS (c:Cn)(l:List Stmt)(ρ:KV)(A:Id→Addr)(K:KS)(X:H)(R:oz):Prop:=
 ∀⦃B env h⦄ ⦃Q:Flow→List (Str×V)→H→Prop⦄,nY c B env→Is c.W A K X h→(∀A₁ K₁ X₁ f ρ₁ fl h',fR A₁ f fl→Is c.W A₁ K₁ X₁ h'→R A₁ K₁ X₁ f ρ₁→Q fl (dT A₁ ρ₁) h')→SW c.W B env (execs l env) (dT A ρ) h Q
noncomputable def sq (c:Cn)(l:List Stmt)(R:oz):oz:=λA K X f ρ=>match f with
 | .next=>GS c l ρ A K X R
 |f=>R A K X f ρ
section
variable {c:Cn}{ρ:KV}{A:Id→Addr}{K:KS}{X:H} {u v w x y:VI}{us:List VI}{e a b:Expr}{p:Pos}{l:List Expr}{R:SV VI}{RB:SV Bool}{RL:SV (List VI)}
theorem cR (k:GV c e ρ A K X u)(r:R A K X u):GE c e ρ A K X R:=λB env h Q o I q=>k o I λv h' ev I'=>q A K X u v h' ev I' r
theorem oB {t:Bool}(k:jo c e ρ A K X t)(r:RB A K X t):GB c e ρ A K X RB:=λB env h Q o I q=>k o I λh' I'=>q A K X t h' I' r
theorem gg (k:Ct c l ρ A K X us)(r:RL A K X us):GL c l ρ A K X RL:=⟨k.1,λB env h Q pos o I q=>k.2 pos o I λvs h' es I'=>q A K X us vs h' es I' r⟩
theorem yB (r:RL A K X []):GL c [] ρ A K X RL:=⟨λ_=>rfl,λB env h Q pos o I q=>cJ (q A K X [] [] h rfl I r)⟩
theorem bS (k:GE c e ρ A K X λA₁ K₁ X₁ u=>RL A₁ K₁ X₁ [u])(ns:cy e=false):GL c [e] ρ A K X RL:=⟨af ns λ_=>rfl,λB env h Q pos o I q=>by
 rw [cD ns]
 exact bT (k o I λA₁ K₁ X₁ u v h' ev I' r=>cJ (q A₁ K₁ X₁ [u] [v] h' (congrArg (· ::[]) ev) I' r))⟩
theorem bL (k:GE c e ρ A K X λA₁ K₁ X₁ u=>Nx A A₁ ρ (GL c l ρ A₁ K₁ X₁ λA₂ K₂ X₂ us=>Sm A₁ A₂ u (RL A₂ K₂ X₂ (u::us))))(ns:cy e=false)(nl:∀env,(starEach l env).any (·.1)=false):GL c (e::l) ρ A K X RL:=⟨af ns nl,λB env h Q pos o I q=>by
 rw [cD ns]
 exact bT (k o I λA₁ K₁ X₁ u v h' ev I' n=>n.e▸n.k.2 pos o I' λA₂ K₂ X₂ us vs h₂ es I₂ s=>q A₂ K₂ X₂ _ _ h₂ (by rw [List.map_cons,ev,es,←s.e];rfl) I₂ s.k)⟩
theorem qM {id:Str}{f:Value}{q:Pos}(hk:c.sc.names.lookup id=some .globalImplicit)(g:GN id f)(n2:(id==("__debug__":Str))=false)(k:GL c l ρ A K X λA₁ K₁ X₁ us=>GK c.W c.j f us A₁ K₁ X₁ R)
  (lk:∀hp,c.W.K.In hp→∃k,(k=Keeper.frame∨k=Keeper.machine∨k=Keeper.boundFrame)∧Looks (model c.W.prog c.W.w) hp (keeperOf f) k):GE c (.Call (.Name id q) l [] p) ρ A K X R:=λB env h Q o I kq=>
 EW.bind (Bh o I hk g n2 (cV (aF k.1) lk (c4 (aF k.1) (k.2 _ o I λA₁ K₁ X₁ us vs h' es I' r=>⟨rfl,(r I').2 o.room es kq⟩))))
theorem f8 {id:Str}{f:Value}{q:Pos}(hk:c.sc.names.lookup id=some .globalImplicit)(g:GN id f)(n2:(id==("__debug__":Str))=false)(kl:Ct c l ρ A K X us)(k:GK c.W c.j f us A K X R):GE c (.Call (.Name id q) l [] p) ρ A K X R:=λB env h Q o I kq=>
 EW.bind (Bh o I hk g n2 (cV (aF kl.1) (k I).1 (c4 (aF kl.1) (kl.2 _ o I λvs h' es I'=>⟨rfl,(k I').2 o.room es kq⟩))))
theorem aG {q:Pos}{n:Str}{f:Value}(k1:GV c e ρ A K X u)(h0:gx e=false)(m:Hx c.W A K X u n f)(hp:(q.endLine==p.line)=true)(hl:Nat.blt l.length 30=true)(kl:Ct c l ρ A K X us)(k:GK c.W c.j f (u::us) A K X R):GE c (.Call (.Attribute e n q) l [] p) ρ A K X R:=λB env h Q o I kq=>
 oV o I k1 h0 m hp hl kl.1 λz h' I' ez=>cV (first:=[z]) (aF kl.1) (k I').1 (c4 (aF kl.1) (kl.2 _ o I' λvs h' es I'=>⟨rfl,(k I').2 o.room (by show er z::vs.map er=_;rw [ez,es];rfl) kq⟩))
theorem uu {q:Pos}{n:Str}{f:Addr}(k1:GV c e ρ A K X u)(h0:gx e=false)(m:Hx c.W A K X u n (.ref f))(hp:(q.endLine==p.line)=true)(hl:Nat.blt l.length 30=true)(hf:∀P,keepIn (Hd.KK P) (.ref f)=true)
  (k:GL c l ρ A K X λA₁ K₁ X₁ us=>Sm A A₁ u (GC c.W c.j f (u::us) A₁ K₁ X₁ R)):GE c (.Call (.Attribute e n q) l [] p) ρ A K X R:=λB env h Q o I kq=>
 oV o I k1 h0 m hp hl k.1 λz h' I' ez=>cV (first:=[z]) (aF k.1) (rM c.W hf I') (c4 (aF k.1) (k.2 _ o I' λA₁ K₁ X₁ us vs h' es I' r=>⟨rfl,(aM hf r.k I').2 o.room (by show er z::vs.map er=_;rw [ez,es,←r.e];rfl) kq⟩))
theorem zn {q:Pos}{n:Str}{f:String}(k1:GV c e ρ A K X u)(h0:gx e=false)(m:Hx c.W A K X u n (.builtin f))(hp:(q.endLine==p.line)=true)(hl:Nat.blt l.length 30=true)
  (k:GL c l ρ A K X λA₁ K₁ X₁ us=>Sm A A₁ u (GK c.W c.j (.builtin f) (u::us) A₁ K₁ X₁ R)):GE c (.Call (.Attribute e n q) l [] p) ρ A K X R:=λB env h Q o I kq=>
 oV o I k1 h0 m hp hl k.1 λz h' I' ez=>cV (first:=[z]) (aF k.1) (λ_ _=>⟨_,.inr (.inl rfl),aI⟩) (c4 (aF k.1) (k.2 _ o I' λA₁ K₁ X₁ us vs h' es I' r=>⟨rfl,(r.k I').2 o.room (by show er z::vs.map er=_;rw [ez,es,←r.e];rfl) kq⟩))
theorem l0 {n:Nat}(k:GL c l ρ A K X λA₁ K₁ X₁ us=>us.length≤100000∧∀d,X₁ d=none→R A₁ K₁ (X₁.put d (.tup (dL A₁ us))) (.adr d)):GE c (.Tuple l n p) ρ A K X R:=λB env h Q o I q=>
 EW.eq (arm_eval_Tuple ..) (EW.ba (EW.bind (k.2 p o I λA₁ K₁ X₁ us vs h' es I' r=>EW.lift (vA (by rw [show vs.length=us.length by rw [←List.length_map er,es];exact List.length_map ..];exact r.1) λd hd=>by
  rw [es];exact q _ _ _ (.adr d) _ _ rfl (I'.new hd) (r.2 d (I'.xnone hd))))))
theorem gk (k:GL c l ρ A K X λA₁ K₁ X₁ us=>us.length≤100000∧∀d,X₁ d=none→R A₁ K₁ (X₁.put d (.list (dL A₁ us))) (.adr d)):GE c (.List l p) ρ A K X R:=λB env h Q o I q=>
 EW.eq (arm_eval_List ..) (EW.ba (EW.bind (k.2 p o I λA₁ K₁ X₁ us vs h' es I' r=>EW.lift (xS (by rw [show vs.length=us.length by rw [←List.length_map er,es];exact List.length_map ..];exact r.1) λd hd=>by
  rw [es];exact q _ _ _ (.adr d) _ _ rfl (I'.new hd) (r.2 d (I'.xnone hd))))))
theorem MH (k:jo c e ρ A K X true)(k1:GE c a ρ A K X R):GE c (.IfExp e a b p) ρ A K X R:=λB env h Q o I q=>EW.eq (arm_eval_IfExp ..) (EW.bind (k o I λh' I'=>k1 o I' q))
theorem Iu (k:jo c e ρ A K X false)(k1:GE c b ρ A K X R):GE c (.IfExp e a b p) ρ A K X R:=λB env h Q o I q=>EW.eq (arm_eval_IfExp ..) (EW.bind (k o I λh' I'=>k1 o I' q))
inductive Pn (op:Operator)(x y:VI)(R:VI→Prop):Prop where
 |mk (v:VI) (t:G6 op x y v) (k:R v)
theorem L4 {op:Operator}(k:GE c a ρ A K X λA₁ K₁ X₁ x=>Nx A A₁ ρ (GE c b ρ A₁ K₁ X₁ λA₂ K₂ X₂ y=>Sm A₁ A₂ x (Pn op x y (R A₂ K₂ X₂)))):GE c (.BinOp a op b p) ρ A K X R:=λB env h Q o I q=>
 EW.eq (arm_eval_BinOp ..) (EW.bind (k o I λA₁ K₁ X₁ x v h' ev I' n=>EW.bind (EW.hold (n.e▸n.k o I' λA₂ K₂ X₂ y u h'' eu I'' s=>EW.ba (bc (EW.lift (s.k.rec λv' t r=>t (ev.trans s.e.symm) eu λz ez=>q A₂ K₂ X₂ v' z h'' ez I'' r)))))))
inductive Pe (W:Wd)(A:Id→Addr)(K:KS)(X:H)(op:CmpOp)(x y:VI)(R:Bool→Prop):Prop where
 |mk (t:Bool) (m:mx W A K X op x y t) (k:R t)
theorem J4 {op:CmpOp}(k:GE c a ρ A K X λA₁ K₁ X₁ x=>Nx A A₁ ρ (GE c b ρ A₁ K₁ X₁ λA₂ K₂ X₂ y=>Sm A₁ A₂ x (Pe c.W A₂ K₂ X₂ op x y (RB A₂ K₂ X₂))))(ns:jr b=false):GB c (.Compare a [op] [b] p) ρ A K X RB:=λB env h Q o I q=>by
 refine EW.eq (arm_isTrue_Compare ..) (EW.bind (k o I λA₁ K₁ X₁ x v h' ev I' n=> ?_))
 show EW c.W B env (dT A ρ) (testChain p v [op] [markedBehindIn op b (eval b env)]) h' _
 rw [eN ns]
 exact EW.bind (EW.hold (n.e▸n.k o I' λA₂ K₂ X₂ y u h'' eu I'' s=>EW.ba (EW.bind (bc (EW.lift (s.k.rec λt m r=>m o.room I'' (ev.trans s.e.symm) eu (EW.hold (EW.lift (dW rfl (q _ _ _ _ h'' I'' r))))))))))
theorem IS {op:CmpOp}(k:GE c a ρ A K X λA₁ K₁ X₁ x=>Nx A A₁ ρ (GE c b ρ A₁ K₁ X₁ λA₂ K₂ X₂ y=>Sm A₁ A₂ x (Pe c.W A₂ K₂ X₂ op x y λt=>R A₂ K₂ X₂ (.bool t))))(ns:jr b=false):GE c (.Compare a [op] [b] p) ρ A K X R:=λB env h Q o I q=>by
 refine EW.eq (arm_eval_Compare ..) (EW.bind (k o I λA₁ K₁ X₁ x v h' ev I' n=> ?_))
 show EW c.W B env (dT A ρ) (compareChain p v [op] [markedBehindIn op b (eval b env)]) h' _
 rw [eN ns]
 exact EW.bind (EW.hold (n.e▸n.k o I' λA₂ K₂ X₂ y u h'' eu I'' s=>EW.ba (bc (EW.lift (s.k.rec λt m r=>m o.room I'' (ev.trans s.e.symm) eu (q _ _ _ (.bool t) _ h'' rfl I'' r))))))
theorem NS (he:∀env,isTrue e env (eval e env)=(do let v←eval e env;standAt e.pos;holding [v] (truthy v)))(k:GE c e ρ A K X λA₁ K₁ X₁ u=>∃t,u= .bool t∧RB A₁ K₁ X₁ t):GB c e ρ A K X RB:=λB env h Q o I q=>
 EW.eq (he env) (EW.bind (k o I λA₁ K₁ X₁ u v h' ev I' ⟨t,e,r⟩=>EW.ba (EW.hold (EW.lift (dW (ev.trans (congrArg (den A₁) e)) (q _ _ _ t h' I' r))))))
theorem N1 (k:GB c a ρ A K X λA₁ K₁ X₁ t=>Nx A A₁ ρ (IG t (GB c b ρ A₁ K₁ X₁ RB) (RB A₁ K₁ X₁ false))):GB c (.BoolOp .And [a,b] p) ρ A K X RB:=λB env h Q o I q=>
 EW.eq ((arm_isTrue_BoolOp ..).trans (arm_allTrue_cons ..)) (EW.bind (k o I λA₁ K₁ X₁ t h' I' n=>match t,n with
  |true,n=>gY (n.e▸n.k.a rfl o I' q)
  |false,n=>EW.pure (q A₁ K₁ X₁ _ h' I' (n.k.b rfl))))
theorem IC (k:GB c a ρ A K X λA₁ K₁ X₁ t=>Nx A A₁ ρ (IG t (RB A₁ K₁ X₁ true) (GB c b ρ A₁ K₁ X₁ RB))):GB c (.BoolOp .Or [a,b] p) ρ A K X RB:=λB env h Q o I q=>
 EW.eq ((arm_isTrue_BoolOp ..).trans (arm_allTrue_cons ..)) (EW.bind (k o I λA₁ K₁ X₁ t h' I' n=>match t,n with
  |true,n=>EW.pure (q A₁ K₁ X₁ _ h' I' (n.k.a rfl))
  |false,n=>gY (n.e▸n.k.b rfl o I' q)))
theorem kG {op:BoolOp}{t:Sem Value}{y:Sem Value}{r:List (Sem Value)}:boolOp p op (t::y::r)=(do
  let v←t
  standAt p
  let b←holding [v] (truthy v)
  match op,b with
  | .And,false| .Or,true=>pure v
  |_,_=>boolOp p op (y::r)):=rfl
theorem M9 {r:List Expr}(k:GV c a ρ A K X (.bool false)):GV c (.BoolOp .And (a::b::r) p) ρ A K X (.bool false):=λB env h Q o I q=>
 EW.eq kG (EW.bind (k o I λv h' ev I'=>EW.ba (EW.bind (EW.hold (EW.lift (dW ev (EW.pure (q v h' ev I'))))))))
theorem IE (k:GV c a ρ A K X (.bool true))(k2:GV c b ρ A K X u):GV c (.BoolOp .And [a,b] p) ρ A K X u:=λB env h Q o I q=>
 EW.eq kG (EW.bind (k o I λv h' ev I'=>EW.ba (EW.bind (EW.hold (EW.lift (dW ev (k2 o I' q)))))))
theorem N9 {r:List Expr}(k:GE c a ρ A K X λA₁ K₁ X₁ u=>∃t,u= .bool t∧Nx A A₁ ρ (IG t (GE c (match r with|[]=>b|_=> .BoolOp .And (b::r) p) ρ A₁ K₁ X₁ R) (R A₁ K₁ X₁ (.bool false)))):GE c (.BoolOp .And (a::b::r) p) ρ A K X R:=λB env h Q o I q=>
 by
 refine EW.eq kG (EW.bind (k o I λA₁ K₁ X₁ u v h' ev I' z=> ?_))
 rcases z with ⟨t,e,n⟩
 refine EW.ba (EW.bind (EW.hold (EW.lift (dW (ev.trans (congrArg (den A₁) e)) ?_))))
 cases t with
 |true=>cases r<;>exact n.e▸n.k.a rfl o I' q
 |false=>exact EW.pure (q A₁ K₁ X₁ _ v h' (ev.trans (congrArg (den A₁) e)) I' (n.k.b rfl))
theorem DP {t:Bool}(k:GV c e ρ A K X (.bool t)):GV c (.UnaryOp .Not e p) ρ A K X (.bool (!t)):=λB env h Q o I q=>
 EW.eq (arm_eval_UnaryOp ..) (EW.bind (k o I λv h' ev I'=>EW.ba (EW.hold (EW.lift (JD ev (q _ h' rfl I'))))))
inductive Pq (c:Cn)(ρ:KV)(a:Expr)(A:Id→Addr)(K:KS)(X:H)(u:VI)(R:VI→Prop):Prop where
 |mk (w v:VI) (k2:GV c a ρ A K X w) (g:Ls c.W A K X u w v) (k:R v)
theorem Mu (k:GE c e ρ A K X λA₁ K₁ X₁ u=>Nx A A₁ ρ (Pq c ρ a A₁ K₁ X₁ u (R A₁ K₁ X₁)))(ns:cy a=false):GE c (.Subscript e a p) ρ A K X R:=λB env h Q o I q=>by
 refine EW.eq (arm_eval_Subscript ..) (EW.bind (k o I λA₁ K₁ X₁ u z h₁ ez I₁ ⟨ne,w,v,k2,g,r⟩=>EW.bind (EW.hold (ne▸k2 o I₁ λi h₂ ei I₂=>EW.ba ?_))))
 have ⟨q1,q2⟩:=g (B:=B) I₂ ez ei
 refine EW.bl (q1.mono λb h₃ ⟨e1,e2⟩=> ?_)
 rw [e1,e2,eU ns]
 exact EW.bind (bc (EW.lift (q2.mono λr' h₃ ⟨q',e⟩=>EW.bl (fx (EW.pure (e▸q _ _ _ v r' _ q' I₂ r))))))
end
end
section
noncomputable def aU (n:Str)(x:VI):KV→KV
 |[]=>[(n,x)]
 |(k,v)::r=>if n=k then (k,x)::r else (k,v)::aU n x r
theorem db (A:Id→Addr)(n:Str)(x:VI):∀l:KV,fC n (den A x) (dT A l)=dT A (aU n x l)
 |[]=>rfl
 |(k,v)::r=>by
  show (if n=k then (k,den A x)::dT A r else (k,den A v)::fC n (den A x) (dT A r))=dT A (if n=k then (k,x)::r else (k,v)::aU n x r)
  split
  ·rfl
  ·rw [db A n x r];rfl
noncomputable def Fy (fn:Bool):Option NameKind→Bool
 |some .local=>true
 |some .cell=>fn
 |_=>false
noncomputable def hG (e:Expr):Bool:=Nat.ble 8 e.ctorIdx&&Nat.ble e.ctorIdx 11
noncomputable def AR (e:Expr):Bool:=Nat.beq e.ctorIdx 23
section
variable (W:Wd)
noncomputable def GT (u:VI)(n:Str)(v:VI)(A:Id→Addr)(K:KS)(X:H)(R:KS→H→Prop):Prop:=
 ∀⦃B h o w⦄ ⦃Q:Unit→H→Prop⦄,Is W A K X h→er o=den A u→er w=den A v→(∀K₁ X₁ h',Is W A K₁ X₁ h'→R K₁ X₁→Q () h')→TW W B (setAttr o n w) h Q
noncomputable def GI (u k v:VI)(A:Id→Addr)(K:KS)(X:H)(R:KS→H→Prop):Prop:=
 ∀⦃B h o i w⦄ ⦃Q:Unit→H→Prop⦄,Is W A K X h→er o=den A u→er i=den A k→er w=den A v→(∀K₁ X₁ h',Is W A K₁ X₁ h'→R K₁ X₁→Q () h')→TW W B (setItem o i w) h Q
end
section
variable {c:Cn}{ρ:KV}{A:Id→Addr}{K:KS}{X:H} {u v w x y:VI}{us:List VI}{e a b:Expr}{p:Pos}{l:List Expr}{R:SV KV}
theorem oT {id:Str}{B:Around}{env:Env}{h:H}{z:Value}{Q:Unit→List (Str×V)→H→Prop}(o:nY c B env)(kd:Fy c.fn (c.sc.names.lookup id)=true)(ez:er z=den A u)(q:Q () (dT A (aU id u ρ)) h):SW c.W B env (bindName env id z) (dT A ρ) h Q:=by
 have fin:Q () (fC id (er z) (dT A ρ)) h:=by simp only [ez,db];exact q
 unfold bindName
 refine SW.bind (SW.hold (SW.point (SW.bind ?_)))
 rw [←o.kind] at kd
 cases k:env.kindOf id with
 |none=>rw [k] at kd;cases kd
 |some k'=>
  rw [k] at kd
  cases k' with
  |«local»=>exact Ed o.fk k (SW.point fin)
  |cell=>
   obtain ⟨cc,hcc⟩:=Option.isSome_iff_exists.mp (o.eo.cells id (o.kind▸k))
   exact qZ (o.eo.func kd) o.fk k hcc (SW.point fin)
  |_=>cases kd
theorem dQ {id:Str}(kd:Fy c.fn (c.sc.names.lookup id)=true)(r:R A K X (aU id u ρ)):GA c (.Name id p) u ρ A K X R:=λB env h z Q o I ez q=>by
 show SW c.W B env (do standAt p;bindName env id z) (dT A ρ) h _
 exact SW.bind (SW.at_ (oT o kd ez (q A K X _ h I r)))
theorem zr {n:Str}(k1:GV c e ρ A K X w)(k:GT c.W w n u A K X λK₁ X₁=>R A K₁ X₁ ρ):GA c (.Attribute e n p) u ρ A K X R:=λB env h z Q o I ez q=>by
 refine SW.of_EW ?_
 show EW c.W B env (dT A ρ) (do
  let ov←holding [z] (eval e env)
  standAt p.atName
  holding [z,ov] (setAttr ov n z)
  release [z,ov] []) h _
 exact EW.bind (EW.hold (k1 o I λv h' ev I'=>EW.ba (EW.bind (EW.hold (EW.lift (k I' ev ez λK₁ X₁ h'' I'' r=>EW.lift (fE (q A K₁ X₁ ρ h'' I'' r))))))))
theorem r7 (k1:GV c e ρ A K X w)(k2:GV c a ρ A K X x)(k:GI c.W w x u A K X λK₁ X₁=>R A K₁ X₁ ρ):GA c (.Subscript e a p) u ρ A K X R:=λB env h z Q o I ez q=>
 SW.of_EW (EW.eq (arm_assign_Subscript ..) (EW.bind (EW.hold (k1 o I λv h' ev I'=>EW.bind (EW.hold (k2 o I' λi h'' ei I''=>EW.ba (EW.bind (EW.hold (EW.lift (k I'' ev ei ez λK₁ X₁ h₃ I₃ r=>EW.lift (fE (q A K₁ X₁ ρ h₃ I₃ r))))))))))))
noncomputable def Lz (c:Cn)(l:List Expr)(us:List VI)(ρ:KV)(A:Id→Addr)(K:KS)(X:H)(R:SV KV):Prop:=l.length=us.length∧(∀env,(assignEach l env).findIdx? (·.1)=none∧(assignEach l env).length=l.length)∧
 ∀⦃B env h vs⦄ ⦃Q:Unit→List (Str×V)→H→Prop⦄,nY c B env→Is c.W A K X h→vs.map er=dL A us→(∀A₁ K₁ X₁ ρ₁ h',Is c.W A₁ K₁ X₁ h'→R A₁ K₁ X₁ ρ₁→Q () (dT A₁ ρ₁) h')→SW c.W B env (assignInOrder ((assignEach l env).map (·.2)) vs) (dT A ρ) h Q
theorem g7 {env:Env}{es:List Expr}(ns:cy e=false):assignEach (e::es) env=(false,assign e env)::assignEach es env:=by cases e<;>first|rfl|cases ns
theorem jf (r:R A K X ρ):Lz c [] [] ρ A K X R:=⟨rfl,λ_=>⟨rfl,rfl⟩,λB env h vs Q o I es q=>by
 obtain rfl:vs=[]:=List.map_eq_nil_iff.mp es
 exact SW.pure (q A K X ρ h I r)⟩
theorem dS (ns:cy e=false)(len:l.length=us.length)(ls:∀env,(assignEach l env).findIdx? (·.1)=none∧(assignEach l env).length=l.length)
  (k:GA c e u ρ A K X λA₁ K₁ X₁ ρ₁=>dL A₁ us=dL A us∧Lz c l us ρ₁ A₁ K₁ X₁ R):Lz c (e::l) (u::us) ρ A K X R:=⟨congrArg (· +1) len,λenv=>by
 rw [g7 ns,List.findIdx?_cons,(ls env).1,List.length_cons,List.length_cons,(ls env).2];exact ⟨rfl,rfl⟩,λB env h vs Q o I es q=>by
 cases vs with
 |nil=>cases es
 |cons z vs=>
  have e1:=(List.cons.inj es).1
  have e2:=(List.cons.inj es).2
  rw [g7 ns]
  show SW c.W B env (do holding vs (assign e env z);assignInOrder ((assignEach l env).map (·.2)) vs) (dT A ρ) h _
  exact SW.bind (SW.hold (k o I e1 λA₁ K₁ X₁ ρ₁ h' I' ⟨es',r⟩=>r.2.2 o I' (e2.trans es'.symm) q))⟩
noncomputable def HD (W:Wd)(A:Id→Addr)(K:KS)(X:H)(u:VI)(us:List VI):Prop:=∀⦃h⦄,Is W A K X h→∃a,den A u= .ref a∧h a=some (.tup (dL A us))
theorem g5 {W:Wd}{d:Addr}(e:X d=some (.tup (dL A us))):HD W A K X (.adr d) us:=λh I=>⟨_,rfl,(I.oth d _ e).1⟩
theorem Bd {n:Nat}(t:HD c.W A K X u us)(k:Lz c l us ρ A K X R):GA c (.Tuple l n p) u ρ A K X R:=λB env h z Q o I ez q=>by
 refine bq λzq=> ?_
 obtain ⟨d,ed,h1⟩:=t I
 apply zq;clear zq
 rw [ah (ez.trans ed)]
 show SW c.W B env (do standAt p;unpack (.ref d) (assignEach l env)) (dT A ρ) h _
 refine SW.bind (SW.at_ ?_)
 unfold unpack
 refine SW.bind (SW.hold λfr s F=> ?_)
 refine bq λzq=> ?_
 obtain ⟨ws,hw,ee,_⟩:=ie F.hr h1
 apply zq;clear zq
 have sz:=aX ee
 simp only [(k.2.1 env).1,(k.2.1 env).2,k.1,show us.length=ws.size by rw [sz];exact (List.length_map ..).symm]
 exact aT.of (wpAny_unpackItems_tuple o.room.2.2 hw λh' hs'=>⟨dT A ρ,h,F.keepBut (own:=[]) (tk:=s.toks) (λ_ q=>nomatch q) λb ob _ e=>hs' b ob (Nat.ne_of_lt (Heap.lt_size e)) e,k.2.2 o I ee q⟩)
end
section
variable {c:Cn}{ρ:KV}{A:Id→Addr}{K:KS}{X:H} {u v w x y:VI}{us:List VI}{e a b:Expr}{p:Pos}{l:List Stmt}{R:oz}
theorem eD {W:Wd}{B:Around}{env:Env}{vars:List (Str×V)}{h:H}{s:Stmt}{Q:Flow→List (Str×V)→H→Prop}(k:SW W B env (exec s env) vars h λfl vars' h'=>match fl with
  | .next=>SW W B env (execs l env) vars' h' Q
  |f=>Q f vars' h'):SW W B env (execs (s::l) env) vars h Q:=by
 refine λfr st F=>bJ (arm_execs_cons ..) (a7 (a9 (k fr st F) λfl s' zz=> ?_))
 rcases zz with ⟨vars',h',F',q⟩
 cases fl<;>first|exact q fr s' F'|exact a8 ⟨vars',h',F',q⟩
theorem SW.eq {W:Wd}{B:Around}{env:Env}{vars:List (Str×V)}{h:H}{α:Type}{t t':Sem α}{Q:α→List (Str×V)→H→Prop}(e:t=t')(k:SW W B env t' vars h Q):SW W B env t vars h Q:=e▸k
theorem ar (r:R A K X .next ρ):GS c [] ρ A K X R:=λB env h Q o I q=>SW.pure (q A K X .next ρ .next h trivial I r)
theorem zh {env:Env}{n:Nat}(q:hG e=false):swapsWith e none n env=pure false:=by cases e<;>first|rfl|cases q
theorem dw (nc:hG e=false)(k:GE c e ρ A K X λA₁ K₁ X₁ _=>Nx A A₁ ρ (GS c l ρ A₁ K₁ X₁ R)):GS c (.Expr e p::l) ρ A K X R:=λB env h Q o I q=>by
 refine eD (SW.eq (arm_exec_Expr ..) ?_)
 rw [show interactive env=false by unfold interactive;rw [o.fk];rfl,zh nc]
 refine SW.bind (SW.at_ ?_)
 show SW c.W B env (do dropValue e p (←eval e env)) (dT A ρ) h _
 exact SW.eb (k o I λA₁ K₁ X₁ u v h' ev I' n=>SW.of_EW (EW.lift (HM (n.e▸n.k o I' q))))
theorem kN (k:GE c e ρ A K X λA₁ K₁ X₁ u=>Nx A A₁ ρ (R A₁ K₁ X₁ (.ret u) ρ)):GS c (.Return (some e) p::l) ρ A K X R:=λB env h Q o I q=>by
 refine eD ?_
 show SW c.W B env (do standAt p;return Flow.ret (←eval e env)) (dT A ρ) h _
 exact SW.bind (SW.at_ (SW.eb (k o I λA₁ K₁ X₁ u v h' ev I' n=>SW.pure (n.e▸q A₁ K₁ X₁ (.ret u) ρ (.ret v) h' ev I' n.k))))
theorem bX (k:GV c e ρ A K X u)(r:R A K X (.ret u) ρ):GS c (.Return (some e) p::l) ρ A K X R:=kN (cR k ⟨rfl,r⟩)
theorem Iy (r:R A K X (.ret .none) ρ):GS c (.Return none p::l) ρ A K X R:=λB env h Q o I q=>by
 refine eD ?_
 show SW c.W B env (do standAt p;return Flow.ret Value.none) (dT A ρ) h _
 exact SW.bind (SW.at_ (SW.pure (q A K X (.ret .none) ρ (.ret .none) h rfl I r)))
theorem Os (r:R A K X .brk ρ):GS c (.Break p::l) ρ A K X R:=λB env h Q o I q=>by
 refine eD ?_
 show SW c.W B env (do standAt p;pure Flow.brk) (dT A ρ) h _
 exact SW.bind (SW.at_ (SW.pure (q A K X .brk ρ .brk h trivial I r)))
theorem DD {B:Around}{env:Env}{Q:Flow→List (Str×V)→H→Prop}(o:nY c B env)(q:∀A₁ K₁ X₁ f ρ₁ fl h',fR A₁ f fl→Is c.W A₁ K₁ X₁ h'→R A₁ K₁ X₁ f ρ₁→Q fl (dT A₁ ρ₁) h'):
  ∀A₁ K₁ X₁ f ρ₁ fl h',fR A₁ f fl→Is c.W A₁ K₁ X₁ h'→sq c l R A₁ K₁ X₁ f ρ₁→(match fl with
   | .next=>SW c.W B env (execs l env) (dT A₁ ρ₁) h' Q
   |f=>Q f (dT A₁ ρ₁) h'):=λA₁ K₁ X₁ f ρ₁ fl h' e I' r=>by
 cases f<;>cases fl<;>first|exact e.elim|exact r o I' q|exact q _ _ _ _ _ _ _ e I' r
theorem nE {s t:List Stmt}(k:GB c e ρ A K X λA₁ K₁ X₁ b=>Nx A A₁ ρ (IG b (GS c s ρ A₁ K₁ X₁ (sq c l R)) (GS c t ρ A₁ K₁ X₁ (sq c l R)))):GS c (.If e s t p::l) ρ A K X R:=λB env h Q o I q=>by
 refine eD ?_
 show SW c.W B env (do standAt p;if←isTrue e env (eval e env) then execs s env else execs t env) (dT A ρ) h _
 exact SW.bind (SW.at_ (SW.eb (k o I λA₁ K₁ X₁ b h' I' n=>match b,n with
  |true,n=>n.e▸n.k.a rfl o I' (DD o q)
  |false,n=>n.e▸n.k.b rfl o I' (DD o q))))
theorem iQ {s t:List Stmt}(k:jo c e ρ A K X true)(k1:GS c s ρ A K X (sq c l R)):GS c (.If e s t p::l) ρ A K X R:=nE (oB k ⟨rfl,λ_=>k1,nofun⟩)
theorem Ip {s t:List Stmt}(k:jo c e ρ A K X false)(k1:GS c t ρ A K X (sq c l R)):GS c (.If e s t p::l) ρ A K X R:=nE (oB k ⟨rfl,nofun,λ_=>k1⟩)
theorem da {s:List Stmt}(k:jo c e ρ A K X false)(k1:GS c l ρ A K X R):GS c (.If e s [] p::l) ρ A K X R:=Ip k (ar k1)
theorem CU {s:List Stmt}{hs:List ExceptHandler}(k:GS c s ρ A K X (sq c l R)):GS c (.Try s hs [] [] p::l) ρ A K X R:=λB env h Q o I q=>by
 refine eD ?_
 show SW c.W B env (do standAt p;tryStmt false (execs s env) hs (execs [] env) [] env) (dT A ρ) h _
 refine SW.bind (SW.at_ ?_)
 unfold tryStmt
 intro fr st F
 refine a7 (jy (a9 (k (Q:=λfl vars' h'=>match fl with
   | .next=>SW c.W B env (execs l env) vars' h' Q
   |f=>Q f vars' h') o I (DD o q) fr st F) λfl s' zz=>bq λzq=> ?_))
 rcases zz with ⟨vars',h',F',r⟩
 apply zq;clear zq
 cases fl<;>exact a8 ⟨vars',h',F',r⟩
theorem uT {t':Expr}{z:Value}{W:Wd}{B:Around}{env:Env}{vars:List (Str×V)}{h:H}{Q:Flow→List (Str×V)→H→Prop}(ns:cy t'=false)(hs:swappedStores [t'] v' env=pure none)(k:SW W B env (assign t' env z) vars h λ_ vars' h'=>Q .next vars' h'):
  SW W B env (do assignStores env z (←swappedStores [t'] v' env) ((assignEach [t'] env).map (·.2))) vars h Q:=by
 rw [hs,g7 ns]
 show SW W B env (do assign t' env z;pure Flow.next) vars h Q
 exact SW.bind (k.mono λ_ vars' h' q=>SW.pure q)
theorem ke {t:Expr}(ns:cy t=false)(s1:∀n env,swapsWithSole [t] e n env=pure false)(s2:∀env,swappedStores [t] e env=pure none)
  (k:GE c e ρ A K X λA₁ K₁ X₁ u=>Nx A A₁ ρ (GA c t u ρ A₁ K₁ X₁ λA₂ K₂ X₂ ρ₂=>GS c l ρ₂ A₂ K₂ X₂ R)):GS c (.Assign [t] e p::l) ρ A K X R:=λB env h Q o I q=>by
 refine eD (SW.eq (arm_exec_Assign ..) (SW.bind (SW.at_ ?_)))
 rw [s1]
 show SW c.W B env (do
   let u←eval e env
   assignStores env u (←swappedStores [t] e env) ((assignEach [t] env).map (·.2))) (dT A ρ) h _
 exact SW.eb (k o I λA₁ K₁ X₁ u z h' ez I' n=>uT ns (s2 env) (n.e▸n.k o I' ez λA₂ K₂ X₂ ρ₂ h₂ I₂ r=>r o I₂ q))
end
end
section
section
variable {c:Cn}{ρ:KV}{A:Id→Addr}{K:KS}{X:H} {u v w x y z:VI}{us:List VI}{e a b:Expr}{p q:Pos}{l:List Stmt}{R:oz}
theorem re {t:Expr}(nc:hG e=false):∀n env,swapsWithSole [t] e n env=pure false:=λn env=>by cases e<;>first|rfl|cases nc
theorem cE {id:Str}(nc:hG e=false)(kd:Fy c.fn (c.sc.names.lookup id)=true)(k:GE c e ρ A K X λA₁ K₁ X₁ u=>Nx A A₁ ρ (GS c l (aU id u ρ) A₁ K₁ X₁ R)):GS c (.Assign [.Name id q] e p::l) ρ A K X R:=
 ke rfl (re nc) (λ_=>rfl) λB env h Q o I kq=>k o I λA₁ K₁ X₁ u v h' ev I' n=>kq A₁ K₁ X₁ u v h' ev I' ⟨n.e,dQ kd n.k⟩
theorem mU {id:Str}(nc:hG e=false)(kd:Fy c.fn (c.sc.names.lookup id)=true)(k:GV c e ρ A K X u)(r:GS c l (aU id u ρ) A K X R):GS c (.Assign [.Name id q] e p::l) ρ A K X R:=cE nc kd (cR k ⟨rfl,r⟩)
theorem aC {n:Str}(nc:hG e=false)(k1:GV c e ρ A K X u)(k2:GV c a ρ A K X w)(k:GT c.W w n u A K X λK₁ X₁=>GS c l ρ A K₁ X₁ R):GS c (.Assign [.Attribute a n q] e p::l) ρ A K X R:=
 ke rfl (re nc) (λ_=>rfl) (cR k1 ⟨rfl,zr k2 k⟩)
theorem tO (nc:hG e=false)(k1:GV c e ρ A K X u)(k2:GV c a ρ A K X w)(k3:GV c b ρ A K X x)(k:GI c.W w x u A K X λK₁ X₁=>GS c l ρ A K₁ X₁ R):GS c (.Assign [.Subscript a b q] e p::l) ρ A K X R:=
 ke rfl (re nc) (λ_=>rfl) (cR k1 ⟨rfl,r7 k2 k3 k⟩)
theorem C8 {n:Nat}{ts:List Expr}(nc:hG e=false)(s2:∀env,swappedStores [.Tuple ts n q] e env=pure none)(k:GE c e ρ A K X λA₁ K₁ X₁ u=>Nx A A₁ ρ (∃us,HD c.W A₁ K₁ X₁ u us∧Lz c ts us ρ A₁ K₁ X₁ λA₂ K₂ X₂ ρ₂=>GS c l ρ₂ A₂ K₂ X₂ R)):
  GS c (.Assign [.Tuple ts n q] e p::l) ρ A K X R:=ke rfl (re nc) s2 λB env h Q o I kq=>k o I λA₁ K₁ X₁ u v h' ev I' z=>z.k.elim λus w=>kq A₁ K₁ X₁ u v h' ev I' ⟨z.e,Bd w.1 w.2⟩
theorem ou {ts:List Expr}{f:Expr→Option Str}(hf:∀t,AR t=false→f t=none)(q:ts.any (λt=> !AR t)=true):(ts.filterMap f).length<ts.length:=by
 induction ts with
 |nil=>cases q
 |cons t r ih=>
  rw [List.filterMap_cons]
  have le:(r.filterMap f).length≤r.length:=List.length_filterMap_le ..
  cases k:AR t with
  |false=>rw [hf t k];exact Nat.lt_succ_of_le le
  |true=>
   have q:(!AR t||r.any λt=> !AR t)=true:=q
   rw [k] at q
   have:=ih q
   split
   ·exact Nat.lt_succ_of_lt this
   ·exact Nat.succ_lt_succ this
theorem mc {ts vs:List Expr}{n n':Nat}{p p':Pos}(q:ts.any (λt=> !AR t)=true):∀env,swappedStores [.Tuple ts n p] (.Tuple vs n' p') env=pure none:=λenv=>by
 unfold swappedStores
 dsimp only
 have short:=ou (ts:=ts) (f:=fun
  | .Name id pos=>if env.kindOf id==some .local&&pos.line==((ts.head?.map (·.pos.line)).getD 0) then some id else none
  |_=>none) (λt ht=>by cases t<;>first|rfl|cases ht) q
 split
 ·rfl
 ·split
  ·rfl
  ·rw [if_pos]
   rw [Bool.or_eq_true];left
   rw [bne_iff_ne]
   exact Nat.ne_of_lt short
noncomputable def NK (op:Operator)(x y v:VI):Prop:=∀⦃W:Wd⦄ ⦃B:Around⦄ ⦃A:Id→Addr⦄ ⦃h:H⦄ ⦃u w:Value⦄ ⦃Q:Value→H→Prop⦄,er u=den A x→er w=den A y→(∀z,er z=den A v→Q z h)→TW W B (inplaceOp op u w) h Q
theorem mX {i j:Int}:NK .Add (.int i) (.int j) (.int (i+j)):=λW B A h u w Q eu ew q fr s Rr=>by
 obtain ⟨t,rfl⟩:=au eu;obtain ⟨t',rfl⟩:=au ew
 exact PyProof.Rows.iadd_int ⟨h,Rr.tok _,q _ rfl⟩
theorem KT {i j:Int}:NK .Sub (.int i) (.int j) (.int (i - j)):=λW B A h u w Q eu ew q fr s Rr=>by
 obtain ⟨t,rfl⟩:=au eu;obtain ⟨t',rfl⟩:=au ew
 exact PyProof.Rows.isub_int ⟨h,Rr.tok _,q _ rfl⟩
theorem MV {id:Str}{op:Operator}(kd:H2 (c.sc.names.lookup id)=true)(kw:Fy c.fn (c.sc.names.lookup id)=true)(hv:ρ.lookup id=some x)(n1:(id==("__classdict__":Str))=false)(n2:(id==("__debug__":Str))=false)(k2:GV c e ρ A K X y)(t:NK op x y v)
  (k:GS c l (aU id v ρ) A K X R):GS c (.AugAssign (.Name id q) op e p::l) ρ A K X R:=λB env h Q o I kq=>by
 refine eD (SW.eq (arm_exec_AugAssign ..) (SW.bind (SW.at_ (SW.eb ?_))))
 have hx:(dT A ρ).lookup id=some (den A x):=by rw [cH,hv];rfl
 have fin:∀z,er z=den A x→SW c.W B env (do
   let u←holding [z] (eval e env)
   standAt p
   let r←operate [z,u] (inplaceOp op z u)
   standAt q
   bindName env id r
   pure Flow.next) (dT A ρ) h λfl vars' h'=>match fl with
    | .next=>SW c.W B env (execs l env) vars' h' Q
    |f=>Q f vars' h':=λz ez=>SW.eb (EW.hold (k2 o I λu h' eu I'=>SW.bind (SW.at_ (SW.eb (bc (EW.lift (t ez eu λr er=>SW.bind (SW.at_ (SW.bind (oT o kw er (SW.pure (k o I' kq))))))))))))
 rw [←o.kind] at kd
 cases k:env.kindOf id with
 |none=>rw [k] at kd;cases kd
 |some k'=>
  rw [k] at kd
  cases k' with
  |«local»=>exact wM o.fk k hx fin
  |cell=>exact oP o.fk (.inl k) hx n1 fin
  |free=>exact oP o.fk (.inr k) hx n1 fin
  |_=>cases kd
theorem rk {n:Str}{op:Operator}{C d:Addr}{kv:KV}(k1:GV c a ρ A K X w)(oi:OI c.W A K X w C d kv)(hl:kv.lookup n=some x)(k2:GV c e ρ A K X y)(t:NK op x y v)(k:GT c.W w n v A K X λK₁ X₁=>GS c l ρ A K₁ X₁ R):
  GS c (.AugAssign (.Attribute a n q) op e p::l) ρ A K X R:=λB env h Q o I kq=>by
 refine eD (SW.eq (arm_exec_AugAssign_2 ..) (SW.bind (SW.at_ (SW.eb (k1 o I λov h' ev I'=> ?_)))))
 have ⟨d',ea,h1,h2,ok⟩:=oi I'
 have l':=cH A n kv
 rw [hl] at l'
 have e1:=ah (ev.trans ea)
 rw [e1] at ev⊢
 refine SW.eb (EW.hold (EW.ba (EW.bind (EW.lift (pu h1 h2 (by rw [I'.hW];exact (an (gO ok hl)).1) l' (Dt A x) λold eo=>EW.bind (EW.hold (k2 o I' λw' h'' ew I''=>EW.ba (bc (EW.lift (t eo ew λr er=> ?_))))))))))
 exact SW.bind (SW.at_ (SW.eb (EW.hold (EW.lift (k I'' ev er λK₁ X₁ h₃ I₃ r'=>SW.eb (EW.lift (fE (SW.pure (r' o I₃ kq)))))))))
noncomputable def GD (W:Wd)(u k:VI)(A:Id→Addr)(K:KS)(X:H)(R:KS→H→Prop):Prop:=
 ∀⦃B h o i⦄ ⦃Q:Unit→H→Prop⦄,Is W A K X h→er o=den A u→er i=den A k→(∀K₁ X₁ h',Is W A K₁ X₁ h'→R K₁ X₁→Q () h')→TW W B (delItem o i) h Q
theorem NP (k1:GV c a ρ A K X w)(k2:GV c b ρ A K X x)(k:GD c.W w x A K X λK₁ X₁=>GS c l ρ A K₁ X₁ R):GS c (.Delete [.Subscript a b q] p::l) ρ A K X R:=λB env h Q o I kq=>by
 refine eD ?_
 show SW c.W B env (do
  standAt p
  (do
   (do
    let ov←eval a env
    let iv←holding [ov] (eval b env)
    standAt q
    holding [ov,iv] (delItem ov iv)
    release [ov,iv] [])
   pure ())
  pure Flow.next) (dT A ρ) h _
 exact SW.bind (SW.at_ (SW.bind (SW.bind (SW.of_EW (EW.bind (k1 o I λu h' eu I'=>EW.bind (EW.hold (k2 o I' λi h'' ei I''=>EW.ba (EW.bind (EW.hold (EW.lift (k I'' eu ei λK₁ X₁ h₃ I₃ r=>EW.lift (fE (SW.pure (SW.pure (r o I₃ kq))))))))))))))))
noncomputable abbrev ml (X' X:H):Prop:=∀c o,X' c=some o→X c=some o
inductive Fo (X:H)(P:H→Prop):Prop where
 |mk (X':H) (s:ml X' X) (k:P X')
theorem fL {l:List Stmt}(k:GS c l ρ A K X λA₁ K₁ X₁ f ρ'=>Fo X₁ λX=>R A₁ K₁ X f ρ'):GS c l ρ A K X R:=λB env h Q o I q=>k o I λA₁ K₁ X₁ f ρ' fl h' ef I' z=>by rcases z with ⟨X,s,r⟩;exact q A₁ K₁ X f ρ' fl h' ef (I'.drop s) r
theorem mj {l:List Stmt}{X':H}(s:ml X' X)(k:GS c l ρ A K X' R):GS c l ρ A K X R:=λB env h Q o I q=>k o (I.drop s) q
theorem dh {l:List Stmt}(k:K.Wf→GS c l ρ A K X R):GS c l ρ A K X R:=λB env h Q o I q=>k I.wf o I q
theorem ai {X:H}{c:Addr}{o:O}(hc:X c=none):ml X (X.put c o):=λa x e=>by rw [H.put_ne λq=>by rw [q,hc] at e;cases e];exact e
theorem m8 {X X':H}{c:Addr}{o:O}(s:ml X' X):ml (X'.put c o) (X.put c o):=λa x e=>by
 by_cases q:a=c
 ·subst q;rw [H.put_same] at e⊢;exact e
 ·rw [H.put_ne q] at e⊢;exact s a x e
theorem kI {X:H}{c g:Addr}{o:O}(h:X.put g o c=none):X c=none:=by
 by_cases q:c=g
 ·subst q;rw [H.put_same] at h;cases h
 ·rwa [H.put_ne q] at h
noncomputable def lp (c:Cn)(l:List Stmt)(R:oz)(N:SV KV):oz:=λA K X f ρ=>match f with
 | .next=>N A K X ρ
 | .brk=>GS c l ρ A K X R
 | .ret v=>R A K X (.ret v) ρ
theorem sk {l:List Stmt}{N N':SV KV}{A₁:Id→Addr}{K₁:KS}{X₁:H}{f:FI}{ρ₁:KV}(r:lp c l R N A₁ K₁ X₁ f ρ₁)(m:∀A K X ρ,N A K X ρ→N' A K X ρ):lp c l R N' A₁ K₁ X₁ f ρ₁:=by
 cases f with
 |next=>exact m _ _ _ _ r
 |_=>exact r
theorem Ix {B:Around}{env:Env}{l:List Stmt}{N:SV KV}{M:List (Str×V)→H→Prop}{Q:Flow→List (Str×V)→H→Prop}(o:nY c B env)(q:∀A₁ K₁ X₁ f ρ₁ fl h',fR A₁ f fl→Is c.W A₁ K₁ X₁ h'→R A₁ K₁ X₁ f ρ₁→Q fl (dT A₁ ρ₁) h')(m:∀A₂ K₂ X₂ ρ h,Is c.W A₂ K₂ X₂ h→N A₂ K₂ X₂ ρ→M (dT A₂ ρ) h):
  ∀A₁ K₁ X₁ f ρ₁ fl h',fR A₁ f fl→Is c.W A₁ K₁ X₁ h'→lp c l R N A₁ K₁ X₁ f ρ₁→Lr M (λv h=>SW c.W B env (execs l env) v h Q) (λv=>Q (.ret v)) fl (dT A₁ ρ₁) h':=λA₁ K₁ X₁ f ρ₁ fl h' e I' r=>by
 cases f<;>cases fl<;>first|exact e.elim|exact m _ _ _ _ _ I' r|exact r o I' q|exact q _ _ _ _ _ _ _ e I' r
noncomputable def Lo (W:Wd)(I:SV KV)(vars:List (Str×V))(h:H):Prop:=∃A K X ρ,vars=dT A ρ∧Is W A K X h∧I A K X ρ
@[elab_as_elim] theorem Lo.el {W:Wd}{I:SV KV}{vars:List (Str×V)}{h:H}{P:List (Str×V)→Prop}(z:Lo W I vars h)(k:∀A K X ρ,Is W A K X h→I A K X ρ→P (dT A ρ)):P vars:=by
 rcases z with ⟨A,K,X,ρ,rfl,i,j⟩;exact k A K X ρ i j
inductive E4 (A:Id→Addr)(K:KS)(X:H)(ρ:KV):SV KV
 |rfl:E4 A K X ρ A K X ρ
theorem E4.of {A A₁:Id→Addr}{K K₁:KS}{X X₁:H}{ρ ρ₁:KV}(e:A₁=A)(e1:K=K₁)(e2:X=X₁)(e3:ρ=ρ₁):E4 A K X ρ A₁ K₁ X₁ ρ₁:=by subst e e1 e2 e3;exact .rfl
theorem Pb {t:Bool}{P Q:Prop}(a:t=true→P)(b:t=false→Q):if t=true then P else Q:=by
 cases t
 ·exact b rfl
 ·exact a rfl
theorem Jh {s:List Stmt}(I:Nat→SV KV){n:Nat}(i0:I n A K X ρ)
  (k:∀n A₁ K₁ X₁ ρ₁,I n A₁ K₁ X₁ ρ₁→GB c e ρ₁ A₁ K₁ X₁ λA₂ K₂ X₂ t=>Nx A₁ A₂ ρ₁ (IG t (GS c s ρ₁ A₂ K₂ X₂ (lp c l R λA₂ K₂ X₂ ρ=>∃m,m<n∧I m A₂ K₂ X₂ ρ)) (GS c l ρ₁ A₂ K₂ X₂ R))):GS c (.While e s [] p::l) ρ A K X R:=λB env h Q o I' q=>by
 refine eD (Ce (λn=>Lo c.W (I n)) n ⟨A,K,X,ρ,rfl,I',i0⟩ λn vars' h' z=>z.el λA₁ K₁ X₁ ρ₁ I₁ i=>k n A₁ K₁ X₁ ρ₁ i o I₁ λA₂ K₂ X₂ t h₂ I₂ k₂=>Pb (λz=> ?_) λz=> ?_)
 ·exact k₂.e▸k₂.k.a z o I₂ (Ix (M:=λvars' h'=>∃m,m<n∧Lo c.W (I m) vars' h') o q λA₂ K₂ X₂ ρ h I z=>z.elim λm z=>⟨m,z.1,A₂,K₂,X₂,ρ,rfl,I,z.2⟩)
 ·exact k₂.e▸SW.pure (k₂.k.b z o I₂ q)
theorem J8 {α:Type}{s:List Stmt}(f:α→KS)(g:α→H)(rho:α→KV)(ok:Nat→α→Prop)(y0:α){n:Nat}(e0:f y0=K)(e1:g y0=X)(er:rho y0=ρ)(i0:ok n y0)
  (k:∀n y,ok n y→GB c e (rho y) A (f y) (g y) λA₂ K₂ X₂ t=>Nx A A₂ (rho y) (IG t (GS c s (rho y) A₂ K₂ X₂ (lp c l R λA₃ K₃ X₃ ρ=>A₃=A∧∃m y',m<n∧ok m y'∧f y'=K₃∧g y'=X₃∧rho y'=ρ)) (GS c l (rho y) A₂ K₂ X₂ R))):GS c (.While e s [] p::l) ρ A K X R:=by
 subst e0 e1 er
 refine Jh (λn A₁ K₁ X₁ ρ=>∃y,ok n y∧E4 A (f y) (g y) (rho y) A₁ K₁ X₁ ρ) (n:=n) ⟨y0,i0,.rfl⟩ λn A₁ K₁ X₁ ρ z=>z.elim λy z=>z.2.rec ?_
 exact λB env h Q oo I q=>k n y z.1 oo I λA₂ K₂ X₂ t h' I' r=>q A₂ K₂ X₂ t h' I' ⟨r.e,λe B env h Q o I q=>r.k.a e o I λA₂ K₂ X₂ f ρ' fl h' ef I' r=>q A₂ K₂ X₂ f ρ' fl h' ef I' (sk r λA K X ρ z=>by
  rcases z with ⟨ea,m,y',l,o,e1,e2,e3⟩;exact ⟨m,l,y',o,.of ea e1 e2 e3⟩),r.k.b⟩
noncomputable def BW (W:Wd)(A:Id→Addr)(K:KS)(X:H)(s:gu)(i:Nat)(R:SV VI):Prop:=∀⦃h⦄ ⦃Q:V→H→Prop⦄,Is W A K X h→(∀A₁ K₁ X₁ u h',Is W A₁ K₁ X₁ h'→R A₁ K₁ X₁ u→Q (den A₁ u) h')→s.give h Q i
noncomputable def GR (c:Cn)(e t:Expr)(ρ:KV)(A:Id→Addr)(K:KS)(X:H)(R:SV gu):Prop:=(∀env,∀x,foldedSetIterable e env x=pure x)∧
 ∀⦃B env h⦄ ⦃Q:gu→H→Prop⦄,nY c B env→Is c.W A K X h→(∀A₁ K₁ X₁ s h',s.fits t=true→Is c.W A₁ K₁ X₁ h'→R A₁ K₁ X₁ s→Q s h')→oq c.W B env (dT A ρ) (eval e env) h Q
theorem lh {t:Expr}{s:List Stmt}(k:GR c e t ρ A K X λA₁ K₁ X₁ sr=>Nx A A₁ ρ (∃I:Nat→SV KV,I 0 A₁ K₁ X₁ ρ∧(∀i A₂ K₂ X₂ ρ',i<sr.len→I i A₂ K₂ X₂ ρ'→(∀⦃h⦄,Is c.W A₂ K₂ X₂ h→sr.ok h)∧BW c.W A₂ K₂ X₂ sr i λA₃ K₃ X₃ x=>Nx A₂ A₃ ρ'
   (GA c t x ρ' A₃ K₃ X₃ λA₃ K₃ X₃ ρ2=>GS c s ρ2 A₃ K₃ X₃ (lp c l R (I (i+1)))))∧(∀A₂ K₂ X₂ ρ',I sr.len A₂ K₂ X₂ ρ'→(∀⦃h⦄,Is c.W A₂ K₂ X₂ h→sr.ok h)∧GS c l ρ' A₂ K₂ X₂ R))):GS c (.For t e s [] p::l) ρ A K X R:=λB env h Q o I' q=>
 eD (J7 o.room.2.2 (k.1 env) (k.2 o I' λA₁ K₁ X₁ sr h₁ ft I₁ n=>⟨ft,n.k.elim λI z=>⟨λi=>Lo c.W (I i),⟨A₁,K₁,X₁,ρ,n.e.symm,I₁,z.1⟩,
  λi vars' h' hi z'=>z'.el λA₂ K₂ X₂ ρ' I₂ i2=>have w:=z.2.1 i A₂ K₂ X₂ ρ' hi i2
   ⟨w.1 I₂,w.2 I₂ λA₃ K₃ X₃ x h₃ I₃ n z ez=>n.e▸n.k o I₃ ez λA₄ K₄ X₄ ρ4 h₄ I₄ r=>r o I₄ (Ix (M:=Lo c.W (I (i+1))) o q λA₂ K₂ X₂ ρ h I i=>⟨A₂,K₂,X₂,ρ,rfl,I,i⟩)⟩,
  λvars' h' z'=>z'.el λA₂ K₂ X₂ ρ' I₂ i2=>have w:=z.2.2 A₂ K₂ X₂ ρ' i2;⟨w.1 I₂,SW.pure (w.2 o I₂ q)⟩⟩⟩))
theorem yE {α:Type}{t:Expr}{s:List Stmt}{sr:gu}{N:Nat}(f:Nat→α→KS)(g:Nat→α→H)(rho:Nat→α→KV)(y0:α)(e0:f 0 y0=K)(e1:g 0 y0=X)(er:rho 0 y0=ρ)(hs:GR c e t ρ A K X λA₁ K₁ X₁ s=>A₁=A∧K₁=K∧X₁=X∧s=sr)(hN:sr.len=N)(ok:∀i y ⦃h⦄,Is c.W A (f i y) (g i y) h→sr.ok h)
  (x:Nat→VI) (it:∀i y,i<N→BW c.W A (f i y) (g i y) sr i λA₁ K₁ X₁ u=>A₁=A∧K₁=f i y∧X₁=g i y∧u=x i)
  (st:∀i y,i<N→GA c t (x i) (rho i y) A (f i y) (g i y) λA₁ K₁ X₁ ρ=>GS c s ρ A₁ K₁ X₁ (lp c l R λA₂ K₂ X₂ ρ=>A₂=A∧∃y,f (i+1) y=K₂∧g (i+1) y=X₂∧rho (i+1) y=ρ)) (fin:∀y,GS c l (rho N y) A (f N y) (g N y) R):
  GS c (.For t e s [] p::l) ρ A K X R:=by
 subst hN e0 e1 er
 refine lh ⟨hs.1,λB env h Q o I q=>hs.2 o I λA₁ K₁ X₁ s h' ft I' w=>q A₁ K₁ X₁ s h' ft I' ⟨by rw [w.1],?_⟩⟩
 rw [w.1,w.2.1,w.2.2.1,w.2.2.2]
 exact ⟨λi A₁ K₁ X₁ ρ=>∃y,E4 A (f i y) (g i y) (rho i y) A₁ K₁ X₁ ρ,⟨y0,.rfl⟩,
  λi A₁ K₁ X₁ ρ hi z=>z.elim λy z=>z.rec ⟨ok i y,λh Q I q=>it i y hi I λA₁ K₁ X₁ u h' I' w=>q A₁ K₁ X₁ u h' I' (by
   rw [w.1,w.2.1,w.2.2.1,w.2.2.2]
   exact ⟨rfl,λB env h v Q o I ev q=>st i y hi o I ev λA K X ρ h I r=>q A K X ρ h I λB env h Q o I q=>r o I λA₂ K₂ X₂ f ρ' fl h' ef I' r=>q A₂ K₂ X₂ f ρ' fl h' ef I' (sk r λA K X ρ z=>z.2.elim λy e=>⟨y,.of z.1 e.1 e.2.1 e.2.2⟩)⟩)⟩,
  λA₁ K₁ X₁ ρ z=>z.elim λy z=>z.rec ⟨ok _ y,fin y⟩⟩
theorem dF {env:Env}(q:jr e=false):∀x,foldedSetIterable e env x=pure x:=λx=>by cases e<;>first|rfl|cases q
end
end
section
section
variable {W:Wd}{A:Id→Addr}{K:KS}{X h:H}
theorem cz {α:Type}{f:Nat→α}{i j:Nat}{a:α}(P:α→Prop)(h1:j=i→P a)(h2:j≠i→P (f j)):P (upd f i a j):=by
 unfold upd;split
 ·exact h1 ‹_›
 ·exact h2 ‹_›
theorem KS.Wf.setProc {i:Nat}{p:aa}(w:K.Wf)(h1:∀q,p.parent=some q→q<6)(h2:∀d,p.files=some d→d<K.nd):(K.setProc i p).Wf:=
 {w with par:=λj hj=>cz (λp:aa=>∀q,p.parent=some q→q<6) (λ_=>h1) λ_=>w.par j hj,files:=λj hj=>cz (λp:aa=>∀q,p.files=some q→q<K.nd) (λ_=>h2) λ_=>w.files j hj}
theorem Is.setProc {i:Nat}{p:aa}(I:Is W A K X h)(on:K.on=true)(hi:i<6)(hc:p.chan=(K.proc i).chan∨p.chan.ok X)(h1:∀q,p.parent=some q→q<6)(h2:∀d,p.files=some d→d<K.nd)(hr:p.regs=(K.proc i).regs):
  Is W A (K.setProc i p) X (h.put (A (.procD i)) (.attrs (dT A (lD i p)))):=by
 refine I.put (xd:= .procD i) (by unfold KS.obj;rw [show K.ob A (.procD i)=_ from if_pos ⟨on,hi⟩];nofun) ?_ rfl (λy hy=> ?_) (λj hj=> ?_) (λw e p hp=>I.told w e p hp) (I.wf.setProc h1 h2)
 ·show Option.map OK.o (if K.on=true∧i<6 then some (.attrs (dT A (lD i (upd K.proc i p i)))) else none)=_
  rw [aj];exact cU ⟨on,hi⟩
 ·cases y with
  |procD j=>
   have e:upd K.proc i p j=K.proc j:=av λe=>hy (e▸rfl)
   refine ⟨?_,rfl⟩
   show Option.map OK.o (if K.on=true∧j<6 then some (.attrs (dT A (lD j (upd K.proc i p j)))) else none)=_
   rw [e];rfl
  |regs j=>
   refine ⟨rfl,?_⟩
   show (upd K.proc i p j).regs=(K.proc j).regs
   exact cz (λp:aa=>p.regs=(K.proc j).regs) (λe=>e▸hr) λ_=>rfl
  |_=>exact ⟨rfl,rfl⟩
 ·exact cz (λp:aa=>p.chan=(K.proc j).chan∨p.chan.ok X) (λe=>e▸hc) λ_=> .inl rfl
theorem KS.Wf.setPipe {i:Nat}{p:ac}(w:K.Wf)(h1:p.ring.length=p.size∧0<p.size∧p.size≤4):(K.setPipe i p).Wf:=
 {w with ring:=λj hj=>cz (λp:ac=>p.ring.length=p.size∧0<p.size∧p.size≤4) (λ_=>h1) λ_=>w.ring j hj}
theorem gI {x:Id}{o:OK}(e:K.ob A x=some o):K.obj A x≠none:=by unfold KS.obj;rw [e];nofun
theorem Is.setPipeD {i:Nat}{p:ac}(I:Is W A K X h)(hi:i<K.np)(hr:p.ring=(K.pipe i).ring)(hs:p.size=(K.pipe i).size):
  Is W A (K.setPipe i p) X (h.put (A (.pipeD i)) (.attrs (dT A (oJ i p)))):=by
 refine I.put (xd:= .pipeD i) (gI (if_pos hi)) ?_ rfl (λy hy=> ?_) (λj hj=> .inl rfl) (λw e p hp=>I.told w e p hp) (I.wf.setPipe (by rw [hr,hs];exact I.wf.ring i hi))
 ·show Option.map OK.o (if i<K.np then some (.attrs (dT A (oJ i (upd K.pipe i p i)))) else none)=_
  rw [aj];exact cU hi
 ·cases y with
  |pipeD j=>
   have e:upd K.pipe i p j=K.pipe j:=av λe=>hy (e▸rfl)
   refine ⟨?_,rfl⟩
   show Option.map OK.o (if j<K.np then some (.attrs (dT A (oJ j (upd K.pipe i p j)))) else none)=_
   rw [e];rfl
  |ring j=>
   have e:(upd K.pipe i p j).ring=(K.pipe j).ring:=cz (λp:ac=>p.ring=(K.pipe j).ring) (λe=>e▸hr) λ_=>rfl
   refine ⟨?_,rfl⟩
   show Option.map OK.o (if j<K.np then some (.barr (upd K.pipe i p j).ring) else none)=_
   rw [e];rfl
  |_=>exact ⟨rfl,rfl⟩
theorem Is.setRing {i:Nat}{r:List UInt8}(I:Is W A K X h)(hi:i<K.np)(hr:r.length=(K.pipe i).ring.length):Is W A (K.setPipe i {K.pipe i with ring:=r}) X (h.put (A (.ring i)) (.barr r)):=by
 refine I.put (xd:= .ring i) (gI (if_pos hi)) ?_ rfl (λy hy=> ?_) (λj hj=> .inl rfl) (λw e p hp=>I.told w e p hp) (I.wf.setPipe (by have:=I.wf.ring i hi;exact ⟨hr.trans this.1,this.2⟩))
 ·show Option.map OK.o (if i<K.np then some (.barr (upd K.pipe i {K.pipe i with ring:=r} i).ring) else none)=_
  rw [aj];exact cU hi
 ·cases y with
  |pipeD j=>
   have e:oJ j (upd K.pipe i {K.pipe i with ring:=r} j)=oJ j (K.pipe j):=cz (λp:ac=>oJ j p=oJ j (K.pipe j)) (λe=>by rw [e];rfl) λ_=>rfl
   refine ⟨?_,rfl⟩
   show Option.map OK.o (if j<K.np then some (.attrs (dT A (oJ j (upd K.pipe i {K.pipe i with ring:=r} j)))) else none)=_
   rw [e];rfl
  |ring j=>
   have e:upd K.pipe i {K.pipe i with ring:=r} j=K.pipe j:=av λe=>hy (e▸rfl)
   refine ⟨?_,rfl⟩
   show Option.map OK.o (if j<K.np then some (.barr (upd K.pipe i {K.pipe i with ring:=r} j).ring) else none)=_
   rw [e];rfl
  |_=>exact ⟨rfl,rfl⟩
theorem Is.setFile {i:Nat}{r:fX}(I:Is W A K X h)(hi:i<K.nf)(hp:r.pipe<K.np):Is W A (K.setFile i r) X (h.put (A (.fileD i)) (.attrs (dT A (vh r)))):=by
 refine I.put (xd:= .fileD i) (gI (if_pos hi)) ?_ rfl (λy hy=> ?_) (λj hj=> .inl rfl) (λw e p hp=>I.told w e p hp) {I.wf with fpipe:=λj hj=>cz (λr:fX=>r.pipe<K.np) (λ_=>hp) λ_=>I.wf.fpipe j hj}
 ·show Option.map OK.o (if i<K.nf then some (.attrs (dT A (vh (upd K.file i r i)))) else none)=_
  rw [aj];exact cU hi
 ·cases y with
  |fileD j=>
   have e:upd K.file i r j=K.file j:=av λe=>hy (e▸rfl)
   refine ⟨?_,rfl⟩
   show Option.map OK.o (if j<K.nf then some (.attrs (dT A (vh (upd K.file i r j)))) else none)=_
   rw [e];rfl
  |_=>exact ⟨rfl,rfl⟩
theorem Is.setSlots {d:Nat}{l:List (Option Nat)}(I:Is W A K X h)(hd:d<K.nd)(h1:l.length=6)(h2:∀f,some f∈l→f<K.nf):Is W A (K.setDesc d l) X (h.put (A (.slots d)) (.list (dL A (l.map (eY .file))))):=by
 refine I.put (xd:= .slots d) (gI (if_pos hd)) ?_ rfl (λy hy=> ?_) (λj hj=> .inl rfl) (λw e p hp=>I.told w e p hp)
  {I.wf with slot:=λj hj=>cz (λl:List (Option Nat)=>∀f,some f∈l→f<K.nf) (λ_=>h2) λ_=>I.wf.slot j hj,six:=λj hj=>cz (λl:List (Option Nat)=>l.length=6) (λ_=>h1) λ_=>I.wf.six j hj}
 ·show Option.map OK.o (if d<K.nd then some (.list (dL A ((upd K.desc d l d).map (eY .file)))) else none)=_
  rw [aj];exact cU hd
 ·cases y with
  |slots j=>
   have e:upd K.desc d l j=K.desc j:=av λe=>hy (e▸rfl)
   refine ⟨?_,rfl⟩
   show Option.map OK.o (if j<K.nd then some (.list (dL A ((upd K.desc d l j).map (eY .file)))) else none)=_
   rw [e];rfl
  |_=>exact ⟨rfl,rfl⟩
theorem Is.setRow {i:Nat}{r:c6}(I:Is W A K X h)(hi:i<K.nr)(hp:r.proc<6):Is W A (K.setRow i r) X (h.put (A (.row i)) (.attrs (dT A (mw r)))):=by
 refine I.put (xd:= .row i) (gI (if_pos hi)) ?_ rfl (λy hy=> ?_) (λj hj=> .inl rfl) (λw e p hp=>I.told w e p hp) {I.wf with rowp:=λj hj=>cz (λr:c6=>r.proc<6) (λ_=>hp) λ_=>I.wf.rowp j hj}
 ·show Option.map OK.o (if i<K.nr then some (.attrs (dT A (mw (upd K.row i r i)))) else none)=_
  rw [aj];exact cU hi
 ·cases y with
  |row j=>
   have e:upd K.row i r j=K.row j:=av λe=>hy (e▸rfl)
   refine ⟨?_,rfl⟩
   show Option.map OK.o (if j<K.nr then some (.attrs (dT A (mw (upd K.row i r j)))) else none)=_
   rw [e];rfl
  |_=>exact ⟨rfl,rfl⟩
theorem Is.setSt {m:Nat}{K':KS}{o o':OK}(I:Is W A K X h)(e0:(K.sob A)[m]?.join=some o)(e1:K'.sob A=(K.sob A).set m (some o'))(ko:∀y,(∀n,y≠ .st n)→K'.obj A y=K.obj A y)(ka:∀y,K'.at A y=K.at A y)
  (hc:∀i,i<6→(K'.proc i).chan=(K.proc i).chan) (hw:∀w,K'.world=some w→∀p∈w.told,h p.1=some (.tup [.int p.2.1,.int p.2.2])) (wf:K'.Wf):Is W A K' X (h.put (K.at A (.st m)) o'.o):=by
 have lt:m<(K.sob A).length:=by
  cases q:(K.sob A)[m]? with
  |none=>rw [q] at e0;cases e0
  |some _=>exact (List.getElem?_eq_some_iff.mp q).1
 refine I.put (xd:= .st m) (gI e0) ?_ (ka _) (λy hy=>⟨?_,ka y⟩) (λi hi=> .inl (hc i hi)) hw wf
 ·show Option.map OK.o ((K'.sob A)[m]?.join)=_
  rw [e1,List.getElem?_set_self lt];rfl
 ·cases y with
  |st n=>
   show Option.map OK.o ((K'.sob A)[n]?.join)=Option.map OK.o ((K.sob A)[n]?.join)
   rw [e1,List.getElem?_set_ne λe:m=n=>hy (e▸rfl)]
  |_=>exact ko _ nofun
theorem Is.setTable {np:Int}{f:Option Nat}(I:Is W A K X h)(on:K.on=true)(hf:∀p,f=some p→p<6):Is W A (K.setTab np f) X (h.put (A .tableD) (.attrs (dT A (Fc np f)))):=by
 refine I.setSt (m:=1) (o:= .attrs (dT A (Fc K.nextPid K.first))) (o':= .attrs (dT A (Fc np f))) (by unfold KS.sob;rw [if_pos on];rfl) (by unfold KS.sob;rw [if_pos on,show (K.setTab np f).on=true from on];rfl) (λy hy=> ?_) (λ_=>rfl) (λ_ _=>rfl) (λw e p hp=>I.told w e p hp) {I.wf with fst:=hf}
 cases y with
 |st n=>exact absurd rfl (hy n)
 |_=>rfl
end
section
variable {K:KS}(i:Nat)
theorem gb (p q:ac):(K.setPipe i p).setPipe i q=K.setPipe i q:=congrArg (λf=>{K with pipe:=f}) (oQ ..)
theorem b7 (p q:aa):(K.setProc i p).setProc i q=K.setProc i q:=congrArg (λf=>{K with proc:=f}) (oQ ..)
theorem c5 (p:ac):(K.setPipe i p).pipe i=p:=aj ..
theorem aR (p:aa):(K.setProc i p).proc i=p:=aj ..
theorem iA:K.setPipe i (K.pipe i)=K:=congrArg (λf=>{K with pipe:=f}) (pz ..)
theorem iy:K.setProc i (K.proc i)=K:=congrArg (λf=>{K with proc:=f}) (pz ..)
end
section
variable {W:Wd}{A:Id→Addr}{K:KS}{X:H}{u v w:VI}{us:List VI}{R:KS→H→Prop}
theorem iH {n:Str}{C d:Addr}{kv:KV}(oi:OI W A K X u C d kv)(hn:(kv.lookup n).isSome=true)(hl:Nat.ble kv.length 800=true)
  (k:∀h,Is W A K X h→∃K X,Is W A K X (h.put d (.attrs (dT A (aU n v kv))))∧R K X):GT W u n v A K X R:=λB h o w Q I eo ew q=>by
 have ⟨a,ea,h1,h2,ok⟩:=oi I
 obtain ⟨z,hz⟩:=Option.isSome_iff_exists.mp hn
 have s:=(an (gO ok hz)).2
 have ln:(dT A kv).length≤800:=by unfold dT;rw [List.length_map];exact Nat.le_of_ble_eq_true hl
 rw [ah (eo.trans ea)]
 refine bq λzq=> ?_
 obtain ⟨K',X',I',r⟩:=k h I
 apply zq;clear zq
 refine qr h1 h2 (by rw [I.hW];exact s) ln ?_
 rw [ew,db]
 exact q K' X' _ I' r
theorem eR {i:Nat}{n:Str}{p p':aa}(on:K.on=true)(hi:i<6)(hv:K.proc i=p)(hn:((lD i p).lookup n).isSome=true)(hk:aU n v (lD i p)=lD i p')(hc:p'.chan=p.chan∨p'.chan.ok X)
  (hp:p'.parent=p.parent∨∀q,p'.parent=some q→q<6) (hf:p'.files=p.files∨∀d,p'.files=some d→d<K.nd) (hr:p'.regs=p.regs) (k:R (K.setProc i p') X):GT W (.ref (.proc i)) n v A K X R:=by
 subst hv
 exact iH (bB on hi rfl) hn rfl λh I=>⟨_,_,hk▸I.setProc on hi hc (hp.elim (λe=>e▸I.wf.par i hi) id) (hf.elim (λe=>e▸I.wf.files i hi) id) hr,k⟩
theorem oO {i:Nat}{n:Str}{p p':ac}(hi:i<K.np)(hv:K.pipe i=p)(hn:((oJ i p).lookup n).isSome=true)(hk:aU n v (oJ i p)=oJ i p')(hr:p'.ring=p.ring)(hs:p'.size=p.size)
  (k:R (K.setPipe i p') X):GT W (.ref (.pipe i)) n v A K X R:=by
 subst hv
 exact iH (cC hi rfl) hn rfl λh I=>⟨_,_,hk▸I.setPipeD hi hr hs,k⟩
theorem zu {i:Nat}{n:Str}{p p':fX}(hi:i<K.nf)(hv:K.file i=p)(hn:((vh p).lookup n).isSome=true)(hk:aU n v (vh p)=vh p')(hp:K.Wf→p'.pipe<K.np)
  (k:R (K.setFile i p') X):GT W (.ref (.file i)) n v A K X R:=by
 subst hv
 exact iH (gB hi rfl) hn rfl λh I=>⟨_,_,hk▸I.setFile hi (hp I.wf),k⟩
theorem v3 {n:Str}{np':Int}{f':Option Nat}(on:K.on=true)(hn:((Fc K.nextPid K.first).lookup n).isSome=true)(hk:aU n v (Fc K.nextPid K.first)=Fc np' f')(hf:K.Wf→∀p,f'=some p→p<6)
  (k:R (K.setTab np' f') X):GT W (.ref .table) n v A K X R:=
 iH (eZ on) hn rfl λh I=>⟨_,_,hk▸I.setTable on (hf I.wf),k⟩
theorem Ie {i:Nat}{k m:Int}(hi:i<K.np)(k0:0≤k)(kl:k.toNat<(K.pipe i).ring.length)(m0:0≤m)(m1:m<256)(r:R (K.setPipe i ((K.pipe i).wRing ((K.pipe i).ring.set k.toNat m.toNat.toUInt8))) X):GI W (.ref (.ring i)) (.int k) (.int m) A K X R:=λB h o z w Q I eo ez ew q=>by
 rw [ah eo]
 exact Hb (I.get (.ring i) _ (cU hi)) k0 kl ez ew m0 m1 (q _ _ _ (I.setRing hi (List.length_set ..)) r)
theorem qx {d:Nat}{k:Nat}{o:Option Nat}(hd:d<K.nd)(kl:k<6)(hv:v=eY .file o)(ho:∀f,o=some f→f<K.nf)(r:R (K.setDesc d ((K.desc d).set k o)) X):GI W (.ref (.slots d)) (.int k) v A K X R:=λB h ov z w Q I eo ez ew q=>by
 have six:=I.wf.six d hd
 rw [ah eo]
 have l:(dL A (K.slotsI d)).length=6:=by unfold dL KS.slotsI;rw [List.length_map,List.length_map,six]
 refine rY (I.get (.slots d) _ (cU hd)) (Int.natCast_nonneg _) (by rw [l];exact Int.ofNat_lt.mpr kl) ez ?_
 have e:(dL A (K.slotsI d)).set (k:Int).toNat (er w)=dL A (((K.desc d).set k o).map (eY .file)):=by
  unfold dL KS.slotsI;rw [Int.toNat_natCast,List.map_set,List.map_set,ew,hv]
 rw [e]
 refine q _ _ _ (I.setSlots hd (by rw [List.length_set];exact six) λf hf=> ?_) r
 rcases List.mem_or_eq_of_mem_set hf with q|q
 ·exact I.wf.slot d hd f q
 ·exact ho f q.symm
noncomputable def KS.tick (K:KS)(b:fU):KS:={K with box:=some {b with k:=b.k+1}}
theorem KR {b:fU}(e:K.box=some b)(r:R (K.tick b) X):GI W (.ref .box) (.int 1) (.int ((b.k:Int)+1)) A K X R:=λB h o z w Q I eo ez ew q=>by
 refine bq λzq=> ?_
 obtain ⟨a,ea,ha⟩:=mG (W:=W) e I
 apply zq;clear zq
 cases ea
 rw [ah eo]
 refine rY ha (Int.le_of_lt Int.one_pos) (by decide:(1:Int)<((3:Nat):Int)) ez ?_
 rw [ew]
 refine q _ _ _ (I.setSt (m:=19) (K':=K.tick b) (o':= .list [.ref (A .cells),.int ((b.k:Int)+1),.int b.s]) (o:= .list [.ref (A .cells),.int b.k,.int b.s]) ?_ ?_ (λy hy=> ?_) (λ_=>rfl) (λ_ _=>rfl) (λw e p hp=>I.told w e p hp) {I.wf with}) r
 ·exact iK (n:=4) (by unfold KS.sob2;rw [e];rfl)
 ·unfold KS.sob KS.sob2 KS.tick
  cases q:K.on<;>(simp only [e,Option.map_some];rfl)
 ·cases y with
  |st n=>exact absurd rfl (hy n)
  |_=>rfl
end
section
variable {c:Cn}{ρ:KV}{A:Id→Addr}{K:KS}{X:H} {u v w x y:VI}{us:List VI}{e a b t:Expr}{p q:Pos}{l:List Expr}{R:SV gu}
theorem AJ (ns:jr e=false)(k:GE c e ρ A K X λA₁ K₁ X₁ u=>∃a us,den A₁ u= .ref a∧g8 c.W A₁ K₁ X₁ u us∧R A₁ K₁ X₁ (.list a (dL A₁ us))):GR c e t ρ A K X R:=⟨λ_=>dF ns,λB env h Q o I q fr s F=>
 a9 (k (Q:=λv h'=>∃a xs,v= .ref a∧h' a=some (.list xs)∧Q (.list a xs) h') o I (λA₁ K₁ X₁ u v h' ev I' z=>by
  obtain ⟨a,us,ea,l,r⟩:=z
  obtain ⟨a',ea',ha⟩:=l I'
  rw [ea] at ea';cases ea'
  exact ⟨a,_,ah (ev.trans ea),ha,q A₁ K₁ X₁ _ h' rfl I' r⟩) fr s F) λv s' z=>by rcases z with ⟨h',F',a,xs,rfl,h1,q1⟩;exact ⟨h',_,F',.list h1,q1⟩⟩
theorem iO {a:Addr}(ns:jr e=false)(k:GV c e ρ A K X u)(ea:den A u= .ref a)(l:g8 c.W A K X u us)(r:R A K X (.list a (dL A us))):GR c e t ρ A K X R:=AJ ns (cR k ⟨a,us,ea,l,r⟩)
theorem OV {b:List UInt8}(ns:jr e=false)(k:GV c e ρ A K X (.bytes b))(r:R A K X (.bytes b)):GR c e t ρ A K X R:=⟨λ_=>dF ns,λB env h Q o I q fr s F=>
 a9 (k (Q:=λv h'=>er v= .bytes b∧Q (.bytes b) h') o I (λv h' ev I'=>⟨ev,q A K X _ h' rfl I' r⟩) fr s F) λv s' ⟨h',F',e1,q1⟩=>by obtain ⟨t,rfl⟩:=cM e1;exact ⟨h',_,F',.bytes,q1⟩⟩
theorem oq.eb {W:Wd}{B:Around}{env:Env}{vars:List (Str×V)}{h:H}{α:Type}{t:Sem α}{f:α→Sem Value}{Q:gu→H→Prop}(k:EW W B env vars t h λa h'=>oq W B env vars (f a) h' Q):oq W B env vars (t>>=f) h Q:=λfr s F=>
 a7 (a9 (k fr s F) λa s' z=>z.elim λh' z=>z.2 fr s' z.1)
theorem m4 {W:Wd}{B:Around}{env:Env}{vars:List (Str×V)}{h:H}{pos:Pos}{f:Value}{first:List Value}{args:List (Bool×Sem Value)}{Q:gu→H→Prop}(hplain:args.any (·.1)=false)
  (hk:∀h,W.K.In h→∃k,(k=Keeper.frame∨k=Keeper.machine∨k=Keeper.boundFrame)∧Looks (model W.prog W.w) h (keeperOf f) k)
  (k:EW W B env vars (evalArgs f true args []) h (λa hp₁=>a.kw=[]∧oq W B env vars (call f (first++a.pos) []) hp₁ Q)):oq W B env vars (callWith pos f first args []) h Q:=λfr s F=>
 lE (P:=λh=>W.K.In h) hplain hk (a9 (k fr s F) λa s₁ z=>z.elim λhp₁ z=>⟨z.1.hr.In,z.2.1,z.2.2 fr s₁ z.1⟩)
theorem CC {q:Pos}(hk:c.sc.names.lookup ("range":Str)=some .globalImplicit)(g:GN "range" (.type "range"))(ns:cy e=false)(k:GE c e ρ A K X λA₁ K₁ X₁ u=>∃n:Nat,u= .int n∧n<100000∧R A₁ K₁ X₁ (.range n)):GR c (.Call (.Name "range" q) [e] [] p) t ρ A K X R:=⟨λ_=>dF rfl,λB env h Q o I kq=>by
 show oq c.W B env (dT A ρ) (eval (.Name _ q) env>>=λf=>callWith p f [] (backTo p (starEach [e] env)) []) h _
 refine oq.eb (Bh o I hk g rfl ?_)
 rw [cD ns]
 refine m4 rfl (λhp hK=>⟨_,.inr (.inl rfl),br⟩) (c4 rfl (bT (k o I λA₁ K₁ X₁ u v h' ev I' ⟨n,e1,l,r⟩=>cJ ⟨rfl,?_⟩)))
 subst e1
 obtain ⟨t',rfl⟩:=au ev
 exact λfr s F=>aT.of (call_range_1 ⟨h',.range n,(F.push _).tok _,.range (IsRange.new ..) (Int.natCast_nonneg _) (Int.ofNat_lt.mpr l),kq A₁ K₁ X₁ _ h' rfl I' r⟩)⟩
theorem O1 {q:Pos}{a:Addr}(hk:c.sc.names.lookup ("enumerate":Str)=some .globalImplicit)(g:GN "enumerate" (.type "enumerate"))(ns:cy e=false)(ft:xF t=true)(k:GV c e ρ A K X u)(ea:den A u= .ref a)(l:g8 c.W A K X u us)(r:R A K X (.enum a (dL A us))):GR c (.Call (.Name "enumerate" q) [e] [] p) t ρ A K X R:=⟨λ_=>dF rfl,λB env h Q o I kq=>by
 show oq c.W B env (dT A ρ) (eval (.Name _ q) env>>=λf=>callWith p f [] (backTo p (starEach [e] env)) []) h _
 refine oq.eb (Bh o I hk g rfl ?_)
 rw [cD ns]
 refine m4 rfl (λhp hK=>⟨_,.inr (.inl rfl),br⟩) (c4 rfl (bT (k o I λv h' ev I'=>cJ ⟨rfl,?_⟩)))
 have ⟨a',ea',h1⟩:=l I'
 rw [ea] at ea';cases ea'
 have ev:=ah (ev.trans ea)
 subst ev
 intro fr s F
 refine bq λzq=> ?_
 obtain ⟨ws,hl,ee,_⟩:=b5 F.hr h1
 apply zq;clear zq
 refine aT.of (call_enumerate_list hl λh₂ he hit sz kp=> ?_)
 have v0:=F.vacant (new_none s.heap)
 have n1:s.heap.get? (s.heap.objs.size+1)=none:=by
  cases q:s.heap.get? (s.heap.objs.size+1) with
  |none=>rfl
  |some o=>exact absurd (Heap.lt_size q) (Nat.not_lt.mpr (Nat.le_succ _))
 have v1:=F.vacant n1
 refine ⟨h',.enum a (dL A us),F.keepBut (own:=[]) (λ_ q=>nomatch q) λb o _ e=>kp b o e,.enum h1 he hit (Nat.succ_ne_self _) ?_,kq A K X _ h' ft I' r⟩
 intro b hb
 rcases List.mem_cons.mp hb with rfl|hb
 ·exact ⟨v1.2.1,v1.1,v1.2.2.1,v1.2.2.2⟩
 ·rcases List.mem_cons.mp hb with rfl|hb
  ·exact ⟨v0.2.1,v0.1,v0.2.2.1,v0.2.2.2⟩
  ·cases hb⟩
theorem NT {n:Nat}(k:Ct c l ρ A K X us)(hl:us.length≤100000)(r:∀d,X d=none→R A K (X.put d (.tup (dL A us))) (.tup d (dL A us))):GR c (.Tuple l n p) t ρ A K X R:=⟨λ_=>dF rfl,λB env h Q o I kq fr s F=>by
 refine a9 (l0 (p:=p) (n:=n) (R:=λA₁ K₁ X₁ u=>∃d,u= .adr d∧X d=none∧A₁=A∧K₁=K∧X₁=X.put d (.tup (dL A us))) (gg k ⟨hl,λd hd=>⟨d,rfl,hd,rfl,rfl,rfl⟩⟩) (Q:=λv h'=>∃d,v= .ref d∧h' d=some (.tup (dL A us))∧Q (.tup d (dL A us)) h') o I (λA₁ K₁ X₁ u v h' ev I' z=> ?_) fr s F) λv s' z=>by rcases z with ⟨h',F',d,rfl,h1,q1⟩;exact ⟨h',_,F',.tup h1,q1⟩
 rcases z with ⟨d,e1,hd,e2,e3,e4⟩
 subst u A₁ K₁ X₁
 exact ⟨d,ah ev,(I'.oth d _ (H.put_same ..)).1,kq _ _ _ _ h' rfl I' (r d hd)⟩⟩
variable {W:Wd}{RV:SV VI}
theorem cG {d:Addr}{us:List VI}{i:Nat}{x:VI}(e:us[i]?=some x)(r:RV A K X x):BW W A K X (.list d (dL A us)) i RV:=λh Q I q y hy=>by
 have hy:(dL A us)[i]?=some y:=hy
 unfold dL at hy
 rw [List.getElem?_map,e] at hy;cases hy
 exact q A K X x h I r
theorem Jz {d:Addr}{us:List VI}{i:Nat}{x:VI}(e:us[i]?=some x)(r:RV A K X x):BW W A K X (.tup d (dL A us)) i RV:=λh Q I q y hy=>by
 have hy:(dL A us)[i]?=some y:=hy
 unfold dL at hy
 rw [List.getElem?_map,e] at hy;cases hy
 exact q A K X x h I r
theorem Eb {b:List UInt8}{i:Nat}{x:UInt8}(e:b[i]?=some x)(r:RV A K X (.int x.toNat)):BW W A K X (.bytes b) i RV:=λh Q I q y hy=>by
 have hy:b[i]?=some y:=hy
 rw [e] at hy;cases hy
 exact q A K X _ h I r
theorem jq {n:Int}{i:Nat}(r:RV A K X (.int i)):BW W A K X (.range n) i RV:=λh Q I q=>q A K X (.int i) h I r
theorem Ia {d:Addr}{us:List VI}{i:Nat}{x:VI}(e:us[i]?=some x)(r:∀g,X g=none→RV A K (X.put g (.tup (dL A [.int i,x]))) (.adr g)):BW W A K X (.enum d (dL A us)) i RV:=λh Q I q y g hy hg=>by
 have hy:(dL A us)[i]?=some y:=hy
 unfold dL at hy
 rw [List.getElem?_map,e] at hy;cases hy
 exact q A K _ (.adr g) _ (I.new hg) (r g (I.xnone hg))
end
end
section
noncomputable def u1 (sc scope:Scope):Scope:={scope with names:=scope.names.map λ(n,k)=>if (k== .free&&sc.kind== .function&&sc.names.lookup n==some .cell) then (n,.cell) else (n,k)}
noncomputable abbrev Cn.inn (c:Cn)(scope:Scope):Cn:=⟨c.W,c.j,u1 c.sc scope,false⟩
noncomputable def EZ (ρ:KV)(sc:Scope):KV:=(dj sc).filterMap λn=>(ρ.lookup n).map λx=>(n,x)
theorem Hk (A:Id→Addr)(ρ:KV)(sc:Scope):x7 (dT A ρ) sc=dT A (EZ ρ sc):=by
 unfold x7 EZ
 generalize dj sc=l
 induction l with
 |nil=>rfl
 |cons a r ih=>
  rw [List.filterMap_cons,List.filterMap_cons,cH]
  cases ρ.lookup a with
  |none=>exact ih
  |some z=>exact congrArg _ ih
noncomputable def Gm (sc scope:Scope):Bool:=decide (scope.kind= .function)&&scope.names.all (λx=>x.2 != .cell)&&decide (scope.names.map (·.1)).Nodup&&(dj scope).all (λn=>sc.names.lookup n==some .cell)
noncomputable def LT (c:Cn)(l:List Expr)(ρ:KV)(A:Id→Addr)(K:KS)(X:H)(R:SV Bool):Prop:=
 ∀⦃B env h⦄ ⦃Q:Bool→H→Prop⦄,nY c B env→Is c.W A K X h→(∀A₁ K₁ X₁ u h',Is c.W A₁ K₁ X₁ h'→R A₁ K₁ X₁ u→Q u h')→EW c.W B env (dT A ρ) (kQ l env) h Q
section
variable {c:Cn}{ρ:KV}{A:Id→Addr}{K:KS}{X:H}{elt t it e:Expr}{ifs:List Expr}{scope:Scope}{p:Pos}
theorem Kg {R:SV Bool}(r:R A K X true):LT c [] ρ A K X R:=λB env h Q o I q=>sL (q A K X true h I r)
theorem Jb {R:SV Bool}(k:GB c e ρ A K X R):LT c [e] ρ A K X R:=λB env h Q o I q=>ta (k o I q)
structure zJ (A A':Id→Addr)(K K':KS):Prop where
 a:A'=A
 k:K'=K
structure FS (c:Cn)(elt t:Expr)(ifs:List Expr)(ρc:KV)(A:Id→Addr)(K:KS)(s:gu)(acc:Addr)(I:Nat→List VI→H→Prop)(R:H→Prop):Prop where
 step:∀i ys X₂,i<s.len→I i ys X₂→(∀⦃h⦄,Is c.W A K X₂ h→s.ok h)∧BW c.W A K X₂ s i λA₃ K₃ X₃ x=>zJ A A₃ K K₃∧GA c t x ρc A K X₃ λA₄ K₄ X₄ ρ₄=>zJ A A₄ K K₄∧(∀n x,ρc.lookup n=some x→ρ₄.lookup n=some x)∧
  LT c ifs ρ₄ A K X₄ λA₅ K₅ X₅ b=>zJ A A₅ K K₅∧IG b (GE c elt ρ₄ A K X₅ λA₆ K₆ X₆ z=>zJ A A₆ K K₆∧X₆ acc=some (.list (dL A ys))∧ys.length≤90000∧I (i+1) (ys++[z]) (X₆.put acc (.list (dL A (ys++[z]))))) (I (i+1) ys X₅)
 fin:∀ys X₂,I s.len ys X₂→(∀⦃h⦄,Is c.W A K X₂ h→s.ok h)∧R X₂
noncomputable def O7 (c:Cn)(elt t:Expr)(ifs:List Expr)(scope:Scope)(ρ:KV)(R:Addr→(Id→Addr)→KS→H→Prop)(A:Id→Addr)(K:KS)(X:H)(s:gu):Prop:=∀acc,X acc=none→∃I:Nat→List VI→H→Prop,I 0 [] (X.put acc (.list []))∧FS (c.inn scope) elt t ifs (EZ ρ scope) A K s acc I (R acc A K)
noncomputable def Pl (W:Wd)(A:Id→Addr)(K:KS)(I:Nat→List VI→H→Prop)(i:Nat)(ys:List V)(h:H):Prop:=∃us X,ys=dL A us∧Is W A K X h∧I i us X
theorem Bc {B:Around}{env:Env}{acc:Addr}{I:Nat→List VI→H→Prop}{i:Nat}{ys:List VI}{x:VI}{v:Value}{h:H}(o:nY c B env)(ev:er v=den A x)(i3:Is c.W A K X h)
  (g:GA c t x ρ A K X λA₄ K₄ X₄ ρ₄=>zJ A A₄ K K₄∧(∀n x,ρ.lookup n=some x→ρ₄.lookup n=some x)∧
   LT c ifs ρ₄ A K X₄ λA₅ K₅ X₅ b=>zJ A A₅ K K₅∧IG b (GE c elt ρ₄ A K X₅ λA₆ K₆ X₆ z=>zJ A A₆ K K₆∧X₆ acc=some (.list (dL A ys))∧ys.length≤90000∧I (i+1) (ys++[z]) (X₆.put acc (.list (dL A (ys++[z]))))) (I (i+1) ys X₅)):
  OF c.W B env t elt ifs acc (dT A ρ) (Pl c.W A K I) i (dL A ys) v h:=by
 refine g o i3 ev λA₄ K₄ X₄ ρ₄ h₄ I₄ w=> ?_
 rcases w with ⟨⟨e1,e2⟩,kp,g₂⟩
 subst A₄ K₄
 refine ⟨λn x hl=> ?_,g₂ o I₄ λA₅ K₅ X₅ b h₅ I₅ w=> ?_⟩
 ·rw [cH] at hl⊢
  exact (Option.map_eq_some_iff.mp hl).elim λy z=>by rw [kp n y z.1,←z.2];rfl
 ·rcases w with ⟨⟨e1,e2⟩,th⟩
  subst A₅ K₅
  refine Pb (λz=>th.a z o I₅ λA₆ K₆ X₆ z v' h₆ ev' I₆ w=> ?_) λz=>⟨ys,X₅,rfl,I₅,th.b z⟩
  rcases w with ⟨⟨e1,e2⟩,l1,l2,l3⟩
  subst A₆ K₆
  have e3:dL A ys++[er v']=dL A (ys++[z]):=by rw [ev'];exact (List.map_append (f:=den A) (l₁:=ys) (l₂:=[z])).symm
  rw [e3]
  exact ⟨(I₆.oth acc _ l1).1,by rw [show (dL A ys).length=ys.length from List.length_map ..];exact l2,ys++[z],_,rfl,I₆.side l1 nofun,l3⟩
theorem ww {B:Around}{env:Env}{fr:Fz}{s:Shared}{h:H}{use:Option (Value→Sem Unit)}{Qf:Value→Shared→Prop}{R:Addr→(Id→Addr)→KS→H→Prop}{pos':Pos}(o:nY c B env)(Ih:Is c.W A K X h)(ck:Gm c.sc scope=true)(F:FR c.W env fr (dT A ρ) h s)
  (k:GR c it t ρ A K X λA₁ K₁ X₁ sr=>Nx A A₁ ρ (O7 c elt t ifs scope ρ R A₁ K₁ X₁ sr))
  (fin:∀A₁ K₁ X₁ acc hp' C s',Is c.W A₁ K₁ X₁ hp'→R acc A₁ K₁ X₁→dT A₁ ρ=dT A ρ→FR c.W env fr (dT A ρ) hp' s'→jJ [C] env fr hp'→(∃m,s'.heap.Ns C m)→gZ (model c.W.prog c.W.w) B Qf use (.ref acc) C s'):
  aT (model c.W.prog c.W.w) B (comprehension (.ListComp elt [⟨t,it,ifs,0⟩] scope p) scope env pos' (newList []) false (eval it env) use) Qf s:=by
 unfold Gm at ck
 have ck1:=an ck
 have ck2:=an ck1.1
 have ck3:=an ck2.1
 have hrl:relabel scope env=u1 c.sc scope:=by unfold relabel u1 Env.kindOf;rw [o.eo.scope]
 refine AB (Qx:=λacc h'=>∃A₁ K₁ X₁,Is c.W A₁ K₁ X₁ h'∧R acc A₁ K₁ X₁∧dT A₁ ρ=dT A ρ) (of_decide_eq_true ck3.1) (λx hx q=> ?_) (of_decide_eq_true ck2.2) (λn hn=>o.eo.cells n (beq_iff_eq.mp (List.all_eq_true.mp ck1.2 n hn))) o.eo.globals o.eo.builtins o.room.2.2 F (k.1 env)
  (k.2 o Ih λA₁ K₁ X₁ sr h₁ ft I₁ n=>⟨ft,λacc hacc=>(n.k acc (I₁.xnone hacc)).elim λI st=>⟨Pl c.W A₁ K₁ I,⟨[],_,rfl,I₁.new hacc,st.1⟩,λi ys h₂ hi w=> ?_,λys h₂ w=> ?_⟩⟩) (λacc hp' C s' w F' O N=>bq λzq=> ?_)
 ·have:=List.all_eq_true.mp ck3.2 x hx;rw [q] at this;cases this
 ·refine bq λzq=> ?_
  rcases w with ⟨us,X₂,ey,I₂,hI⟩
  have z:=st.2.step i us X₂ hi hI
  refine zq ⟨z.1 I₂,z.2 I₂ λA₃ K₃ X₃ x h₃ I₃ w cenv ek v ev=> ?_⟩
  rcases w with ⟨⟨e1,e2⟩,g⟩
  subst ey A₃ K₃
  rw [←n.e,Hk]
  exact Bc (c:=c.inn scope) ⟨(hrl▸ek:vo cenv (u1 c.sc scope) false),o.room⟩ ev I₃ g
 ·refine bq λzq=> ?_
  rcases w with ⟨us,X₂,ey,I₂,hI⟩
  have z:=st.2.fin us X₂ hI
  exact zq ⟨z.1 I₂,A₁,K₁,X₂,I₂,z.2,n.e⟩
 ·rcases w with ⟨A₁,K₁,X₁,I',r,e⟩
  exact zq (fin A₁ K₁ X₁ acc hp' C s' I' r e F' O N)
theorem fF {R:SV VI}(ck:Gm c.sc scope=true)
  (k:GR c it t ρ A K X λA₁ K₁ X₁ sr=>Nx A A₁ ρ (O7 c elt t ifs scope ρ (λacc A K X=>R A K X (.adr acc)) A₁ K₁ X₁ sr)):
  GE c (.ListComp elt [⟨t,it,ifs,0⟩] scope p) ρ A K X R:=λB env h Q o I q fz s F=>by
 show aT _ B (comprehension (.ListComp elt [⟨t,it,ifs,0⟩] scope p) scope env (firstIterPos [⟨t,it,ifs,0⟩] p) (newList []) false (eval it env)) _ s
 exact ww o I ck F k λA₁ K₁ X₁ acc h' C s' I' r e F' O N=>N.imp λm N=>⟨N,λh₂ hs=>⟨h',F'.keepBut (tk:=s'.toks) O (λb ob nb e=>(hs.2 b (λz=>nb (by rw [z];exact List.mem_cons_self ..))).trans e),q A₁ K₁ X₁ (.adr acc) _ h' rfl I' r⟩⟩
theorem Nm {id:Str}{q:Pos}{l:List Stmt}{R:oz}(ck:Gm c.sc scope=true)(kd:c.sc.names.lookup id=some .local)(ln:(q.line==p.line)=true)(nn:(scope.names.any λ(n,k)=>n==id&&(k== .local||k== .cell))=false){p':Pos}(lp':p'.line=p.line)
  (k:GR c it t ρ A K X λA₁ K₁ X₁ sr=>Nx A A₁ ρ (O7 c elt t ifs scope ρ (λacc A K X=>GS c l (aU id (.adr acc) ρ) A K X R) A₁ K₁ X₁ sr)):
  GS c (.Assign [.Name id q] (.ListComp elt [⟨t,it,ifs,0⟩] scope p) p'::l) ρ A K X R:=λB env h Q o I kq=>by
 refine eD (SW.eq (arm_exec_Assign ..) (SW.bind (SW.at_ ?_)))
 have sw:swapsWithSole [.Name id q] (.ListComp elt [⟨t,it,ifs,0⟩] scope p) p'.line env=pure true:=by
  show (pure (env.blockKind== .function&&env.kindOf id==some .local&&q.line==p.line&& !(scope.names.any λ(n,k)=>n==id&&(k== .local||k== .cell))):Sem Bool)=pure true
  rw [show env.blockKind= .function by unfold Env.blockKind;rw [o.fk];rfl,o.kind,kd,ln,nn];rfl
 rw [sw]
 show SW c.W B env (do
  (do let _←comprehension (.ListComp elt [⟨t,it,ifs,0⟩] scope p) scope env (firstIterPos [⟨t,it,ifs,0⟩] p) (newList []) false (eval it env) (some λu=>assign (.Name id q) env u))
  pure Flow.next) (dT A ρ) h _
 intro fr st F
 refine a7 (a7 (ww o I ck F k λA₁ K₁ X₁ acc h' C s' I' r e F' O N=>bq λzq=> ?_))
 rcases N with ⟨m,N⟩
 apply zq;clear zq
 have le:=sI (s:=s') O
 have hb:=F'.hr.hb
 have T:SW c.W B env (assign (.Name id q) env (.ref acc)) (dT A ρ) h' λ_ vars' h₂=>SW c.W B env (execs l env) vars' h₂ Q:=e▸dQ (R:=λA₂ K₂ X₂ ρ₂=>GS c l ρ₂ A₂ K₂ X₂ R) (u:= .adr acc) (by rw [kd];rfl) r o I' rfl λA₂ K₂ X₂ ρ₂ h₂ I₂ r₂=>r₂ o I₂ kq
 refine a9 (T _ s' (F'.freeze O)) λ_ s₂ ⟨vars₂,h₂,F₂,k₂⟩=> ?_
 have frC:EF fr [C] s' C=s'.heap.get? C:=by unfold EF;rw [if_pos (List.mem_cons_self ..)]
 refine bq λzq=> ?_
 obtain ⟨oo,es,ep,hC,rest⟩:=N
 apply zq;clear zq
 have hC₂:s₂.heap.get? C=some oo:=F₂.hr.keep C oo (frC.trans hC)
 have O₂:jJ [C] env fr h₂:=λa ha=>by
  refine bq λzq=> ?_
  rcases List.mem_cons.mp ha with rfl|ha
  ·apply zq;clear zq
   refine ⟨(O _ (List.mem_cons_self ..)).1,?_,(O _ (List.mem_cons_self ..)).2.2⟩
   cases q:h₂ a with
   |none=>rfl
   |some x=>have:=(F₂.hr.dom a x q).1;rw [frC,hC] at this;cases this
  ·apply zq;clear zq
   cases ha
 exact ⟨m,⟨oo,es,ep,hC₂,rest⟩,λh₃ hs=>a8 (a8 ⟨vars₂,h₂,((F₂.melt hb le).keepBut (tk:=s₂.toks) O₂ λb ob nb eb=>(hs.2 b (λz=>nb (by rw [z];exact List.mem_cons_self ..))).trans eb),k₂⟩)⟩
end
end
section
section
variable {c:Cn}{ρ:KV}{A:Id→Addr}{K:KS}{X:H}{elt t it e:Expr}{ifs:List Expr}{p:Pos}
theorem gP {α:Type}(zz:Nat→Option α)(i:Nat):(List.range (i+1)).filterMap zz=(List.range i).filterMap zz++(zz i).toList:=by
 simp only [List.range_succ,List.filterMap_append]
 congr 1
theorem Im {s:gu}{N:Nat}{Y:H}{acc:Addr}{R:H→Prop}(zz:Nat→Option VI)(hN:s.len=N)(sm:N≤90000)(ok:∀ys ⦃h⦄,Is c.W A K (Y.put acc (.list (dL A ys))) h→s.ok h)
  (st:∀i ys,i<N→BW c.W A K (Y.put acc (.list (dL A ys))) s i λA₃ K₃ X₃ x=>zJ A A₃ K K₃∧GA c t x ρ A K X₃ λA₄ K₄ X₄ ρ₄=>zJ A A₄ K K₄∧ml (Y.put acc (.list (dL A ys))) X₄∧(∀n x,ρ.lookup n=some x→ρ₄.lookup n=some x)∧
   LT c ifs ρ₄ A K (Y.put acc (.list (dL A ys))) (λA₅ K₅ X₅ b=>zJ A A₅ K K₅∧X₅=Y.put acc (.list (dL A ys))∧b=(zz i).isSome)∧∀z,zz i=some z→GV c elt ρ₄ A K (Y.put acc (.list (dL A ys))) z)
  (fin:R (Y.put acc (.list (dL A ((List.range N).filterMap zz))))):∃I:Nat→List VI→H→Prop,I 0 [] (Y.put acc (.list []))∧FS c elt t ifs ρ A K s acc I R:=by
 subst hN
 have len:∀i,((List.range i).filterMap zz).length≤i:=λi=>Nat.le_trans (List.length_filterMap_le ..) (Nat.le_of_eq List.length_range)
 refine ⟨λi ys X₂=>X₂=Y.put acc (.list (dL A ys))∧ys=(List.range i).filterMap zz,⟨rfl,rfl⟩,λi ys X₂ hi ⟨eX,ey⟩=> ?_,λys X₂ ⟨eX,ey⟩=> ?_⟩
 ·subst eX
  refine ⟨ok ys,λh Q I q=>st i ys hi I λA₃ K₃ X₃ x h₃ I₃ ⟨e3,g⟩=>q A₃ K₃ X₃ x h₃ I₃ ⟨e3,λB env h Q z o I ez q=>g o I ez λA₄ K₄ X₄ ρ₄ h₄ I₄ ⟨e4,sb,kp,ts,el⟩=>q A₄ K₄ X₄ ρ₄ h₄ I₄ ⟨e4,kp,λB env h Q o I q=>ts o (I.drop sb) λA₅ K₅ X₅ b h₅ I₅ ⟨e5,e6,e7⟩=>q A₅ K₅ X₅ b h₅ I₅ ⟨e5,λeb=> ?_,λeb=> ?_⟩⟩⟩⟩
  ·subst e6
   rw [e7] at eb
   obtain ⟨z,hz⟩:=Option.isSome_iff_exists.mp eb
   refine cR (el z hz) ⟨⟨rfl,rfl⟩,H.put_same ..,Nat.le_trans (ey▸len i) (Nat.le_trans (Nat.le_of_lt hi) sm),H.put_put ..,?_⟩
   simp only [gP,←ey,hz];rfl
  ·subst e6
   rw [e7] at eb
   exact ⟨rfl,by simp only [gP,←ey,Option.not_isSome_iff_eq_none.mp (Bool.eq_false_iff.mp eb)];exact (List.append_nil _).symm⟩
 ·subst eX ey
  exact ⟨ok _,fin⟩
noncomputable def GX (l us:KV):KV:=us.foldl (λl p=>aU p.1 p.2 l) l
noncomputable def Pi (A:Id→Addr)(us:KV):List (V×V):=us.map λp=>(.str p.1,den A p.2)
noncomputable def Lp (c:Cn)(ks:List (Option Expr))(vs:List Expr)(ρ:KV)(A:Id→Addr)(K:KS)(X:H)(R:SV KV):Prop:=(ks.all (·.isSome)=true∧ks.length=vs.length)∧
 ∀⦃B env h⦄ ⦃Q:List (Value×Value)→H→Prop⦄ pos,nY c B env→Is c.W A K X h→(∀A₁ K₁ X₁ us ps h',ps.map (λp=>(er p.1,er p.2))=Pi A₁ us→Is c.W A₁ K₁ X₁ h'→R A₁ K₁ X₁ us→Q ps h')→EW c.W B env (dT A ρ) (evalPairs (pairTrees ks vs env pos)) h Q
theorem DN {R:SV KV}(r:R A K X []):Lp c [] [] ρ A K X R:=⟨⟨rfl,rfl⟩,λB env h Q pos o I q=>EW.pure (q A K X [] [] h rfl I r)⟩
theorem Cw {R:SV KV}{n:Str}{k:Nat}{ks:List (Option Expr)}{vs:List Expr}(al:ks.all (·.isSome)=true∧ks.length=vs.length)(k1:GE c e ρ A K X λA₁ K₁ X₁ u=>Nx A A₁ ρ (Lp c ks vs ρ A₁ K₁ X₁ λA₂ K₂ X₂ us=>Sm A₁ A₂ u (R A₂ K₂ X₂ ((n,u)::us)))):Lp c (some (.Constant (.str n) k p)::ks) (e::vs) ρ A K X R:=
 ⟨⟨al.1,congrArg (· +1) al.2⟩,λB env h Q pos o I q=>by
 show EW c.W B env (dT A ρ) (evalPairs ((eval (.Constant (.str n) k p) env,do let x←eval e env;standAt pos;pure x)::pairTrees ks vs env pos)) h _
 unfold evalPairs
 refine EW.bind (EW.eq (arm_eval_Constant ..) (ve trivial λkv ek=>EW.bind (EW.hold (EW.bind (k1 o I λA₁ K₁ X₁ u z h' ez I' nx=>EW.ba (EW.pure (EW.bind (EW.hold (nx.e▸nx.k.2 pos o I' λA₂ K₂ X₂ us ps h'' ep I'' s=>EW.pure (q A₂ K₂ X₂ ((n,u)::us) _ h'' ?_ I'' s.k))))))))))
 simp only [List.map_cons,ep,ek,ez,←s.e];rfl⟩
theorem j2 {R:SV KV}{n:Str}{k:Nat}{ks:List (Option Expr)}{vs:List Expr}{u:VI}(k1:GV c e ρ A K X u)(k2:Lp c ks vs ρ A K X λA₂ K₂ X₂ us=>Sm A A₂ u (R A₂ K₂ X₂ ((n,u)::us))):Lp c (some (.Constant (.str n) k p)::ks) (e::vs) ρ A K X R:=Cw k2.1 (cR k1 ⟨rfl,k2⟩)
theorem yz {W:Wd}{B:Around}{h:H}{a:Addr}{kv:List (Str×V)}{n:Str}{u v:Value}{Q:Unit→H→Prop}(h1:h a=some (.attrs kv))(hz:kv.length≤800)(hu:er u= .str n)(q:Q () (h.put a (.attrs (fC n (er v) kv)))):
  TW W B (dictSet a u v) h Q:=λfr s R=>by
 refine bq λzq=> ?_
 obtain ⟨t,rfl⟩:=iJ hu
 obtain ⟨kvs,d,e,_⟩:=jF R h1
 apply zq;clear zq
 have len:kvs.length=kv.length:=by rw [←e,List.length_map]
 refine wpAny_dictSet_pairs (strKind_is _ _ n t) d (λh' d' hs=> ?_) (by simp only [sizeLine_eq,len];exact Nat.le_trans hz (Nat.le_of_ble_eq_true rfl:800≤16777216))
 have l2:(stored kvs n v).length≤900:=Nat.le_trans (stored_length_le kvs n v) (by rw [len];exact Nat.le_trans (Nat.succ_le_succ hz) (Nat.le_of_ble_eq_true rfl:801≤900))
 refine bq λzq=> ?_
 obtain ⟨x,hx,r⟩:=sB (W:=W) d' l2
 apply zq;clear zq
 simp only [kE n v kvs (si d),e] at r
 exact ⟨_,(R.tok (s.toks+1)).upd h1 hs hx r,q⟩
theorem nX {W:Wd}{B:Around}{d:Addr}{Q:PUnit→H→Prop}:∀{ps:List (Value×Value)}{us l:KV}{h:H},ps.map (λp=>(er p.1,er p.2))=Pi A us→h d=some (.attrs (dT A l))→l.length+us.length≤800→
  Q PUnit.unit (h.put d (.attrs (dT A (GX l us))))→TW W B (storeAll d ps) h Q
 |[],[],l,h,_,h1,_,q=>by
  have:h.put d (.attrs (dT A (GX l [])))=h:=by
   funext x;unfold H.put;split
   ·subst ‹x=d›;rw [h1];rfl
   ·rfl
  rw [this] at q
  exact TW.pure q
 |[],_::_,_,_,es,_,_,_=>nomatch es
 |_::_,[],_,_,es,_,_,_=>nomatch es
 |p::r,(n,u)::us,l,h,es,h1,hz,q=>by
  have e1:=Prod.mk.inj (List.cons.inj es).1
  unfold storeAll
  simp only [List.forIn_cons]
  have ll:(dT A l).length=l.length:=List.length_map ..
  have l2:(aU n u l).length≤l.length+1:=by
   have:=gS n (den A u) (dT A l)
   rw [db,ll,show (dT A (aU n u l)).length=_ from List.length_map ..] at this
   exact this
  rw [List.length_cons] at hz
  refine TW.bind (TW.bind (yz h1 (by rw [ll];exact Nat.le_trans (Nat.le_add_right _ _) hz) e1.1 (TW.pure ?_)))
  rw [e1.2,db]
  refine nX (us:=us) (l:=aU n u l) (List.cons.inj es).2 (H.put_same ..) (Nat.le_trans (Nat.add_le_add_right l2 _) (by rw [Nat.add_assoc,Nat.add_comm 1];exact hz)) ?_
  rw [H.put_put]
  exact q
theorem Ej {R:SV VI}{ks:List (Option Expr)}{vs:List Expr}(h0:Nat.blt 0 ks.length=true)(h15:Nat.ble ks.length 15=true)
  (k:∀d,X d=none→Lp c ks vs ρ A K (X.put d (.attrs [])) λA₁ K₁ X₁ us=>X₁ d=some (.attrs [])∧us.length≤15∧R A₁ K₁ (X₁.put d (.attrs (dT A₁ (GX [] us)))) (.adr d)) (al:ks.all (·.isSome)=true∧ks.length=vs.length):GE c (.Dict ks vs p) ρ A K X R:=λB env h Q o I q=>by
 have all:=al.1
 have hn:=pairTrees_length ks vs env p all al.2
 have h0:=Nat.le_of_ble_eq_true h0
 have h15:=Nat.le_of_ble_eq_true h15
 have hp0:pairTrees ks vs env p≠[]:=λhe=>by rw [he] at hn;rw [←hn] at h0;exact absurd h0 (Nat.not_succ_le_zero _)
 refine EW.eq (arm_eval_Dict ..) ?_
 rw [zip_pairTrees ks vs env p all al.2,dictDisplay_pairs _ hp0 (by rw [hn];exact Nat.lt_of_le_of_lt h15 (Nat.le_of_ble_eq_true rfl))]
 refine EW.ba (EW.bind ?_)
 unfold subDict
 refine EW.bl (λfr s Rr=>wpAny_alloc ⟨_,Rr.alloc (o:= .attrs []) (x:={cls:= .type "dict",data:= .dict #[]}) ⟨[],0,rfl,trivial,Nat.zero_le _,List.nodup_nil⟩,EW.bind (EW.hold ?_)⟩)
 rw [if_pos (by rw [hn];exact h15)]
 have xn:=I.xnone Rr.new_none
 refine EW.bind ((k _ xn).2 p o (I.new Rr.new_none) λA₁ K₁ X₁ us ps h' es I' ⟨e1,e2,r⟩=>EW.hold (EW.bl ?_))
 have hd:=(I'.oth _ _ e1).1
 exact nX (l:=[]) es hd (by rw [List.length_nil,Nat.zero_add];exact Nat.le_trans e2 (Nat.le_of_ble_eq_true rfl)) (EW.pure (EW.pure (EW.pure (q A₁ K₁ _ (.adr _) _ _ rfl (I'.side e1 nofun) r))))
noncomputable def Pz (sc:Scope)(ns:List Str):Bool:=decide ns.Nodup&&decide (sc.names.map (·.1)).Nodup&&ns.all λy=>sc.names.lookup y==some .local||sc.names.lookup y==some .cell
noncomputable def dI (f:Addr)(sc:Scope)(body:List Stmt)(ns:List Str)(ds:Nat):Prop:=Pz sc ns=true∧∀P,∃fd,Jv (Hd.KK P) f fd body∧fd.scope=sc∧
 ∀s,Frag.In (Hd.KK P) s.heap→∀vs:List Value,vs.length+ds=ns.length→BindsTo s fd ⟨vs,[]⟩ (ns.zip (vs++List.replicate ds .none))
theorem pN {α β:Type}(f:α→β):∀(l:List Str)(vs:List α),(l.zip vs).map (λp=>(p.1,f p.2))=l.zip (vs.map f)
 |[],_=>rfl
 |_::_,[]=>rfl
 |a::l,v::vs=>congrArg ((a,f v):: ·) (pN f l vs)
theorem aH {W:Wd}{j:Nat}{f:Addr}{sc:Scope}{body:List Stmt}{ns:List Str}{ds:Nat}{us:List VI}{R:SV VI}(F:dI f sc body ns ds)(hl:us.length+ds=ns.length)(hρ:ns.zip (us++List.replicate ds .none)=ρ)
  (k:GS ⟨W,j,sc,true⟩ body ρ A K X λA₁ K₁ X₁ f _=>R A₁ K₁ X₁ f.val):GC W (j+1) f us A K X R:=λh Q I q=>by
 refine bq λzq=> ?_
 obtain ⟨fd,ok,e,hb⟩:=F.2 W.w.params
 apply zq;clear zq
 have ⟨ck,c3⟩:=an F.1
 have ⟨c1,c2⟩:=an ck
 subst e hρ
 have z:∀(ns:List Str) (us:List VI),(dT A (ns.zip us)).map (·.1)=(ns.zip us).map (·.1):=λns us=>List.map_map ..
 have zf:((ns.zip (us++List.replicate ds .none)).map (·.1))=ns:=by rw [List.map_fst_zip];simp only [List.length_append,List.length_replicate,hl];exact Nat.le_refl _
 refine Ca (W:=W) (k:=11*j+10) (fd:=fd) (body:=body) (vars:=dT A (ns.zip (us++List.replicate ds .none))) (by rw [I.hW];exact ok) (λs vs hK e=> ?_) ?_ ?_ (of_decide_eq_true c2) λB env r ek=>k ⟨ek,r⟩ I λA₁ K₁ X₁ f ρ₁ fl h' ef I' r=> ?_
 ·have lv:vs.length=us.length:=by rw [←List.length_map er,e];exact List.length_map ..
  refine ⟨_,hb s (I.hW▸hK) vs (by rw [lv];exact hl),?_⟩
  refine (pN er ns _).trans (Eq.trans ?_ (pN (den A) ns _).symm)
  simp only [List.map_append,List.map_append,List.map_replicate,List.map_replicate,e];rfl
 ·have:∀(p:Str→Bool) (l:List (Str×V)),l.all (λy=>p y.1)=(l.map (·.1)).all p:=λp l=>(List.all_map ..).symm
  refine (this (λy=>fd.scope.names.lookup y==some .local||fd.scope.names.lookup y==some .cell) _).trans ?_
  rw [z,zf];exact c3
 ·simp only [z,zf];exact of_decide_eq_true c1
 ·have r:=q A₁ K₁ X₁ f.val h' I' r
  cases f<;>cases fl<;>first|exact ef.elim|exact r|(rw [show II (.ret _)=_ from ef];exact r)
theorem fg {W:Wd}{j:Nat}{f:Addr}{sc:Scope}{body:List Stmt}{ns:List Str}{ds:Nat}{us:List VI}{u:VI}(F:dI f sc body ns ds)(hl:us.length+ds=ns.length)(hρ:ns.zip (us++List.replicate ds .none)=ρ)
  (k:GS ⟨W,j,sc,true⟩ body ρ A K X λA₁ K₁ X₁ f _=>zJ A A₁ K K₁∧ml X X₁∧f.val=u):x9 W (j+1) f us A K X u:=λh Q I q=>
 aH (R:=λA₁ K₁ X₁ v=>zJ A A₁ K K₁∧ml X X₁∧v=u) F hl hρ k I λA₁ K₁ X₁ v h' I' ⟨⟨e1,e2⟩,s,e4⟩=>by subst e1 e2 e4;exact q h' (I'.drop s)
end
end
section
variable {P:List Value→Prop}
theorem Po (h:P []):∀vs:List Value,vs.length=0→P vs
 |[],_=>h
 |_::_,e=>nomatch e
theorem JL {n:Nat}(h:∀a vs,vs.length=n→P (a::vs)):∀vs:List Value,vs.length=n+1→P vs
 |[],e=>nomatch e
 |a::vs,e=>h a vs (Nat.succ.inj e)
theorem v4 (h:∀a,P [a]):∀vs:List Value,vs.length=1→P vs:=JL λa=>Po (h a)
theorem jU (h:∀a b,P [a,b]):∀vs:List Value,vs.length=2→P vs:=JL λa=>v4 (P:=λvs=>P (a::vs)) (h a)
theorem xa (h:∀a b c,P [a,b,c]):∀vs:List Value,vs.length=3→P vs:=JL λa=>jU (P:=λvs=>P (a::vs)) (h a)
theorem NJ (h:∀a b c d,P [a,b,c,d]):∀vs:List Value,vs.length=4→P vs:=JL λa=>xa (P:=λvs=>P (a::vs)) (h a)
theorem P7 (h:∀a b c d e,P [a,b,c,d,e]):∀vs:List Value,vs.length=5→P vs:=JL λa=>NJ (P:=λvs=>P (a::vs)) (h a)
theorem Pt (h:∀a b c d e f,P [a,b,c,d,e,f]):∀vs:List Value,vs.length=6→P vs:=JL λa=>P7 (P:=λvs=>P (a::vs)) (h a)
theorem Py (h:∀a b c d e f g,P [a,b,c,d,e,f,g]):∀vs:List Value,vs.length=7→P vs:=JL λa=>Pt (P:=λvs=>P (a::vs)) (h a)
end
theorem aq {K:Frag}{f:Addr}{fd:FuncData}{body:List Stmt} {oc od sl}(e:K.lookup f=some ⟨oc,od,.func fd,sl⟩)(h:codeIn K fd.code fd.qualname=true)(b:fd.body= .stmts body)(c1:fd.scope.isCoroutine=false)(c2:fd.scope.isGenerator=false)(c3:fd.scope.kind= .function)(g:fd.globals=mainGlobals)(bl:fd.builtins=builtinsNs)(cl:fd.closure=[]):Jv K f fd body:=
 ⟨⟨_,_,_,e⟩,b,h,c1,c2,c3,g,bl,cl⟩
theorem oC:dI gf (Hd.fS (Hd.mem 13 0)) (Hd.fB (Hd.mem 13 0)) ["self","ident","size"] 0:=⟨by kernel_rfl,λP=>⟨_,aq (show (Hd.KK P).lookup gf=some Hd.o99 by kernel_rfl) (by kernel_rfl) rfl rfl rfl rfl rfl rfl rfl,rfl,λst X=>xa (λa b c=>kp_binds X λS=>by kernel_rfl)⟩⟩
theorem pH:dI cN (Hd.fS (Hd.mem 13 1)) (Hd.fB (Hd.mem 13 1)) ["self"] 0:=⟨by kernel_rfl,λP=>⟨_,aq (show (Hd.KK P).lookup cN=some Hd.o106 by kernel_rfl) (by kernel_rfl) rfl rfl rfl rfl rfl rfl rfl,rfl,λst X=>v4 (λa=>kp_binds X λS=>by kernel_rfl)⟩⟩
theorem wC:dI fT (Hd.fS (Hd.mem 13 2)) (Hd.fB (Hd.mem 13 2)) ["self"] 0:=⟨by kernel_rfl,λP=>⟨_,aq (show (Hd.KK P).lookup fT=some Hd.o113 by kernel_rfl) (by kernel_rfl) rfl rfl rfl rfl rfl rfl rfl,rfl,λst X=>v4 (λa=>kp_binds X λS=>by kernel_rfl)⟩⟩
theorem q8:dI dE (Hd.fS (Hd.mem 13 3)) (Hd.fB (Hd.mem 13 3)) ["self","side"] 0:=⟨by kernel_rfl,λP=>⟨_,aq (show (Hd.KK P).lookup dE=some Hd.o120 by kernel_rfl) (by kernel_rfl) rfl rfl rfl rfl rfl rfl rfl,rfl,λst X=>jU (λa b=>kp_binds X λS=>by kernel_rfl)⟩⟩
theorem sn:dI dM (Hd.fS (Hd.mem 13 4)) (Hd.fB (Hd.mem 13 4)) ["self","octets"] 0:=⟨by kernel_rfl,λP=>⟨_,aq (show (Hd.KK P).lookup dM=some Hd.o127 by kernel_rfl) (by kernel_rfl) rfl rfl rfl rfl rfl rfl rfl,rfl,λst X=>jU (λa b=>kp_binds X λS=>by kernel_rfl)⟩⟩
theorem va:dI eL (Hd.fS (Hd.mem 13 5)) (Hd.fB (Hd.mem 13 5)) ["self","count"] 0:=⟨by kernel_rfl,λP=>⟨_,aq (show (Hd.KK P).lookup eL=some Hd.o134 by kernel_rfl) (by kernel_rfl) rfl rfl rfl rfl rfl rfl rfl,rfl,λst X=>jU (λa b=>kp_binds X λS=>by kernel_rfl)⟩⟩
theorem se:dI eT (Hd.fS (Hd.mem 13 6)) (Hd.fB (Hd.mem 13 6)) ["self","side"] 0:=⟨by kernel_rfl,λP=>⟨_,aq (show (Hd.KK P).lookup eT=some Hd.o141 by kernel_rfl) (by kernel_rfl) rfl rfl rfl rfl rfl rfl rfl,rfl,λst X=>jU (λa b=>kp_binds X λS=>by kernel_rfl)⟩⟩
theorem jv:dI dK (Hd.fS (Hd.mem 14 0)) (Hd.fB (Hd.mem 14 0)) ["self","size"] 0:=⟨by kernel_rfl,λP=>⟨_,aq (show (Hd.KK P).lookup dK=some Hd.o165 by kernel_rfl) (by kernel_rfl) rfl rfl rfl rfl rfl rfl rfl,rfl,λst X=>jU (λa b=>kp_binds X λS=>by kernel_rfl)⟩⟩
theorem mC:dI cQ (Hd.fS (Hd.mem 14 1)) (Hd.fB (Hd.mem 14 1)) ["self"] 0:=⟨by kernel_rfl,λP=>⟨_,aq (show (Hd.KK P).lookup cQ=some Hd.o172 by kernel_rfl) (by kernel_rfl) rfl rfl rfl rfl rfl rfl rfl,rfl,λst X=>v4 (λa=>kp_binds X λS=>by kernel_rfl)⟩⟩
theorem md:dI cu (Hd.fS (Hd.mem 14 2)) (Hd.fB (Hd.mem 14 2)) ["self","pipe","side"] 0:=⟨by kernel_rfl,λP=>⟨_,aq (show (Hd.KK P).lookup cu=some Hd.o179 by kernel_rfl) (by kernel_rfl) rfl rfl rfl rfl rfl rfl rfl,rfl,λst X=>xa (λa b c=>kp_binds X λS=>by kernel_rfl)⟩⟩
theorem lN:dI cp (Hd.fS (Hd.mem 14 3)) (Hd.fB (Hd.mem 14 3)) ["self"] 0:=⟨by kernel_rfl,λP=>⟨_,aq (show (Hd.KK P).lookup cp=some Hd.o186 by kernel_rfl) (by kernel_rfl) rfl rfl rfl rfl rfl rfl rfl,rfl,λst X=>v4 (λa=>kp_binds X λS=>by kernel_rfl)⟩⟩
theorem wH:dI fW (Hd.fS (Hd.stm 17)) (Hd.fB (Hd.stm 17)) ["value"] 0:=⟨by kernel_rfl,λP=>⟨_,aq (show (Hd.KK P).lookup fW=some Hd.o199 by kernel_rfl) (by kernel_rfl) rfl rfl rfl rfl rfl rfl rfl,rfl,λst X=>v4 (λa=>kp_binds X λS=>by kernel_rfl)⟩⟩
theorem mD:dI ff (Hd.fS (Hd.mem 18 0)) (Hd.fB (Hd.mem 18 0)) ["self","table","files","nodes","paths","journal","devices"] 4:=⟨by kernel_rfl,λP=>⟨_,aq (show (Hd.KK P).lookup ff=some Hd.o214 by kernel_rfl) (by kernel_rfl) rfl rfl rfl rfl rfl rfl rfl,rfl,λst X vs q=>(xa (λa b c=>kp_binds X λS=>by kernel_rfl):∀vs:List Value,vs.length=3→BindsTo st _ ⟨vs,[]⟩ ((["self","table","files","nodes","paths","journal","devices"]:List Str).zip (vs++List.replicate 4 Value.none))) vs (Nat.add_right_cancel (m:=4) q)⟩⟩
theorem ib:dI cO (Hd.fS (Hd.mem 19 0)) (Hd.fB (Hd.mem 19 0)) ["self","kernel"] 0:=⟨by kernel_rfl,λP=>⟨_,aq (show (Hd.KK P).lookup cO=some Hd.o237 by kernel_rfl) (by kernel_rfl) rfl rfl rfl rfl rfl rfl rfl,rfl,λst X=>jU (λa b=>kp_binds X λS=>by kernel_rfl)⟩⟩
theorem ij:dI be (Hd.fS (Hd.mem 19 2)) (Hd.fB (Hd.mem 19 2)) ["self","process","channel"] 0:=⟨by kernel_rfl,λP=>⟨_,aq (show (Hd.KK P).lookup be=some Hd.o251 by kernel_rfl) (by kernel_rfl) rfl rfl rfl rfl rfl rfl rfl,rfl,λst X=>xa (λa b c=>kp_binds X λS=>by kernel_rfl)⟩⟩
theorem jY:dI bV (Hd.fS (Hd.mem 19 5)) (Hd.fB (Hd.mem 19 5)) ["self","process"] 0:=⟨by kernel_rfl,λP=>⟨_,aq (show (Hd.KK P).lookup bV=some Hd.o272 by kernel_rfl) (by kernel_rfl) rfl rfl rfl rfl rfl rfl rfl,rfl,λst X=>jU (λa b=>kp_binds X λS=>by kernel_rfl)⟩⟩
theorem iX:dI bF (Hd.fS (Hd.mem 19 6)) (Hd.fB (Hd.mem 19 6)) ["self","process"] 0:=⟨by kernel_rfl,λP=>⟨_,aq (show (Hd.KK P).lookup bF=some Hd.o279 by kernel_rfl) (by kernel_rfl) rfl rfl rfl rfl rfl rfl rfl,rfl,λst X=>jU (λa b=>kp_binds X λS=>by kernel_rfl)⟩⟩
theorem jV:dI aQ (Hd.fS (Hd.mem 19 7)) (Hd.fB (Hd.mem 19 7)) ["self","process","status"] 0:=⟨by kernel_rfl,λP=>⟨_,aq (show (Hd.KK P).lookup aQ=some Hd.o286 by kernel_rfl) (by kernel_rfl) rfl rfl rfl rfl rfl rfl rfl,rfl,λst X=>xa (λa b c=>kp_binds X λS=>by kernel_rfl)⟩⟩
theorem jR:dI aZ (Hd.fS (Hd.mem 19 8)) (Hd.fB (Hd.mem 19 8)) ["self","process"] 0:=⟨by kernel_rfl,λP=>⟨_,aq (show (Hd.KK P).lookup aZ=some Hd.o293 by kernel_rfl) (by kernel_rfl) rfl rfl rfl rfl rfl rfl rfl,rfl,λst X=>jU (λa b=>kp_binds X λS=>by kernel_rfl)⟩⟩
theorem jg:dI aW (Hd.fS (Hd.mem 19 12)) (Hd.fB (Hd.mem 19 12)) ["self","process","number"] 0:=⟨by kernel_rfl,λP=>⟨_,aq (show (Hd.KK P).lookup aW=some Hd.o321 by kernel_rfl) (by kernel_rfl) rfl rfl rfl rfl rfl rfl rfl,rfl,λst X=>xa (λa b c=>kp_binds X λS=>by kernel_rfl)⟩⟩
theorem i4:dI b6 (Hd.fS (Hd.mem 19 13)) (Hd.fB (Hd.mem 19 13)) ["self","file"] 0:=⟨by kernel_rfl,λP=>⟨_,aq (show (Hd.KK P).lookup b6=some Hd.o328 by kernel_rfl) (by kernel_rfl) rfl rfl rfl rfl rfl rfl rfl,rfl,λst X=>jU (λa b=>kp_binds X λS=>by kernel_rfl)⟩⟩
theorem k7:dI bu (Hd.fS (Hd.mem 19 15)) (Hd.fB (Hd.mem 19 15)) ["self","process"] 0:=⟨by kernel_rfl,λP=>⟨_,aq (show (Hd.KK P).lookup bu=some Hd.o342 by kernel_rfl) (by kernel_rfl) rfl rfl rfl rfl rfl rfl rfl,rfl,λst X=>jU (λa b=>kp_binds X λS=>by kernel_rfl)⟩⟩
theorem jQ:dI bv (Hd.fS (Hd.mem 19 17)) (Hd.fB (Hd.mem 19 17)) ["self","process","number","count"] 0:=⟨by kernel_rfl,λP=>⟨_,aq (show (Hd.KK P).lookup bv=some Hd.o356 by kernel_rfl) (by kernel_rfl) rfl rfl rfl rfl rfl rfl rfl,rfl,λst X=>NJ (λa b c d=>kp_binds X λS=>by kernel_rfl)⟩⟩
theorem ja:dI bm (Hd.fS (Hd.mem 19 18)) (Hd.fB (Hd.mem 19 18)) ["self","process","number","octets"] 0:=⟨by kernel_rfl,λP=>⟨_,aq (show (Hd.KK P).lookup bm=some Hd.o363 by kernel_rfl) (by kernel_rfl) rfl rfl rfl rfl rfl rfl rfl,rfl,λst X=>NJ (λa b c d=>kp_binds X λS=>by kernel_rfl)⟩⟩
theorem k8:dI dU (Hd.fS (Hd.mem 24 0)) (Hd.fB (Hd.mem 24 0)) ["self","kind","readable","writable"] 0:=⟨by kernel_rfl,λP=>⟨_,aq (show (Hd.KK P).lookup dU=some Hd.o386 by kernel_rfl) (by kernel_rfl) rfl rfl rfl rfl rfl rfl rfl,rfl,λst X=>NJ (λa b c d=>kp_binds X λS=>by kernel_rfl)⟩⟩
theorem om:dI dg (Hd.fS (Hd.mem 24 1)) (Hd.fB (Hd.mem 24 1)) ["self"] 0:=⟨by kernel_rfl,λP=>⟨_,aq (show (Hd.KK P).lookup dg=some Hd.o393 by kernel_rfl) (by kernel_rfl) rfl rfl rfl rfl rfl rfl rfl,rfl,λst X=>v4 (λa=>kp_binds X λS=>by kernel_rfl)⟩⟩
theorem jm:dI dG (Hd.fS (Hd.mem 25 0)) (Hd.fB (Hd.mem 25 0)) ["self","most","pipes","nodes","journal","devices","block"] 0:=⟨by kernel_rfl,λP=>⟨_,aq (show (Hd.KK P).lookup dG=some Hd.o423 by kernel_rfl) (by kernel_rfl) rfl rfl rfl rfl rfl rfl rfl,rfl,λst X=>Py (λa b c d g i l=>kp_binds X λS=>by kernel_rfl)⟩⟩
theorem lA:dI cx (Hd.fS (Hd.mem 25 1)) (Hd.fB (Hd.mem 25 1)) ["self"] 0:=⟨by kernel_rfl,λP=>⟨_,aq (show (Hd.KK P).lookup cx=some Hd.o430 by kernel_rfl) (by kernel_rfl) rfl rfl rfl rfl rfl rfl rfl,rfl,λst X=>v4 (λa=>kp_binds X λS=>by kernel_rfl)⟩⟩
theorem j9:dI bH (Hd.fS (Hd.mem 25 2)) (Hd.fB (Hd.mem 25 2)) ["self","many"] 0:=⟨by kernel_rfl,λP=>⟨_,aq (show (Hd.KK P).lookup bH=some Hd.o437 by kernel_rfl) (by kernel_rfl) rfl rfl rfl rfl rfl rfl rfl,rfl,λst X=>jU (λa b=>kp_binds X λS=>by kernel_rfl)⟩⟩
theorem lq:dI cm (Hd.fS (Hd.mem 25 3)) (Hd.fB (Hd.mem 25 3)) ["self","file"] 0:=⟨by kernel_rfl,λP=>⟨_,aq (show (Hd.KK P).lookup cm=some Hd.o444 by kernel_rfl) (by kernel_rfl) rfl rfl rfl rfl rfl rfl rfl,rfl,λst X=>jU (λa b=>kp_binds X λS=>by kernel_rfl)⟩⟩
theorem iZ:dI bG (Hd.fS (Hd.mem 25 4)) (Hd.fB (Hd.mem 25 4)) ["self"] 0:=⟨by kernel_rfl,λP=>⟨_,aq (show (Hd.KK P).lookup bG=some Hd.o451 by kernel_rfl) (by kernel_rfl) rfl rfl rfl rfl rfl rfl rfl,rfl,λst X=>v4 (λa=>kp_binds X λS=>by kernel_rfl)⟩⟩
theorem m9:dI cq (Hd.fS (Hd.mem 25 7)) (Hd.fB (Hd.mem 25 7)) ["self","file"] 0:=⟨by kernel_rfl,λP=>⟨_,aq (show (Hd.KK P).lookup cq=some Hd.o472 by kernel_rfl) (by kernel_rfl) rfl rfl rfl rfl rfl rfl rfl,rfl,λst X=>jU (λa b=>kp_binds X λS=>by kernel_rfl)⟩⟩
theorem lG:dI cv (Hd.fS (Hd.mem 25 8)) (Hd.fB (Hd.mem 25 8)) ["self","file"] 0:=⟨by kernel_rfl,λP=>⟨_,aq (show (Hd.KK P).lookup cv=some Hd.o477 by kernel_rfl) (by kernel_rfl) rfl rfl rfl rfl rfl rfl rfl,rfl,λst X=>jU (λa b=>kp_binds X λS=>by kernel_rfl)⟩⟩
theorem mQ:dI cK (Hd.fS (Hd.mem 25 10)) (Hd.fB (Hd.mem 25 10)) ["self","file","count"] 0:=⟨by kernel_rfl,λP=>⟨_,aq (show (Hd.KK P).lookup cK=some Hd.o491 by kernel_rfl) (by kernel_rfl) rfl rfl rfl rfl rfl rfl rfl,rfl,λst X=>xa (λa b c=>kp_binds X λS=>by kernel_rfl)⟩⟩
theorem lH:dI cr (Hd.fS (Hd.mem 25 12)) (Hd.fB (Hd.mem 25 12)) ["self","file","octets"] 0:=⟨by kernel_rfl,λP=>⟨_,aq (show (Hd.KK P).lookup cr=some Hd.o505 by kernel_rfl) (by kernel_rfl) rfl rfl rfl rfl rfl rfl rfl,rfl,λst X=>xa (λa b c=>kp_binds X λS=>by kernel_rfl)⟩⟩
theorem j1:dI bI (Hd.fS (Hd.mem 25 15)) (Hd.fB (Hd.mem 25 15)) ["self","file","is_write"] 0:=⟨by kernel_rfl,λP=>⟨_,aq (show (Hd.KK P).lookup bI=some Hd.o526 by kernel_rfl) (by kernel_rfl) rfl rfl rfl rfl rfl rfl rfl,rfl,λst X=>xa (λa b c=>kp_binds X λS=>by kernel_rfl)⟩⟩
theorem iE:dI cZ (Hd.fS (Hd.mem 26 0)) (Hd.fB (Hd.mem 26 0)) ["self","most"] 0:=⟨by kernel_rfl,λP=>⟨_,aq (show (Hd.KK P).lookup cZ=some Hd.o550 by kernel_rfl) (by kernel_rfl) rfl rfl rfl rfl rfl rfl rfl,rfl,λst X=>jU (λa b=>kp_binds X λS=>by kernel_rfl)⟩⟩
theorem mf:dI bO (Hd.fS (Hd.mem 26 1)) (Hd.fB (Hd.mem 26 1)) ["self","file"] 0:=⟨by kernel_rfl,λP=>⟨_,aq (show (Hd.KK P).lookup bO=some Hd.o557 by kernel_rfl) (by kernel_rfl) rfl rfl rfl rfl rfl rfl rfl,rfl,λst X=>jU (λa b=>kp_binds X λS=>by kernel_rfl)⟩⟩
theorem kJ:dI cf (Hd.fS (Hd.mem 26 2)) (Hd.fB (Hd.mem 26 2)) ["self"] 0:=⟨by kernel_rfl,λP=>⟨_,aq (show (Hd.KK P).lookup cf=some Hd.o562 by kernel_rfl) (by kernel_rfl) rfl rfl rfl rfl rfl rfl rfl,rfl,λst X=>v4 (λa=>kp_binds X λS=>by kernel_rfl)⟩⟩
theorem lI:dI ct (Hd.fS (Hd.mem 26 3)) (Hd.fB (Hd.mem 26 3)) ["self","number"] 0:=⟨by kernel_rfl,λP=>⟨_,aq (show (Hd.KK P).lookup ct=some Hd.o569 by kernel_rfl) (by kernel_rfl) rfl rfl rfl rfl rfl rfl rfl,rfl,λst X=>jU (λa b=>kp_binds X λS=>by kernel_rfl)⟩⟩
theorem kK:dI cg (Hd.fS (Hd.mem 26 4)) (Hd.fB (Hd.mem 26 4)) ["self","number"] 0:=⟨by kernel_rfl,λP=>⟨_,aq (show (Hd.KK P).lookup cg=some Hd.o576 by kernel_rfl) (by kernel_rfl) rfl rfl rfl rfl rfl rfl rfl,rfl,λst X=>jU (λa b=>kp_binds X λS=>by kernel_rfl)⟩⟩
theorem i9:dI bg (Hd.fS (Hd.mem 26 5)) (Hd.fB (Hd.mem 26 5)) ["self"] 0:=⟨by kernel_rfl,λP=>⟨_,aq (show (Hd.KK P).lookup bg=some Hd.o581 by kernel_rfl) (by kernel_rfl) rfl rfl rfl rfl rfl rfl rfl,rfl,λst X=>v4 (λa=>kp_binds X λS=>by kernel_rfl)⟩⟩
theorem kR:dI c8 (Hd.fS (Hd.mem 26 6)) (Hd.fB (Hd.mem 26 6)) ["self","table"] 0:=⟨by kernel_rfl,λP=>⟨_,aq (show (Hd.KK P).lookup c8=some Hd.o588 by kernel_rfl) (by kernel_rfl) rfl rfl rfl rfl rfl rfl rfl,rfl,λst X=>jU (λa b=>kp_binds X λS=>by kernel_rfl)⟩⟩
theorem kC:dI eA (Hd.fS (Hd.mem 35 0)) (Hd.fB (Hd.mem 35 0)) ["self","place"] 0:=⟨by kernel_rfl,λP=>⟨_,aq (show (Hd.KK P).lookup eA=some Hd.o618 by kernel_rfl) (by kernel_rfl) rfl rfl rfl rfl rfl rfl rfl,rfl,λst X=>jU (λa b=>kp_binds X λS=>by kernel_rfl)⟩⟩
theorem iP:dI cj (Hd.fS (Hd.mem 35 1)) (Hd.fB (Hd.mem 35 1)) ["self"] 0:=⟨by kernel_rfl,λP=>⟨_,aq (show (Hd.KK P).lookup cj=some Hd.o625 by kernel_rfl) (by kernel_rfl) rfl rfl rfl rfl rfl rfl rfl,rfl,λst X=>v4 (λa=>kp_binds X λS=>by kernel_rfl)⟩⟩
theorem kX:dI c9 (Hd.fS (Hd.mem 35 2)) (Hd.fB (Hd.mem 35 2)) ["self"] 0:=⟨by kernel_rfl,λP=>⟨_,aq (show (Hd.KK P).lookup c9=some Hd.o632 by kernel_rfl) (by kernel_rfl) rfl rfl rfl rfl rfl rfl rfl,rfl,λst X=>v4 (λa=>kp_binds X λS=>by kernel_rfl)⟩⟩
theorem kM:dI ce (Hd.fS (Hd.mem 35 3)) (Hd.fB (Hd.mem 35 3)) ["self"] 0:=⟨by kernel_rfl,λP=>⟨_,aq (show (Hd.KK P).lookup ce=some Hd.o639 by kernel_rfl) (by kernel_rfl) rfl rfl rfl rfl rfl rfl rfl,rfl,λst X=>v4 (λa=>kp_binds X λS=>by kernel_rfl)⟩⟩
theorem mE:dI fq (Hd.fS (Hd.mem 36 0)) (Hd.fB (Hd.mem 36 0)) ["self","most"] 0:=⟨by kernel_rfl,λP=>⟨_,aq (show (Hd.KK P).lookup fq=some Hd.o675 by kernel_rfl) (by kernel_rfl) rfl rfl rfl rfl rfl rfl rfl,rfl,λst X=>jU (λa b=>kp_binds X λS=>by kernel_rfl)⟩⟩
theorem kA:dI ci (Hd.fS (Hd.mem 36 1)) (Hd.fB (Hd.mem 36 1)) ["self"] 0:=⟨by kernel_rfl,λP=>⟨_,aq (show (Hd.KK P).lookup ci=some Hd.o682 by kernel_rfl) (by kernel_rfl) rfl rfl rfl rfl rfl rfl rfl,rfl,λst X=>v4 (λa=>kp_binds X λS=>by kernel_rfl)⟩⟩
theorem uX:dI fQ (Hd.fS (Hd.mem 36 2)) (Hd.fB (Hd.mem 36 2)) ["self","name"] 0:=⟨by kernel_rfl,λP=>⟨_,aq (show (Hd.KK P).lookup fQ=some Hd.o690 by kernel_rfl) (by kernel_rfl) rfl rfl rfl rfl rfl rfl rfl,rfl,λst X=>jU (λa b=>kp_binds X λS=>by kernel_rfl)⟩⟩
theorem v7:dI fY (Hd.fS (Hd.mem 36 4)) (Hd.fB (Hd.mem 36 4)) ["self"] 0:=⟨by kernel_rfl,λP=>⟨_,aq (show (Hd.KK P).lookup fY=some Hd.o702 by kernel_rfl) (by kernel_rfl) rfl rfl rfl rfl rfl rfl rfl,rfl,λst X=>v4 (λa=>kp_binds X λS=>by kernel_rfl)⟩⟩
theorem mO:dI cL (Hd.fS (Hd.mem 36 5)) (Hd.fB (Hd.mem 36 5)) ["self","process"] 0:=⟨by kernel_rfl,λP=>⟨_,aq (show (Hd.KK P).lookup cL=some Hd.o707 by kernel_rfl) (by kernel_rfl) rfl rfl rfl rfl rfl rfl rfl,rfl,λst X=>jU (λa b=>kp_binds X λS=>by kernel_rfl)⟩⟩
theorem r5:dI dX (Hd.fS (Hd.mem 36 6)) (Hd.fB (Hd.mem 36 6)) ["self","process"] 0:=⟨by kernel_rfl,λP=>⟨_,aq (show (Hd.KK P).lookup dX=some Hd.o714 by kernel_rfl) (by kernel_rfl) rfl rfl rfl rfl rfl rfl rfl,rfl,λst X=>jU (λa b=>kp_binds X λS=>by kernel_rfl)⟩⟩
theorem ss:dI eW (Hd.fS (Hd.mem 36 9)) (Hd.fB (Hd.mem 36 9)) ["self","parent","files"] 0:=⟨by kernel_rfl,λP=>⟨_,aq (show (Hd.KK P).lookup eW=some Hd.o736 by kernel_rfl) (by kernel_rfl) rfl rfl rfl rfl rfl rfl rfl,rfl,λst X=>xa (λa b c=>kp_binds X λS=>by kernel_rfl)⟩⟩
theorem mA:dI cI (Hd.fS (Hd.mem 36 10)) (Hd.fB (Hd.mem 36 10)) ["self","process"] 0:=⟨by kernel_rfl,λP=>⟨_,aq (show (Hd.KK P).lookup cI=some Hd.o743 by kernel_rfl) (by kernel_rfl) rfl rfl rfl rfl rfl rfl rfl,rfl,λst X=>jU (λa b=>kp_binds X λS=>by kernel_rfl)⟩⟩
theorem kZ:dI c7 (Hd.fS (Hd.mem 36 11)) (Hd.fB (Hd.mem 36 11)) ["self","process"] 0:=⟨by kernel_rfl,λP=>⟨_,aq (show (Hd.KK P).lookup c7=some Hd.o750 by kernel_rfl) (by kernel_rfl) rfl rfl rfl rfl rfl rfl rfl,rfl,λst X=>jU (λa b=>kp_binds X λS=>by kernel_rfl)⟩⟩
theorem sU:dI eQ (Hd.fS (Hd.mem 36 12)) (Hd.fB (Hd.mem 36 12)) ["self","process","status"] 0:=⟨by kernel_rfl,λP=>⟨_,aq (show (Hd.KK P).lookup eQ=some Hd.o757 by kernel_rfl) (by kernel_rfl) rfl rfl rfl rfl rfl rfl rfl,rfl,λst X=>xa (λa b c=>kp_binds X λS=>by kernel_rfl)⟩⟩
theorem uj:dI eS (Hd.fS (Hd.mem 36 13)) (Hd.fB (Hd.mem 36 13)) ["self","process"] 0:=⟨by kernel_rfl,λP=>⟨_,aq (show (Hd.KK P).lookup eS=some Hd.o764 by kernel_rfl) (by kernel_rfl) rfl rfl rfl rfl rfl rfl rfl,rfl,λst X=>jU (λa b=>kp_binds X λS=>by kernel_rfl)⟩⟩
theorem sM:dI dR (Hd.fS (Hd.mem 36 14)) (Hd.fB (Hd.mem 36 14)) ["self","process"] 0:=⟨by kernel_rfl,λP=>⟨_,aq (show (Hd.KK P).lookup dR=some Hd.o771 by kernel_rfl) (by kernel_rfl) rfl rfl rfl rfl rfl rfl rfl,rfl,λst X=>jU (λa b=>kp_binds X λS=>by kernel_rfl)⟩⟩
theorem qB:dI dZ (Hd.fS (Hd.mem 36 15)) (Hd.fB (Hd.mem 36 15)) ["self","process","channel"] 0:=⟨by kernel_rfl,λP=>⟨_,aq (show (Hd.KK P).lookup dZ=some Hd.o778 by kernel_rfl) (by kernel_rfl) rfl rfl rfl rfl rfl rfl rfl,rfl,λst X=>xa (λa b c=>kp_binds X λS=>by kernel_rfl)⟩⟩
theorem oZ:dI dB (Hd.fS (Hd.mem 36 16)) (Hd.fB (Hd.mem 36 16)) ["self","channel"] 0:=⟨by kernel_rfl,λP=>⟨_,aq (show (Hd.KK P).lookup dB=some Hd.o785 by kernel_rfl) (by kernel_rfl) rfl rfl rfl rfl rfl rfl rfl,rfl,λst X=>jU (λa b=>kp_binds X λS=>by kernel_rfl)⟩⟩
theorem uy:dI fN (Hd.fS (Hd.stm 38)) (Hd.fB (Hd.stm 38)) ["box","many"] 0:=⟨by kernel_rfl,λP=>⟨_,aq (show (Hd.KK P).lookup fN=some Hd.o811 by kernel_rfl) (by kernel_rfl) rfl rfl rfl rfl rfl rfl rfl,rfl,λst X=>jU (λa b=>kp_binds X λS=>by kernel_rfl)⟩⟩
theorem u9:dI dN (Hd.fS (Hd.stm 39)) (Hd.fB (Hd.stm 39)) ["calls","first","shut","gone","row"] 0:=⟨by kernel_rfl,λP=>⟨_,aq (show (Hd.KK P).lookup dN=some Hd.o816 by kernel_rfl) (by kernel_rfl) rfl rfl rfl rfl rfl rfl rfl,rfl,λst X=>P7 (λa b c d g=>kp_binds X λS=>by kernel_rfl)⟩⟩
theorem qF:dI dY (Hd.fS (Hd.stm 40)) (Hd.fB (Hd.stm 40)) ["box","calls","first","text","many"] 0:=⟨by kernel_rfl,λP=>⟨_,aq (show (Hd.KK P).lookup dY=some Hd.o825 by kernel_rfl) (by kernel_rfl) rfl rfl rfl rfl rfl rfl rfl,rfl,λst X=>P7 (λa b c d g=>kp_binds X λS=>by kernel_rfl)⟩⟩
theorem qK:dI bZ (Hd.fS (Hd.stm 41)) (Hd.fB (Hd.stm 41)) ["calls","one"] 0:=⟨by kernel_rfl,λP=>⟨_,aq (show (Hd.KK P).lookup bZ=some Hd.o832 by kernel_rfl) (by kernel_rfl) rfl rfl rfl rfl rfl rfl rfl,rfl,λst X=>jU (λa b=>kp_binds X λS=>by kernel_rfl)⟩⟩
theorem w3:dI eF (Hd.fS (Hd.stm 42)) (Hd.fB (Hd.stm 42)) ["calls","one","world"] 0:=⟨by kernel_rfl,λP=>⟨_,aq (show (Hd.KK P).lookup eF=some Hd.o839 by kernel_rfl) (by kernel_rfl) rfl rfl rfl rfl rfl rfl rfl,rfl,λst X=>xa (λa b c=>kp_binds X λS=>by kernel_rfl)⟩⟩
theorem tF:dI d9 (Hd.fS (Hd.stm 43)) (Hd.fB (Hd.stm 43)) ["calls","one","world"] 0:=⟨by kernel_rfl,λP=>⟨_,aq (show (Hd.KK P).lookup d9=some Hd.o846 by kernel_rfl) (by kernel_rfl) rfl rfl rfl rfl rfl rfl rfl,rfl,λst X=>xa (λa b c=>kp_binds X λS=>by kernel_rfl)⟩⟩
theorem vK:dI fM (Hd.fS (Hd.stm 44)) (Hd.fB (Hd.stm 44)) ["rows","pipes","world"] 0:=⟨by kernel_rfl,λP=>⟨_,aq (show (Hd.KK P).lookup fM=some Hd.o851 by kernel_rfl) (by kernel_rfl) rfl rfl rfl rfl rfl rfl rfl,rfl,λst X=>xa (λa b c=>kp_binds X λS=>by kernel_rfl)⟩⟩
theorem Nv:dI vN (Hd.fS (Hd.stm 45)) (Hd.fB (Hd.stm 45)) ["script"] 0:=⟨by kernel_rfl,λP=>⟨_,aq (show (Hd.KK P).lookup vN=some Hd.o856 by kernel_rfl) (by kernel_rfl) rfl rfl rfl rfl rfl rfl rfl,rfl,λst X=>v4 (λa=>kp_binds X λS=>by kernel_rfl)⟩⟩
theorem H8 (P:Params):fm (Hd.KK P) bQ gf=true:=by kernel_rfl
theorem L8 (P:Params):keepIn (Hd.KK P) (.ref bQ)=true:=by kernel_rfl
theorem JM:GN "Pipe" (.ref bQ):=jk λP=>by kernel_rfl
theorem eO:MF bQ "waiting" cN:=λP=>by kernel_rfl
theorem eV (P:Params):keepIn (Hd.KK P) (.ref cN)=true:=by kernel_rfl
theorem uK:MF bQ "room" fT:=λP=>by kernel_rfl
theorem vp (P:Params):keepIn (Hd.KK P) (.ref fT)=true:=by kernel_rfl
theorem dA:MF bQ "channel" dE:=λP=>by kernel_rfl
theorem dx (P:Params):keepIn (Hd.KK P) (.ref dE)=true:=by kernel_rfl
theorem sg:MF bQ "write" dM:=λP=>by kernel_rfl
theorem tG (P:Params):keepIn (Hd.KK P) (.ref dM)=true:=by kernel_rfl
theorem v5:MF bQ "read" eL:=λP=>by kernel_rfl
theorem wa (P:Params):keepIn (Hd.KK P) (.ref eL)=true:=by kernel_rfl
theorem tY:MF bQ "close" eT:=λP=>by kernel_rfl
theorem ue (P:Params):keepIn (Hd.KK P) (.ref eT)=true:=by kernel_rfl
theorem sv (P:Params):fm (Hd.KK P) bf dK=true:=by kernel_rfl
theorem nQ (P:Params):keepIn (Hd.KK P) (.ref bf)=true:=by kernel_rfl
theorem wh:GN "PipeTable" (.ref bf):=jk λP=>by kernel_rfl
theorem mP:MF bf "make" cQ:=λP=>by kernel_rfl
theorem mZ (P:Params):keepIn (Hd.KK P) (.ref cQ)=true:=by kernel_rfl
theorem lX:MF bf "close" cu:=λP=>by kernel_rfl
theorem mn (P:Params):keepIn (Hd.KK P) (.ref cu)=true:=by kernel_rfl
theorem mq:MF bf "count" cp:=λP=>by kernel_rfl
theorem lS (P:Params):keepIn (Hd.KK P) (.ref cp)=true:=by kernel_rfl
theorem wG (P:Params):keepIn (Hd.KK P) (.ref fW)=true:=by kernel_rfl
theorem wm:GN "octets_of" (.ref fW):=jk λP=>by kernel_rfl
theorem Ef (P:Params):fm (Hd.KK P) fH ff=true:=by kernel_rfl
theorem zR (P:Params):keepIn (Hd.KK P) (.ref fH)=true:=by kernel_rfl
theorem Hi:GN "Parts" (.ref fH):=jk λP=>by kernel_rfl
theorem oj (P:Params):fm (Hd.KK P) ae cO=true:=by kernel_rfl
theorem jC (P:Params):keepIn (Hd.KK P) (.ref ae)=true:=by kernel_rfl
theorem pI:GN "ProcessCalls" (.ref ae):=jk λP=>by kernel_rfl
theorem eM:MF ae "sleep_on" be:=λP=>by kernel_rfl
theorem eE (P:Params):keepIn (Hd.KK P) (.ref be)=true:=by kernel_rfl
theorem jT:MF ae "fork" bV:=λP=>by kernel_rfl
theorem jZ (P:Params):keepIn (Hd.KK P) (.ref bV)=true:=by kernel_rfl
theorem j3:MF ae "let_go" bF:=λP=>by kernel_rfl
theorem j5 (P:Params):keepIn (Hd.KK P) (.ref bF)=true:=by kernel_rfl
theorem gt:MF ae "exit" aQ:=λP=>by kernel_rfl
theorem gm (P:Params):keepIn (Hd.KK P) (.ref aQ)=true:=by kernel_rfl
theorem k9:MF ae "wait" aZ:=λP=>by kernel_rfl
theorem kb (P:Params):keepIn (Hd.KK P) (.ref aZ)=true:=by kernel_rfl
theorem dC:MF ae "close" aW:=λP=>by kernel_rfl
theorem dy (P:Params):keepIn (Hd.KK P) (.ref aW)=true:=by kernel_rfl
theorem i7:MF ae "let_close" b6:=λP=>by kernel_rfl
theorem hV (P:Params):keepIn (Hd.KK P) (.ref b6)=true:=by kernel_rfl
theorem gi:MF ae "pipe" bu:=λP=>by kernel_rfl
theorem gr (P:Params):keepIn (Hd.KK P) (.ref bu)=true:=by kernel_rfl
theorem jX:MF ae "read" bv:=λP=>by kernel_rfl
theorem jS (P:Params):keepIn (Hd.KK P) (.ref bv)=true:=by kernel_rfl
theorem jc:MF ae "write" bm:=λP=>by kernel_rfl
theorem ji (P:Params):keepIn (Hd.KK P) (.ref bm)=true:=by kernel_rfl
theorem vT (P:Params):fm (Hd.KK P) aY dU=true:=by kernel_rfl
theorem za (P:Params):keepIn (Hd.KK P) (.ref aY)=true:=by kernel_rfl
theorem xw:GN "OpenFile" (.ref aY):=jk λP=>by kernel_rfl
theorem og:MF aY "side" dg:=λP=>by kernel_rfl
theorem oE (P:Params):keepIn (Hd.KK P) (.ref dg)=true:=by kernel_rfl
theorem u2 (P:Params):fm (Hd.KK P) aD dG=true:=by kernel_rfl
theorem nj (P:Params):keepIn (Hd.KK P) (.ref aD)=true:=by kernel_rfl
theorem vE:GN "FileTable" (.ref aD):=jk λP=>by kernel_rfl
theorem lW:MF aD "count" cx:=λP=>by kernel_rfl
theorem lP (P:Params):keepIn (Hd.KK P) (.ref cx)=true:=by kernel_rfl
theorem f7:MF aD "need_room" bH:=λP=>by kernel_rfl
theorem f5 (P:Params):keepIn (Hd.KK P) (.ref bH)=true:=by kernel_rfl
theorem m5:MF aD "enter" cm:=λP=>by kernel_rfl
theorem lB (P:Params):keepIn (Hd.KK P) (.ref cm)=true:=by kernel_rfl
theorem iY:MF aD "open_pipe" bG:=λP=>by kernel_rfl
theorem j7 (P:Params):keepIn (Hd.KK P) (.ref bG)=true:=by kernel_rfl
theorem lR:MF aD "share" cq:=λP=>by kernel_rfl
theorem lV (P:Params):keepIn (Hd.KK P) (.ref cq)=true:=by kernel_rfl
theorem mt:MF aD "close" cv:=λP=>by kernel_rfl
theorem lJ (P:Params):keepIn (Hd.KK P) (.ref cv)=true:=by kernel_rfl
theorem mI:MF aD "read" cK:=λP=>by kernel_rfl
theorem mV (P:Params):keepIn (Hd.KK P) (.ref cK)=true:=by kernel_rfl
theorem lL:MF aD "write" cr:=λP=>by kernel_rfl
theorem lF (P:Params):keepIn (Hd.KK P) (.ref cr)=true:=by kernel_rfl
theorem f9:MF aD "waits_for" bI:=λP=>by kernel_rfl
theorem f6 (P:Params):keepIn (Hd.KK P) (.ref bI)=true:=by kernel_rfl
theorem qd (P:Params):fm (Hd.KK P) am cZ=true:=by kernel_rfl
theorem ku (P:Params):keepIn (Hd.KK P) (.ref am)=true:=by kernel_rfl
theorem kj:GN "Descriptors" (.ref am):=jk λP=>by kernel_rfl
theorem gR:MF am "put" bO:=λP=>by kernel_rfl
theorem gT (P:Params):keepIn (Hd.KK P) (.ref bO)=true:=by kernel_rfl
theorem kU:MF am "free" cf:=λP=>by kernel_rfl
theorem kW (P:Params):keepIn (Hd.KK P) (.ref cf)=true:=by kernel_rfl
theorem dp:MF am "get" ct:=λP=>by kernel_rfl
theorem du (P:Params):keepIn (Hd.KK P) (.ref ct)=true:=by kernel_rfl
theorem kH:MF am "take" cg:=λP=>by kernel_rfl
theorem kY (P:Params):keepIn (Hd.KK P) (.ref cg)=true:=by kernel_rfl
theorem eJ:MF am "all_files" bg:=λP=>by kernel_rfl
theorem eG (P:Params):keepIn (Hd.KK P) (.ref bg)=true:=by kernel_rfl
theorem kL:MF am "copy" c8:=λP=>by kernel_rfl
theorem l4 (P:Params):keepIn (Hd.KK P) (.ref c8)=true:=by kernel_rfl
theorem xz (P:Params):fm (Hd.KK P) aB eA=true:=by kernel_rfl
theorem Au (P:Params):keepIn (Hd.KK P) (.ref aB)=true:=by kernel_rfl
theorem Bz:GN "Process" (.ref aB):=jk λP=>by kernel_rfl
theorem g9:MF aB "clear" cj:=λP=>by kernel_rfl
theorem g6 (P:Params):keepIn (Hd.KK P) (.ref cj)=true:=by kernel_rfl
theorem gE:MF aB "is_there" c9:=λP=>by kernel_rfl
theorem gL (P:Params):keepIn (Hd.KK P) (.ref c9)=true:=by kernel_rfl
theorem kP:MF aB "is_alive" ce:=λP=>by kernel_rfl
theorem kB (P:Params):keepIn (Hd.KK P) (.ref ce)=true:=by kernel_rfl
theorem C5 (P:Params):fm (Hd.KK P) aV fq=true:=by kernel_rfl
theorem HB (P:Params):keepIn (Hd.KK P) (.ref aV)=true:=by kernel_rfl
theorem I7:GN "Table" (.ref aV):=jk λP=>by kernel_rfl
theorem kO:MF aV "free_place" ci:=λP=>by kernel_rfl
theorem kS (P:Params):keepIn (Hd.KK P) (.ref ci)=true:=by kernel_rfl
theorem nF:MF aV "new" fQ:=λP=>by kernel_rfl
theorem nR (P:Params):keepIn (Hd.KK P) (.ref fQ)=true:=by kernel_rfl
theorem nZ:MF aV "all" fY:=λP=>by kernel_rfl
theorem o9 (P:Params):keepIn (Hd.KK P) (.ref fY)=true:=by kernel_rfl
theorem ii:MF aV "children" cL:=λP=>by kernel_rfl
theorem ic (P:Params):keepIn (Hd.KK P) (.ref cL)=true:=by kernel_rfl
theorem hZ:MF aV "ready" dX:=λP=>by kernel_rfl
theorem hM (P:Params):keepIn (Hd.KK P) (.ref dX)=true:=by kernel_rfl
theorem sO:MF aV "fork" eW:=λP=>by kernel_rfl
theorem s7 (P:Params):keepIn (Hd.KK P) (.ref eW)=true:=by kernel_rfl
theorem n6:MF aV "reparent" cI:=λP=>by kernel_rfl
theorem mR (P:Params):keepIn (Hd.KK P) (.ref cI)=true:=by kernel_rfl
theorem gK:MF aV "channel_of" c7:=λP=>by kernel_rfl
theorem gH (P:Params):keepIn (Hd.KK P) (.ref c7)=true:=by kernel_rfl
theorem sN:MF aV "exit" eQ:=λP=>by kernel_rfl
theorem tr (P:Params):keepIn (Hd.KK P) (.ref eQ)=true:=by kernel_rfl
theorem sK:MF aV "reap" eS:=λP=>by kernel_rfl
theorem sV (P:Params):keepIn (Hd.KK P) (.ref eS)=true:=by kernel_rfl
theorem sH:MF aV "wait" dR:=λP=>by kernel_rfl
theorem rW (P:Params):keepIn (Hd.KK P) (.ref dR)=true:=by kernel_rfl
theorem kg:MF aV "sleep" dZ:=λP=>by kernel_rfl
theorem km (P:Params):keepIn (Hd.KK P) (.ref dZ)=true:=by kernel_rfl
theorem dH:MF aV "wakeup" dB:=λP=>by kernel_rfl
theorem dD (P:Params):keepIn (Hd.KK P) (.ref dB)=true:=by kernel_rfl
theorem hD (P:Params):keepIn (Hd.KK P) (.ref fN)=true:=by kernel_rfl
theorem gQ:GN "_law_take" (.ref fN):=jk λP=>by kernel_rfl
theorem gv (P:Params):keepIn (Hd.KK P) (.ref dN)=true:=by kernel_rfl
theorem lj:GN "_law_child" (.ref dN):=jk λP=>by kernel_rfl
theorem qC (P:Params):keepIn (Hd.KK P) (.ref dY)=true:=by kernel_rfl
theorem qY:GN "_law_row_of" (.ref dY):=jk λP=>by kernel_rfl
theorem ky (P:Params):keepIn (Hd.KK P) (.ref bZ)=true:=by kernel_rfl
theorem ki:GN "_law_writes" (.ref bZ):=jk λP=>by kernel_rfl
theorem o7 (P:Params):keepIn (Hd.KK P) (.ref eF)=true:=by kernel_rfl
theorem vD:GN "_law_step" (.ref eF):=jk λP=>by kernel_rfl
theorem ug (P:Params):keepIn (Hd.KK P) (.ref d9)=true:=by kernel_rfl
theorem sJ:GN "_law_reads" (.ref d9):=jk λP=>by kernel_rfl
theorem v2 (P:Params):keepIn (Hd.KK P) (.ref fM)=true:=by kernel_rfl
theorem uN:GN "_law_held" (.ref fM):=jk λP=>by kernel_rfl
theorem eH:GN "len" (.builtin "len"):=CT λP=>by kernel_rfl
theorem Ma:GN "min" (.builtin "min"):=CT λP=>by kernel_rfl
theorem ID:GN "sum" (.builtin "sum"):=CT λP=>by kernel_rfl
theorem rP:GN "isinstance" (.builtin "isinstance"):=CT λP=>by kernel_rfl
theorem F2:GN "sorted" (.builtin "sorted"):=CT λP=>by kernel_rfl
theorem Jk:GN "list" (.type "list"):=DY λP=>by kernel_rfl
theorem sR:GN "bytes" (.type "bytes"):=DY λP=>by kernel_rfl
theorem nO:GN "bytearray" (.type "bytearray"):=DY λP=>by kernel_rfl
theorem lC:GN "range" (.type "range"):=DY λP=>by kernel_rfl
theorem vl:GN "enumerate" (.type "enumerate"):=DY λP=>by kernel_rfl
theorem Ks (A:Id→Addr)(P:Params):qA (Hd.KK P) "DONE"=some (den A (.int 0)):=by kernel_rfl
theorem GW (A:Id→Addr)(P:Params):qA (Hd.KK P) "SLEEP"=some (den A (.int 1)):=by kernel_rfl
theorem Ec (A:Id→Addr)(P:Params):qA (Hd.KK P) "BROKEN"=some (den A (.int 2)):=by kernel_rfl
theorem qa (A:Id→Addr)(P:Params):qA (Hd.KK P) "READ_CHANNEL"=some (den A (.int 0)):=by kernel_rfl
theorem oe (A:Id→Addr)(P:Params):qA (Hd.KK P) "WRITE_CHANNEL"=some (den A (.int 1)):=by kernel_rfl
theorem Jt (A:Id→Addr)(P:Params):qA (Hd.KK P) "PIPE"=some (den A (.str "pipe")):=by kernel_rfl
theorem EC (A:Id→Addr)(P:Params):qA (Hd.KK P) "DEVICE"=some (den A (.str "device")):=by kernel_rfl
theorem DR (A:Id→Addr)(P:Params):qA (Hd.KK P) "UNUSED"=some (den A (.str "unused")):=by kernel_rfl
theorem FW (A:Id→Addr)(P:Params):qA (Hd.KK P) "FRESH"=some (den A (.str "fresh")):=by kernel_rfl
theorem I1 (A:Id→Addr)(P:Params):qA (Hd.KK P) "READY"=some (den A (.str "ready")):=by kernel_rfl
theorem AI (A:Id→Addr)(P:Params):qA (Hd.KK P) "RUNNING"=some (den A (.str "running")):=by kernel_rfl
theorem yD (A:Id→Addr)(P:Params):qA (Hd.KK P) "SLEEPING"=some (den A (.str "sleeping")):=by kernel_rfl
theorem DJ (A:Id→Addr)(P:Params):qA (Hd.KK P) "ZOMBIE"=some (den A (.str "zombie")):=by kernel_rfl
theorem OO (A:Id→Addr)(P:Params):qA (Hd.KK P) "A0"=some (den A (.int 10)):=by kernel_rfl
theorem Ms (P:Params):qA (Hd.KK P) "str"=some (.ty "str"):=by kernel_rfl
noncomputable abbrev cn (W:Wd)(n:Nat)(i j:Nat):Cn:=⟨W,n,Hd.fS (Hd.mem i j),true⟩
section
variable {c:Cn}{ρ:KV}{A:Id→Addr}{K:KS}{X:H}{p:Pos}{n:Nat}
theorem ap {e:Expr}{t t':Bool}(k:jo c e ρ A K X t)(h:t=t'):jo c e ρ A K X t':=h▸k
theorem kc {e:Expr}{t t':VI}(k:GV c e ρ A K X t)(h:t=t'):GV c e ρ A K X t':=h▸k
section
variable {a b d e:Expr}{l:List Expr}{t t':Bool}{u:VI}
theorem nK (k:jo c a ρ A K X t)(k2:t=true→jo c b ρ A K X t'):jo c (.BoolOp .And [a,b] p) ρ A K X (t&&t'):=match t,k,k2 with
 |true,k,k2=>It k (k2 rfl)
 |false,k,_=>Ck k
theorem N5 (k:jo c a ρ A K X t)(k2:t=true→jo c (.BoolOp .And (b::d::l) p) ρ A K X t'):jo c (.BoolOp .And (a::b::d::l) p) ρ A K X (t&&t'):=match t,k,k2 with
 |true,k,k2=>Nz k (k2 rfl)
 |false,k,_=>Ck k
theorem Ml (k:GV c a ρ A K X (.bool t))(k2:t=true→GV c b ρ A K X (.bool t')):GV c (.BoolOp .And [a,b] p) ρ A K X (.bool (t&&t')):=match t,k,k2 with
 |true,k,k2=>IE k (k2 rfl)
 |false,k,_=>M9 k
theorem zy (k:jo c e ρ A K X t)(k1:t=true→GV c a ρ A K X u)(k2:t=false→GV c b ρ A K X u):GV c (.IfExp e a b p) ρ A K X u:=match t,k,k1,k2 with
 |true,k,k1,_=>CX k (k1 rfl)
 |false,k,_,k2=>Iv k (k2 rfl)
theorem fO {s r:List Stmt}{l:List Stmt}{R:oz}(k:jo c e ρ A K X t)(k1:t=true→GS c s ρ A K X (sq c l R))(k2:t=false→GS c r ρ A K X (sq c l R)):GS c (.If e s r p::l) ρ A K X R:=nE (oB k ⟨rfl,k1,k2⟩)
end
theorem aP (n:Str)(u:VI):∀l:KV,(aU n u l).lookup n=some u
 |[]=>by show (match n==n with|true=>some u|false=>none)=_;rw [beq_self_eq_true]
 |(k,v)::r=>by
  show (if n=k then (k,u)::r else (k,v)::aU n u r).lookup n=some u
  split
  ·rw [List.lookup_cons,‹n=k›,beq_self_eq_true]
  ·rw [List.lookup_cons,beq_eq_false_iff_ne.mpr ‹¬n=k›];exact aP n u r
theorem cw {id:Str}{u:VI}(hv:ρ.lookup id=some u)(kd:H2 (c.sc.names.lookup id)=true)(n1:(id==("__classdict__":Str))=false)(n2:(id==("__debug__":Str))=false):GV c (.Name id p) ρ A K X u:=aL kd hv n1 n2
theorem gh {i:Int}:GV c (.Constant (.int i) n p) ρ A K X (.int i):=Dw trivial rfl
theorem IJ {i:Str}:GV c (.Constant (.str i) n p) ρ A K X (.str i):=Dw trivial rfl
theorem MC {i:List UInt8}:GV c (.Constant (.bytes i) n p) ρ A K X (.bytes i):=Dw trivial rfl
theorem Mr {i:Bool}:GV c (.Constant (.bool i) n p) ρ A K X (.bool i):=Dw trivial rfl
theorem ED:GV c (.Constant .none n p) ρ A K X .none:=Dw trivial rfl
end
local macro_rules | `(tactic|bv_omega)=> `(tactic|first
 |assumption
 |exact bB (by assumption) (by assumption) rfl
 |exact cC (by assumption) rfl
 |exact gB (by assumption) rfl
 |exact fD (by assumption)
 |exact eZ (by assumption)
 |exact BC (by assumption)
 |exact ma (by assumption)
 |exact Jq (by assumption)
 |exact j4 (by assumption))
local macro_rules | `(tactic|infer_instance)=> `(tactic|first
 |exact Ks _|exact GW _|exact Ec _|exact qa _|exact oe _|exact Jt _|exact EC _
 |exact DR _|exact FW _|exact I1 _|exact yD _|exact DJ _|exact OO _|exact AI _)
local macro_rules | `(tactic|trace_state)=> `(tactic|first
 |assumption
 |exact gG
 |exact s9
 |exact zt (by assumption)
 |exact DB (by assumption)
 |exact tn (by assumption)
 |exact E8 (by assumption))
local macro_rules | `(tactic|symm_saturate)=> `(tactic|first
 |assumption
 |exact gF rfl
 |exact gc rfl
 |exact iu|exact pq|exact KO|exact DS|exact Cu|exact qu|exact iW|exact IF|exact wO|exact Mv)
local macro_rules | `(tactic|ac_rfl)=> `(tactic|first
 |assumption
 |exact aL rfl rfl rfl rfl
 |exact gh|exact IJ|exact ED|exact Mr|exact MC
 |(apply Oh; · rfl
   ·rfl
   ·infer_instance)
 |(apply bU; · ac_rfl
   ·rfl
   ·bv_omega
   ·rfl)
 |(apply j0; · ac_rfl
   ·ac_rfl
   ·trace_state))
local macro_rules | `(tactic|subst_eqs)=> `(tactic|first
 |assumption
 |(apply b8; · ac_rfl
   ·ac_rfl
   ·rfl
   ·symm_saturate)
 |(apply MQ; · subst_eqs
   ·rfl)
 |(apply Ap; · exact λ_=>rfl
   ·ac_rfl))
local macro_rules | `(tactic|and_intros)=> `(tactic|first
 |assumption
 |exact aK
 |(apply aw; · ac_rfl
   ·rfl
   ·and_intros))
section
variable {W:Wd}{A:Id→Addr}{K:KS}{X:H}{R:SV VI}{n:Nat}
theorem jE {i:Nat}{p:ac}(hi:i<K.np)(e:K.pipe i=p):x9 W (n+1) cN [.ref (.pipe i)] A K X (.int (p.wc - p.rc)):=
 have o:OI W A K X (.ref (.pipe i)) bQ (A (.pipeD i)) (oJ i p):=cC hi e
 fg pH rfl rfl (bX (by ac_rfl) ⟨⟨rfl,rfl⟩,λ_ _ e=>e,rfl⟩)
theorem JA {i:Nat}(hi:i<K.np):x9 W (n+2) fT [.ref (.pipe i)] A K X (.int ((K.pipe i).size - ((K.pipe i).wc - (K.pipe i).rc))):=
 fg wC rfl rfl (bX (j0 (by ac_rfl) (iz (by ac_rfl) rfl (aJ eO (cC hi rfl) rfl) rfl rfl aK (i5 eV (jE hi rfl))) s9) ⟨⟨rfl,rfl⟩,λ_ _ e=>e,rfl⟩)
theorem ig {i:Nat}{s:Int}(hi:i<K.np)(k:∀c,X c=none→R A K (X.put c (.tup [.str fy,.int i,.int s])) (.adr c)):
  GC W (n+1) dE [.ref (.pipe i),.int s] A K X R:=
 aH q8 rfl rfl (kN (l0 (gg (us:=[.str fy,.int i,.int s]) (by and_intros) ⟨Nat.le_of_ble_eq_true rfl,λc hc=>⟨rfl,k c hc⟩⟩)))
noncomputable def ac.shut (p:ac)(s:Int):ac:=if s=0 then p.wRo false else p.wWo false
theorem Dy {i:Nat}{s:Int}(hi:i<K.np)(hs:s=0∨s=1)(k:R A (K.setPipe i ((K.pipe i).shut s)) X (.bool (!((K.pipe i).shut s).ro&& !((K.pipe i).shut s).wo))):
  GC W (n+1) eT [.ref (.pipe i),.int s] A K X R:=by
 have fin:∀p:ac,R A (K.setPipe i p) X (.bool (!p.ro&& !p.wo))→GS (cn W n 13 6) (Hd.fB (Hd.mem 13 6)).tail [("self",.ref (.pipe i)),("side",.int s)] A (K.setPipe i p) X λA₁ K₁ X₁ f _=>R A₁ K₁ X₁ f.val:=λp k=>by
  have o:OI W A (K.setPipe i p) X (.ref (.pipe i)) bQ (A (.pipeD i)) (oJ i p):=cC hi (c5 ..)
  exact bX (Ml (DP (by ac_rfl)) λ_=>DP (by ac_rfl)) k
 refine aH se rfl rfl ?_
 rcases hs with rfl|rfl
 ·exact iQ (by subst_eqs) (aC rfl (by ac_rfl) (by ac_rfl) (oO (p':=(K.pipe i).wRo false) hi rfl rfl rfl rfl rfl (ar (fin _ k))))
 ·exact Ip (by subst_eqs) (aC rfl (by ac_rfl) (by ac_rfl) (oO (p':=(K.pipe i).wWo false) hi rfl rfl rfl rfl rfl (ar (fin _ k))))
end
section
noncomputable def ac.push1 (p:ac)(b:UInt8):ac:=(p.wRing (p.ring.set (p.wc % p.size) b)).wWc (p.wc+1)
noncomputable def ac.push (p:ac)(l:List UInt8):ac:=l.foldl ac.push1 p
theorem AA (p:ac)(l:List UInt8)(b:UInt8):p.push (l++[b])=(p.push l).push1 b:=by unfold ac.push;rw [List.foldl_append];rfl
theorem mJ (l:List UInt8):∀p:ac,(p.push l).size=p.size∧(p.push l).ring.length=p.ring.length∧(p.push l).rc=p.rc∧(p.push l).ro=p.ro∧(p.push l).wo=p.wo∧(p.push l).wc=p.wc+l.length:=by
 induction l with
 |nil=>exact λp=>⟨rfl,rfl,rfl,rfl,rfl,rfl⟩
 |cons b r ih=>exact λp=>have z:=ih (p.push1 b);⟨z.1,z.2.1.trans (List.length_set ..),z.2.2.1,z.2.2.2.1,z.2.2.2.2.1,z.2.2.2.2.2.trans (Nat.add_right_comm ..)⟩
noncomputable def ac.fill (p:ac):Nat:=p.wc - p.rc
noncomputable def ac.at_ (p:ac)(t:Nat):UInt8:=p.ring.getD ((p.rc+t) % p.size) 0
noncomputable def ac.got (p:ac)(m:Nat):List UInt8:=(List.range m).map p.at_
noncomputable def ac.drop (p:ac)(m:Nat):ac:=p.wRc (p.rc+m)
theorem Cz (p:ac)(m:Nat):p.got (m+1)=p.got m++[p.at_ m]:=by unfold ac.got;rw [List.range_succ,List.map_append];rfl
theorem MO (a b:Nat):min (a:Int) b=((min a b:Nat):Int):=by
 by_cases h:a≤b
 ·rw [Nat.min_eq_left h,Int.min_eq_left (Int.ofNat_le.mpr h)]
 ·have h:=Nat.le_of_not_le h
  rw [Nat.min_eq_right h,Int.min_eq_right (Int.ofNat_le.mpr h)]
theorem D7 (n t:Nat):clipAt n (t:Int)=min t n:=by
 unfold clipAt
 rw [if_neg (Int.not_lt.mpr (Int.natCast_nonneg t)),MO,Int.max_eq_right (Int.natCast_nonneg _),Int.toNat_natCast]
theorem vf {n t:Nat}(h:t≤n):clipAt n (t:Int)=t:=(D7 n t).trans (Nat.min_eq_left h)
theorem wI {α:Type}(x:List α){t:Nat}(ht:t≤x.length):cut x none (some (t:Int))=x.take t:=by
 unfold cut
 rw [Option.elim_none,Option.elim_some,vf ht];rfl
theorem vc {α:Type}(x:List α){t:Nat}(ht:t≤x.length):cut x (some (t:Int)) none=x.drop t:=by
 unfold cut
 rw [Option.elim_none,Option.elim_some,vf ht,List.take_of_length_le]
 rw [List.length_drop];exact Nat.le_refl _
theorem cF {α:Type}{l:List α}{i:Nat}{d:α}(h:i<l.length):l.getD i d=l[i]:=by rw [List.getD_eq_getElem?_getD,List.getElem?_eq_getElem h];rfl
theorem wq (a b:Nat):(a:Int).fmod (b:Int)=((a % b:Nat):Int):=(Int.fmod_eq_emod_of_nonneg _ (Int.natCast_nonneg _)).trans (Int.natCast_emod ..).symm
theorem Pc (a b:Nat):0≤(a:Int).fmod (b:Int):=by rw [wq];exact Int.natCast_nonneg _
theorem OZ (a b:Nat):((a:Int).fmod (b:Int)).toNat=a % b:=by rw [wq];exact Int.toNat_natCast _
theorem u8 (b:UInt8):((b.toNat:Int).toNat).toUInt8=b:=by rw [Int.toNat_natCast];exact UInt8.ofNat_toNat
theorem Lu (b:UInt8):(b.toNat:Int)<256:=Int.ofNat_lt.mpr (UInt8.toNat_lt b)
variable {W:Wd}{A:Id→Addr}{K:KS}{X:H}{R:SV VI}{n:Nat}
theorem BX {i:Nat}{x:List UInt8}(hi:i<K.np)(hro:(K.pipe i).ro=true)(hle:(K.pipe i).rc≤(K.pipe i).wc)(hf:(K.pipe i).fill≤(K.pipe i).size)(hx:x.length≤100000)
  (k:∀c t,t=min x.length ((K.pipe i).size - (K.pipe i).fill)→X c=none→R A (K.setPipe i ((K.pipe i).push (x.take t))) (X.put c (.tup [.int t,.int (if t=x.length then 0 else 1)])) (.adr c)):
  GC W (n+3) dM [.ref (.pipe i),.bytes x] A K X R:=by
 refine aH sn rfl rfl (dh λw=> ?_)
 generalize ht:min x.length ((K.pipe i).size - (K.pipe i).fill)=t at k
 have tl:t≤x.length:=Nat.le_trans (Nat.le_of_eq ht.symm) (Nat.min_le_left ..)
 have e:min (x.length:Int) ((K.pipe i).size - ((K.pipe i).wc - (K.pipe i).rc))=(t:Int):=by
  rw [←Int.ofNat_sub hle,←Int.ofNat_sub (show (K.pipe i).wc - (K.pipe i).rc≤_ from hf),MO];exact congrArg _ ht
 refine da (ap (by subst_eqs) (by rw [hro];rfl)) (mU (u:= .int t) rfl rfl (kc (ge rfl Ma rfl (aw (ge rfl eH rfl (aw (by ac_rfl) rfl aK) (l9 hx)) rfl (aw (iz (by ac_rfl) rfl (aJ uK (cC hi rfl) rfl) rfl rfl aK (i5 vp (JA hi))) rfl aK)) MS) (by rw [e])) ?_)
 refine yE (α:=KV) (N:=t) (sr:= .bytes (x.take t)) (λj _=>K.setPipe i ((K.pipe i).push (x.take j))) (λ_ _=>X) (λ_ y=>("self",.ref (.pipe i))::("octets",.bytes x)::("taken",.int t)::y) [] (iA (K:=K) i) rfl rfl
  (OV rfl (ua (by ac_rfl) Bn (By (by ac_rfl)) hx (wI x tl)) ⟨rfl,rfl,rfl,rfl⟩) ((List.length_take ..).trans (Nat.min_eq_left tl)) (λ_ _ _ _=>trivial) (λj=> .int (x.getD j 0).toNat) (λj _ hj=>Eb (x:=x.getD j 0) ?_ ⟨rfl,rfl,rfl,rfl⟩) (λj y hj=> ?_) (λy=> ?_)
 ·rw [List.getElem?_take_of_lt hj,List.getElem?_eq_getElem (Nat.lt_of_lt_of_le hj tl),cF (Nat.lt_of_lt_of_le hj tl)]
 ·have jx:j<x.length:=Nat.lt_of_lt_of_le hj tl
  have pk:=mJ (x.take j) (K.pipe i)
  have s0:=w.ring i hi
  have nx:x.take (j+1)=x.take j++[x.getD j 0]:=by rw [List.take_succ_eq_append_getElem jx,cF jx]
  simp only [nx,AA]
  generalize (K.pipe i).push (x.take j)=p at*
  generalize x.getD j 0=b
  have o:OI W A (K.setPipe i p) X (.ref (.pipe i)) bQ (A (.pipeD i)) (oJ i p):=cC hi (c5 ..)
  have s1:(p.size:Int)≠0:=Int.ofNat_ne_zero.mpr (Nat.ne_of_gt (pk.1▸s0.2.1))
  refine dQ rfl (tO rfl (cw (aP ..) rfl rfl rfl) (by ac_rfl) (by ac_rfl) (Ie hi (Pc ..) ?_ (Int.natCast_nonneg _) (Lu _) ?_))
  ·rw [c5,OZ,pk.2.1,s0.1]
   show p.wc % p.size<_
   rw [pk.1];exact Nat.mod_lt _ s0.2.1
  ·rw [c5,OZ,u8,gb]
   have o:OI W A (K.setPipe i (p.wRing (p.ring.set (p.wc % p.size) b))) X (.ref (.pipe i)) bQ (A (.pipeD i)) (oJ i _):=cC hi (c5 ..)
   refine rk (by ac_rfl) o rfl (by ac_rfl) mX (oO (p':=p.push1 b) hi (c5 ..) rfl rfl rfl rfl ?_)
   rw [gb]
   exact ar ⟨rfl,_,rfl,rfl,rfl⟩
 ·refine kN (l0 (gg (us:=[.int t,.int (if t=x.length then 0 else 1)]) (aw (by ac_rfl) rfl (aw ?_ rfl aK)) ⟨Nat.le_of_ble_eq_true rfl,λc hc=>⟨rfl,k c t rfl hc⟩⟩))
  refine zy (b8 (by ac_rfl) (ge rfl eH rfl (aw (by ac_rfl) rfl aK) (l9 hx)) rfl iu) (λq=> ?_) λq=> ?_
  ·rw [if_pos (Int.ofNat.inj (eq_of_beq q))];ac_rfl
  ·rw [if_neg λe=>ne_of_beq_false q (congrArg Int.ofNat e)];ac_rfl
end
section
theorem pE {p:ac}(hle:p.rc≤p.wc):(p.wc:Int) - p.rc=(p.fill:Nat):=(Int.ofNat_sub hle).symm
variable {W:Wd}{A:Id→Addr}{K:KS}{X:H}{R:SV VI}{n:Nat}
theorem Eh {i m:Nat}(hi:i<K.np)(hle:(K.pipe i).rc≤(K.pipe i).wc)(hf:(K.pipe i).fill≤(K.pipe i).size)
  (k1:∀c t,t=min m (K.pipe i).fill→X c=none→R A (K.setPipe i ((K.pipe i).drop t)) (X.put c (.tup [.bytes ((K.pipe i).got t),.int 0])) (.adr c)):
  GS (cn W (n+1) 13 5) (Hd.fB (Hd.mem 13 5)).tail [("self",.ref (.pipe i)),("count",.int m)] A K X λA₁ K₁ X₁ f _=>R A₁ K₁ X₁ f.val:=by
 refine fL (dh λw=>cE rfl rfl (f8 rfl nO rfl aK (FU λg hg=>⟨rfl,?_⟩)))
 have s0:=w.ring i hi
 generalize ht:min m (K.pipe i).fill=t at k1
 have um:t≤m∧t≤(K.pipe i).fill:=by rw [←ht];exact ⟨Nat.min_le_left ..,Nat.min_le_right ..⟩
 generalize hr:(λ(A₁:Id→Addr) (K₁:KS) (X₁:H) (f:FI) (ρ':KV)=>Fo X₁ λX=>R A₁ K₁ X f.val)=R'
 have k1:∀c,(X.put g (.barr ((K.pipe i).got t))) c=none→R' A (K.setPipe i ((K.pipe i).drop t)) ((X.put g (.barr ((K.pipe i).got t))).put c (.tup [.bytes ((K.pipe i).got t),.int 0])) (.ret (.adr c)) [("self",.ref (.pipe i)),("count",.int m),("given",.adr g)]:=λc hc=>by
  rw [←hr];exact ⟨_,m8 (ai hg),k1 c t rfl (kI hc)⟩
 refine J8 (λu=>K.setPipe i ((K.pipe i).drop u)) (λu=>X.put g (.barr ((K.pipe i).got u))) (λ_=>[("self",.ref (.pipe i)),("count",.int m),("given",.adr g)]) (λv u=>v+u=t) 0 (n:=t) (iA (K:=K) i) rfl rfl rfl λv u hv=> ?_
 have ut:u≤t:=Nat.le.intro ((Nat.add_comm ..).trans hv)
 have gl:((K.pipe i).got u).length=u:=(List.length_map ..).trans List.length_range
 generalize hX:X.put g (.barr ((K.pipe i).got u))=Y
 have xg:Y g=some (.barr ((K.pipe i).got u)):=hX▸H.put_same ..
 have done:u=t→GS (cn W (n+1) 13 5) (Hd.fB (Hd.mem 13 5)).tail.tail.tail [("self",.ref (.pipe i)),("count",.int m),("given",.adr g)] A (K.setPipe i ((K.pipe i).drop u)) Y R':=by
  intro e
  subst e hX
  exact kN (l0 (gg (us:=[.bytes ((K.pipe i).got u),.int 0]) (aw (ge rfl sR rfl (aw (by ac_rfl) rfl aK) (Jj (tV xg))) rfl (by and_intros)) ⟨Nat.le_of_ble_eq_true rfl,λc hc=>⟨rfl,k1 c hc⟩⟩))
 have hp:((K.setPipe i ((K.pipe i).drop u)).pipe i)=(K.pipe i).drop u:=c5 ..
 have up:u≤(K.pipe i).fill:=Nat.le_trans ut um.2
 by_cases qm:u<m
 ·generalize hP:(K.pipe i).drop u=p at*
  have pw:p.wc=(K.pipe i).wc:=by rw [←hP];rfl
  have pr:p.rc=(K.pipe i).rc+u:=by rw [←hP];rfl
  have ps:p.size=(K.pipe i).size:=by rw [←hP];rfl
  have pg:p.ring=(K.pipe i).ring:=by rw [←hP];rfl
  have o:OI W A (K.setPipe i p) Y (.ref (.pipe i)) bQ (A (.pipeD i)) (oJ i p):=cC hi hp
  have wv:x9 W (n+1) cN [.ref (.pipe i)] A (K.setPipe i p) Y (.int (p.wc - p.rc)):=jE hi hp
  refine oB (It (ap (b8 (ge rfl eH rfl (aw (by ac_rfl) rfl aK) (Dh (tV xg))) (by ac_rfl) rfl iW) (decide_eq_true (gl.symm▸Int.ofNat_lt.mpr qm))) (b8 (iz (by ac_rfl) rfl (aJ eO o rfl) rfl rfl aK (i5 eV wv)) (by ac_rfl) rfl wO)) ⟨rfl,λq=> ?_,λq=> ?_⟩
  ·have v1:v - 1<v∧v - 1+(u+1)=t:=by
    have uf:p.rc<p.wc:=Int.ofNat_lt.mp (Int.sub_pos.mp (of_decide_eq_true q))
    rw [pw,pr,Nat.add_comm] at uf
    have ul:u<t:=ht▸Nat.lt_min.mpr ⟨qm,Nat.lt_sub_of_add_lt uf⟩
    have z:0<v:=Nat.pos_of_ne_zero λe=>Nat.ne_of_lt ul (by rw [←hv,e,Nat.zero_add])
    exact ⟨Nat.sub_lt z Nat.one_pos,by rw [Nat.add_comm u,←Nat.add_assoc,Nat.sub_add_cancel z];exact hv⟩
   have hm:p.rc % p.size<(K.pipe i).ring.length:=by rw [s0.1,ps];exact Nat.mod_lt _ s0.2.1
   have s1:(p.size:Int)≠0:=by rw [ps];exact Int.ofNat_ne_zero.mpr (Nat.ne_of_gt s0.2.1)
   have hb:((K.setPipe i p).pipe i).ring[((p.rc:Int).fmod (p.size:Int)).toNat]?=some (p.ring.getD (p.rc % p.size) 0):=by
    rw [c5,OZ,pg,List.getElem?_eq_getElem hm,cF hm]
   refine dw rfl (aG (by ac_rfl) rfl (Om (tV xg)) rfl rfl (aw (aO (by ac_rfl) (by ac_rfl) rfl (MA (Gi hi) (Pc ..) hb)) rfl aK) (Mc xg (by rw [gl];exact Nat.le_trans up (Nat.le_trans hf (Nat.le_trans s0.2.2 (by decide)))) (Int.natCast_nonneg _) (Lu _) ⟨rfl,?_⟩))
   have o:OI W A (K.setPipe i p) (Y.put g (.barr ((K.pipe i).got u++[((p.ring.getD (p.rc % p.size) 0).toNat:Int).toNat.toUInt8]))) (.ref (.pipe i)) bQ (A (.pipeD i)) (oJ i p):=cC hi hp
   refine rk (by ac_rfl) o rfl (by ac_rfl) mX (oO (p':=p.wRc (p.rc+1)) hi (c5 ..) rfl rfl rfl rfl (ar ⟨rfl,v - 1,u+1,v1.1,v1.2,?_,?_,rfl⟩))
   ·have e1:p.wRc (p.rc+1)=(K.pipe i).drop (u+1):=by rw [←hP];rfl
    rw [gb,e1]
   ·rw [←hX,H.put_put,u8,Cz]
    unfold ac.at_
    rw [←pr,←pg,←ps]
  ·refine done (Nat.le_antisymm ut (Nat.le_trans um.2 (Nat.sub_le_of_le_add ?_)))
   have:p.wc≤p.rc:=Int.ofNat_le.mp (Int.le_of_sub_nonpos (Int.not_lt.mp (of_decide_eq_false q)))
   rw [pw,pr,Nat.add_comm] at this
   exact this
 ·exact oB (Ck (ap (b8 (ge rfl eH rfl (aw (by ac_rfl) rfl aK) (Dh (tV xg))) (by ac_rfl) rfl iW) (decide_eq_false (gl.symm▸λe=>qm (Int.ofNat_lt.mp e))))) ⟨rfl,ft,λ_=>done (Nat.le_antisymm ut (Nat.le_trans um.1 (Nat.le_of_not_lt qm)))⟩
theorem Gg {i m:Nat}(hi:i<K.np)(hle:(K.pipe i).rc≤(K.pipe i).wc)(hf:(K.pipe i).fill≤(K.pipe i).size)
  (k0:0<m→(K.pipe i).fill=0→(K.pipe i).wo=true→∀c,X c=none→R A K (X.put c (.tup [.bytes [],.int 1])) (.adr c))
  (k1:¬(0<m∧(K.pipe i).fill=0∧(K.pipe i).wo=true)→∀c t,t=min m (K.pipe i).fill→X c=none→R A (K.setPipe i ((K.pipe i).drop t)) (X.put c (.tup [.bytes ((K.pipe i).got t),.int 0])) (.adr c)):
  GC W (n+2) eL [.ref (.pipe i),.int m] A K X R:=by
 refine aH va rfl rfl (fO (N5 (by subst_eqs) λ_=>nK (b8 (iz (by ac_rfl) rfl (aJ eO (cC hi rfl) rfl) rfl rfl aK (i5 eV (jE hi rfl))) (by ac_rfl) rfl iu) λ_=>by subst_eqs) (λq=> ?_) λq=>ar (Eh hi hle hf (k1 λe=> ?_)))
 ·have q1:=an q
  have q2:=an q1.2
  refine kN (l0 (gg (us:=[.bytes [],.int 1]) (by and_intros) ⟨Nat.le_of_ble_eq_true rfl,λc hc=>⟨rfl,k0 (Int.ofNat_lt.mp (of_decide_eq_true q1.1)) ?_ q2.2 c hc⟩⟩))
  have:=eq_of_beq q2.1
  rw [pE hle] at this
  exact Int.ofNat.inj this
 ·have:((K.pipe i).wc:Int) - (K.pipe i).rc=0:=by rw [pE hle,e.2.1];rfl
  rw [this,e.2.2,(decide_eq_true (Int.ofNat_lt.mpr e.1):decide ((0:Int)<m)=true)] at q
  cases q
end
section
noncomputable def Ch.same:Ch→Ch→Bool
 | .pipe _ i s,.pipe _ j t=>decide (i=j)&&decide (s=t)
 | .child _ p,.child _ q=>decide (p=q)
 |_,_=>false
theorem CP:PyData.strOk fy=true:=by decide+kernel
theorem Aw:PyData.strOk iw=true:=by decide+kernel
noncomputable def Ch.data:Ch→PyData
 | .none=> .none
 | .pipe _ i s=> .tuple [.str fy,.int i,.int s]
 | .child _ p=> .tuple [.str iw,.int p]
theorem PD.tupL {h:H}{a:Addr}{vs:List V}{ds:List PyData}(e:h a=some (.tup vs))(k:bN (PD h) vs ds):PD h (.ref a) (.tuple ds):=by
 refine .tup e k.length ?_
 clear e
 induction vs generalizing ds with
 |nil=>exact λj q _=>absurd q (Nat.not_lt_zero _)
 |cons v vs ih=>
  cases ds with
  |nil=>exact k.elim
  |cons d ds=>exact λj=>match j with
   |0=>λ_ _=>k.1
   |j+1=>λq q'=>ih k.2 j (Nat.lt_of_succ_lt_succ q) (Nat.lt_of_succ_lt_succ q')
theorem Ch.pd {A:Id→Addr}{h:H}{c:Ch}(k:c.ok h):PD h (den A c.i) c.data:=by
 cases c with
 |none=>exact .none
 |pipe a i s=>exact .tupL k ⟨.str _,.int _,.int _,trivial⟩
 |child a p=>exact .tupL k ⟨.str _,.int _,trivial⟩
theorem Ch.lay (c:Ch):c.data.canLay0=true:=by
 cases c<;>simp [Ch.data,PyData.canLay0,PyData.canLayAll0,CP,Aw]
theorem Ch.deep (c:Ch):c.data.depth≤1:=by
 cases c<;>simp [Ch.data,PyData.depth,PyData.depthAll]
theorem Mp:(fy==iw)=false:=by decide+kernel
theorem Mx:(iw==fy)=false:=by decide+kernel
theorem zx (a b:Int):(a==b)=decide (a=b):=by by_cases h:a=b<;>simp [h]
theorem Ch.eqv (c d:Ch)(hd:d≠ .none):PyData.eqv c.data d.data=c.same d:=by
 cases d with
 |none=>exact absurd rfl hd
 |pipe b j t=>cases c with
  |none=>rfl
  |pipe a i s=>show _=(decide (i=j)&&decide (s=t));simp [Ch.data,PyData.eqv,PyData.eqvAll,zx,Int.natCast_inj]
  |child a p=>show _=false;simp [Ch.data,PyData.eqv,PyData.eqvAll,Mx]
 |child b q=>cases c with
  |none=>rfl
  |pipe a i s=>show _=false;simp [Ch.data,PyData.eqv,PyData.eqvAll,Mp]
  |child a p=>show _=decide (p=q);simp [Ch.data,PyData.eqv,PyData.eqvAll,zx,Int.natCast_inj]
noncomputable def aa.wake (ch:Ch)(p:aa):aa:=if p.state= .sleeping∧p.chan.same ch=true then p.rdy else p
noncomputable def KS.wakeTo (K:KS)(ch:Ch)(j:Nat):KS:={K with proc:=λi=>if i<j then (K.proc i).wake ch else K.proc i}
noncomputable def KS.wake (K:KS)(ch:Ch):KS:=K.wakeTo ch 6
theorem nB (K:KS)(ch:Ch)(j:Nat):K.wakeTo ch (j+1)=(K.wakeTo ch j).setProc j ((K.proc j).wake ch):=congrArg (λf=>{K with proc:=f}) (by
 funext i;unfold upd
 by_cases e:i=j
 ·rw [if_pos e,e,if_pos (Nat.lt_succ_self j)]
 ·rw [if_neg e]
  show _=if i<j then _ else _
  by_cases l:i<j
  ·rw [if_pos l,if_pos (Nat.lt_succ_of_lt l)]
  ·rw [if_neg l,if_neg λq=>(Nat.lt_succ_iff_lt_or_eq.mp q).elim l e])
theorem iF (K:KS)(ch:Ch)(j:Nat):(K.wakeTo ch j).proc j=K.proc j:=if_neg (Nat.lt_irrefl j)
theorem vr (K:KS)(ch:Ch):K.wakeTo ch 0=K:=congrArg (λf=>{K with proc:=f}) (by funext i;exact if_neg (Nat.not_lt_zero _))
theorem PS.bne (a b:PS):(a.s !=b.s)=decide (a≠b):=by show (!(a.s==b.s))=_;rw [PS.beq];exact (decide_not ..).symm
variable {W:Wd}{A:Id→Addr}{K:KS}{X:H}{R:SV VI}{n:Nat}
theorem LY {c d:Ch}(hc:∀⦃h⦄,Is W A K X h→c.ok h)(hd:d.ok X)(nd:d≠ .none):mx W A K X .Eq c.i d.i (c.same d):=λB k h u w Q r I e1 e2 q=>by
 rw [←Ch.eqv c d nd] at q
 have hd:d.ok h:=by
  cases d with
  |none=>exact absurd rfl nd
  |pipe a i s=>exact (I.oth a _ hd).1
  |child a p=>exact (I.oth a _ hd).1
 exact rH r (.data (Ch.pd (hc I)) (Ch.pd hd) c.lay d.lay (Nat.le_trans (Nat.min_le_left _ _) (Nat.le_trans c.deep (by decide)))) e1 e2 q
theorem Aa {x:VI}{a:Addr}(e:den A x= .ref a):mx W A K X .Is .none x false:=λB k h u w Q r I e1 e2 q=>Ev (.nr a) e1 (e2.trans e) q
theorem Dv {h:H}{x y:Id}{C d:Addr}{kv:KV}(I:Is W A K X h)(ox:OI W A K X (.ref x) C d kv)(lx:K.obj A x≠none)(ly:K.obj A y≠none)(ax:K.at A x=A x)(ay:K.at A y=A y):Df h (den A (.ref x)) (den A (.ref y)) (decide (x=y)):=by
 refine bq λzq=> ?_
 obtain ⟨a,ea,h1, -⟩:=ox I
 apply zq;clear zq
 cases ea
 refine bq λzq=> ?_
 obtain ⟨o,ho, -⟩:=I.live ly
 apply zq;clear zq
 rw [ay] at ho
 have e:decide (A x=A y)=decide (x=y):=decide_eq_decide.mpr ⟨λe=>I.inj x y lx ly (by rw [ax,ay];exact e),λe=>by rw [e]⟩
 exact e▸ .rr h1 ho
theorem Mh {x y:Id}{C d:Addr}{kv:KV}(ox:OI W A K X (.ref x) C d kv)(lx:K.obj A x≠none)(ly:K.obj A y≠none)(ax:K.at A x=A x)(ay:K.at A y=A y):mx W A K X .Is (.ref x) (.ref y) (decide (x=y)):=λB k h u w Q r I e1 e2 q=>Ev (Dv I ox lx ly ax ay) e1 e2 q
theorem Lf {x y:Id}{C d:Addr}{kv:KV}(ox:OI W A K X (.ref x) C d kv)(lx:K.obj A x≠none)(ly:K.obj A y≠none)(ax:K.at A x=A x)(ay:K.at A y=A y):mx W A K X .IsNot (.ref x) (.ref y) (!decide (x=y)):=λB k h u w Q r I e1 e2 q=>uD (Dv I ox lx ly ax ay) e1 e2 q
theorem zX {i:Nat}(on:K.on=true)(hi:i<6):K.obj A (.proc i)≠none:=gI (if_pos ⟨on,hi⟩)
theorem IK {i j:Nat}(on:K.on=true)(hi:i<6)(hj:j<6):mx W A K X .Is (.ref (.proc i)) (.ref (.proc j)) (decide (i=j)):=
 (decide_eq_decide.mpr ⟨λe=>by cases e;rfl,λe=>congrArg _ e⟩:decide (Id.proc i=Id.proc j)=decide (i=j))▸Mh (bB on hi rfl) (zX on hi) (zX on hj) rfl rfl
theorem LR {o:Option Nat}{j:Nat}(on:K.on=true)(ho:∀i,o=some i→i<6)(hj:j<6):mx W A K X .Is (eY .proc o) (.ref (.proc j)) (decide (o=some j)):=by
 cases o with
 |none=>exact Aa rfl
 |some i=>
  have:=IK (W:=W) (A:=A) (X:=X) on (ho i rfl) hj
  rwa [show decide (i=j)=decide (some i=some j) from decide_eq_decide.mpr ⟨congrArg _,Option.some.inj⟩] at this
theorem rN {i:Nat}(on:K.on=true)(hi:i<6)(k:R A (K.setProc i (K.proc i).rdy) X .none):
  GC W (n+1) dX [.ref .table,.ref (.proc i)] A K X R:=by
 refine aH r5 rfl rfl ?_
 refine aC rfl (by ac_rfl) (by ac_rfl) (eR (p':=(K.proc i).wState .ready) on hi rfl rfl rfl (.inl rfl) (.inl rfl) (.inl rfl) rfl ?_)
 refine aC rfl (by ac_rfl) (by ac_rfl) (eR (p':=(K.proc i).rdy) on hi (aR ..) rfl rfl (.inr trivial) (.inl rfl) (.inl rfl) rfl ?_)
 rw [b7]
 have on:(K.setProc i (K.proc i).rdy).on=true:=on
 exact da (b8 (by ac_rfl) (by ac_rfl) rfl (Aa rfl)) (ar k)
theorem A7 {i:Nat}{ch:Ch}(on:K.on=true)(hi:i<6)(hc:ch.ok X)(k:R A (K.setProc i (((K.proc i).wState .sleeping).wChan ch)) X .none):
  GC W (n+1) dZ [.ref .table,.ref (.proc i),ch.i] A K X R:=by
 refine aH qB rfl rfl ?_
 refine aC rfl (by ac_rfl) (by ac_rfl) (eR (p':=(K.proc i).wState .sleeping) on hi rfl rfl rfl (.inl rfl) (.inl rfl) (.inl rfl) rfl ?_)
 refine aC rfl (by ac_rfl) (by ac_rfl) (eR (p':=((K.proc i).wState .sleeping).wChan ch) on hi (aR ..) rfl rfl (.inr hc) (.inl rfl) (.inl rfl) rfl ?_)
 rw [b7]
 have on:(K.setProc i (((K.proc i).wState .sleeping).wChan ch)).on=true:=on
 exact da (b8 (by ac_rfl) (by ac_rfl) rfl (Aa rfl)) (ar k)
theorem m7 {i:Nat}(on:K.on=true)(hi:i<6)(k:∀c,X c=none→R A K (X.put c (.tup [.str iw,.int (K.proc i).pid])) (.adr c)):
  GC W (n+1) c7 [.ref .table,.ref (.proc i)] A K X R:=
 aH kZ rfl rfl (kN (l0 (gg (us:=[.str iw,.int (K.proc i).pid]) (by and_intros) ⟨Nat.le_of_ble_eq_true rfl,λc hc=>⟨rfl,k c hc⟩⟩)))
theorem pF {i:Nat}{p:aa}(on:K.on=true)(hi:i<6)(e:K.proc i=p):x9 W (n+1) c9 [.ref (.proc i)] A K X (.bool (decide (p.state≠ .unused))):=
 have o:OI W A K X (.ref (.proc i)) aB (A (.procD i)) (lD i p):=bB on hi e
 fg kX rfl rfl (bX (kc (E3 (by ac_rfl) (by ac_rfl) rfl Cu) (congrArg VI.bool (PS.bne p.state .unused))) ⟨⟨rfl,rfl⟩,λ_ _ e=>e,rfl⟩)
theorem jd {ch:Ch}(on:K.on=true)(hc:ch.ok X)(hne:ch≠ .none)(k:∀m:Int,R A (K.wake ch) X (.int m)):GC W (n+2) dB [.ref .table,ch.i] A K X R:=by
 refine aH oZ rfl rfl (mU (u:= .int 0) rfl rfl (by ac_rfl) ?_)
 refine yE (α:=Int×KV) (N:=6) (sr:= .list (A .places) _) (λj _=>K.wakeTo ch j) (λ_ _=>X) (λ_ y=>("self",.ref .table)::("channel",ch.i)::("many",.int y.1)::y.2) (0,[]) (vr K ch) rfl rfl
  (iO rfl (by ac_rfl) rfl (ia on) ⟨rfl,rfl,rfl,rfl⟩) rfl (λj y h I=>(ia (K:=K.wakeTo ch j) on I).elim λa e=>by have:=e.1;cases this;exact e.2) (λj=> .ref (.proc j)) (λj y hj=>cG ?_ ⟨rfl,rfl,rfl,rfl⟩) (λj y hj=> ?_) (λy=>bX (by ac_rfl) (k y.1))
 ·rw [List.getElem?_map,List.getElem?_range hj];rfl
 ·have on':(K.wakeTo ch j).on=true:=on
  have o:OI W A (K.wakeTo ch j) X (.ref (.proc j)) aB (A (.procD j)) (lD j (K.proc j)):=bB on hj (iF ..)
  have stay:(K.proc j).wake ch=K.proc j→K.wakeTo ch (j+1)=K.wakeTo ch j:=λe=>by
   rw [nB,e]
   have:=iy (K:=K.wakeTo ch j) j
   rwa [iF] at this
  refine dQ rfl (fO (nK (ap (b8 (bU (cw (aP ..) rfl rfl rfl) rfl o rfl) (by ac_rfl) rfl pq) (PS.beq (K.proc j).state .sleeping)) λ_=>b8 (bU (cw (aP ..) rfl rfl rfl) rfl o rfl) (by ac_rfl) rfl (LY (λh I=> ?_) hc hne)) (λq=> ?_) λq=>ar (ar ⟨rfl,(y.1,aU "process" (.ref (.proc j)) y.2),stay (if_neg λe=> ?_),rfl,rfl⟩))
  ·have:=I.chan j hj
   rwa [iF] at this
  ·have q:=an q
   refine dw rfl (aG (by ac_rfl) rfl (aJ hZ (eZ on') rfl) rfl rfl (aw (cw (aP ..) rfl rfl rfl) rfl aK) (aM hM (rN on' hj ⟨rfl,?_⟩)))
   refine MV rfl rfl rfl rfl rfl (by ac_rfl) mX (ar (ar ⟨rfl,(y.1+1,aU "process" (.ref (.proc j)) y.2),?_,rfl,rfl⟩))
   rw [nB,iF]
   exact congrArg _ (if_pos ⟨of_decide_eq_true q.1,q.2⟩)
  ·rw [decide_eq_true e.1,e.2] at q;cases q
end
section
noncomputable def NZ (W:Wd)(A:Id→Addr)(K:KS)(X:H)(op:Operator)(x y:VI)(R:SV VI):Prop:=∀⦃B:Around⦄ ⦃h:H⦄ ⦃u w:Value⦄ ⦃Q:Value→H→Prop⦄,Is W A K X h→er u=den A x→er w=den A y→(∀A₁ K₁ X₁ v z h',er z=den A₁ v→Is W A₁ K₁ X₁ h'→R A₁ K₁ X₁ v→Q z h')→TW W B (binaryOp op u w) h Q
theorem zA {c:Cn}{ρ:KV}{A:Id→Addr}{K:KS}{X:H}{a b:Expr}{p:Pos}{R:SV VI}{op:Operator}(k:GE c a ρ A K X λA₁ K₁ X₁ x=>Nx A A₁ ρ (GE c b ρ A₁ K₁ X₁ λA₂ K₂ X₂ y=>Sm A₁ A₂ x (NZ c.W A₂ K₂ X₂ op x y R))):GE c (.BinOp a op b p) ρ A K X R:=λB env h Q o I q=>
 EW.eq (arm_eval_BinOp ..) (EW.bind (k o I λA₁ K₁ X₁ x v h' ev I' n=>EW.bind (EW.hold (n.e▸n.k o I' λA₂ K₂ X₂ y u h'' eu I'' s=>EW.ba (bc (EW.lift (s.k I'' (ev.trans s.e.symm) eu q)))))))
variable {W:Wd}{A:Id→Addr}{K:KS}{X:H}{R:SV VI}{n:Nat}
theorem yU {d:Addr}{x:VI}{m:Int}(hd:X d=some (.list [den A x]))(m0:0≤m)(m1:m≤100000)(r:∀c,X c=none→R A K (X.put c (.list (List.replicate m.toNat (den A x)))) (.adr c)):NZ W A K X .Mult (.adr d) (.int m) R:=λB h u w Q I e1 e2 q=>
 Lm (I.oth d _ hd).1 m0 m1 e1 e2 λc hc=>q A K _ (.adr c) (.ref c) _ rfl (I.new hc) (r c (I.xnone hc))
theorem Kn {a b:VI}{us vs:List VI}(la:g8 W A K X a us)(lb:g8 W A K X b vs)(len:us.length+vs.length≤100000)(r:∀c,X c=none→R A K (X.put c (.list (dL A (us++vs)))) (.adr c)):NZ W A K X .Add a b R:=λB h u w Q I e1 e2 q=>by
 refine bq λzq=> ?_
 obtain ⟨x,ex,hx⟩:=la I
 obtain ⟨y,ey,hy⟩:=lb I
 apply zq;clear zq
 have e:dL A us++dL A vs=dL A (us++vs):=(List.map_append (f:=den A) (l₁:=us) (l₂:=vs)).symm
 refine JB hx hy ?_ (e1.trans ex) (e2.trans ey) λc hc=>q A K _ (.adr c) (.ref c) _ rfl (e▸I.new hc) (r c (I.xnone hc))
 rw [show (dL A us).length=us.length from List.length_map ..,show (dL A vs).length=vs.length from List.length_map ..];exact len
theorem kh {c:Cn}{ρ:KV}{l:List Stmt}{SR:oz}{a e:Expr}{nm:Str}{p q:Pos}{w:VI}(nc:hG e=false)(k1:GE c e ρ A K X λA₁ K₁ X₁ u=>Nx A A₁ ρ (GV c a ρ A₁ K₁ X₁ w∧GT c.W w nm u A₁ K₁ X₁ λK₂ X₂=>GS c l ρ A₁ K₂ X₂ SR)):GS c (.Assign [.Attribute a nm q] e p::l) ρ A K X SR:=
 ke rfl (re nc) (λ_=>rfl) λB env h Q o I kq=>k1 o I λA₁ K₁ X₁ u v h' ev I' z=>kq A₁ K₁ X₁ u v h' ev I' ⟨z.e,zr z.k.1 z.k.2⟩
noncomputable def H.del (X:H)(r:Addr):H:=λc=>if c=r then none else X c
theorem Is.setRegs {h:H}{i:Nat}{r:Addr}{p:aa}(I:Is W A K X h)(on:K.on=true)(hi:i<6)(hp:K.proc i=p)(hr:X r=some (.list (List.replicate 32 (.int 0)))):Is W A (K.setProc i (p.wRegs r)) (X.del r) (h.put (A (.procD i)) (.attrs (dT A (lD i (p.wRegs r))))):=by
 subst hp
 refine I.change (mv:=True) (x₀:= .regs i) (r:=r) (xd:= .procD i) (K':=K.setProc i ((K.proc i).wRegs r)) (gI (if_pos ⟨on,hi⟩)) ?_ rfl (λy hy=> ?_) (λc o q=> ?_) (λj hj=> .inl ?_) (λw e p hp=>I.told w e p hp) (I.wf.setProc (I.wf.par i hi) (I.wf.files i hi))
 ·show Option.map OK.o (if K.on=true∧i<6 then some (.attrs (dT A (lD i (upd K.proc i ((K.proc i).wRegs r) i)))) else none)=_
  rw [aj];exact cU ⟨on,hi⟩
 ·cases y with
  |procD j=>
   have e:upd K.proc i ((K.proc i).wRegs r) j=K.proc j:=av λe=>hy (e▸rfl)
   refine .inl ⟨?_,rfl⟩
   show Option.map OK.o (if K.on=true∧j<6 then some (.attrs (dT A (lD j (upd K.proc i ((K.proc i).wRegs r) j)))) else none)=_
   rw [e];rfl
  |regs j=>
   by_cases e:j=i
   ·subst e
    refine .inr ⟨trivial,rfl,gI (if_pos ⟨on,hi⟩),?_,?_⟩
    ·show (upd K.proc j ((K.proc j).wRegs r) j).regs=r
     rw [aj];rfl
    ·rw [hr];exact cU ⟨on,hi⟩
   ·refine .inl ⟨rfl,?_⟩
    show (upd K.proc i ((K.proc i).wRegs r) j).regs=(K.proc j).regs
    rw [av e]
  |_=>exact .inl ⟨rfl,rfl⟩
 ·unfold H.del at q
  split at q
  ·cases q
  ·exact ⟨q,λ_=>‹_›⟩
 ·exact cz (λp:aa=>p.chan=(K.proc j).chan) (λe=>e▸rfl) λ_=>rfl
theorem zw {i:Nat}{r:Addr}{p p':aa}{T:KS→H→Prop}(on:K.on=true)(hi:i<6)(hp':p'=p.wRegs r)(hr:X r=some (.list (List.replicate 32 (.int 0))))(k:T (K.setProc i p') (X.del r)):GT W (.ref (.proc i)) nJ (.adr r) A (K.setProc i p) X T:=by
 subst hp'
 refine iH (bB (K:=K.setProc i p) on hi (aR ..)) rfl rfl λh I=>⟨_,_,?_,k⟩
 have:=I.setRegs on hi (aR i p) hr
 rw [b7] at this
 exact this
theorem cT {i:Nat}{nm:Str}{v:VI}{p p':aa}{T:KS→H→Prop}(on:K.on=true)(hi:i<6)(hn:((lD i p).lookup nm).isSome=true)(hk:aU nm v (lD i p)=lD i p')(hc:p'.chan=p.chan∨p'.chan= .none)
  (hp:p'.parent=p.parent∨p'.parent=none) (hf:p'.files=p.files∨p'.files=none) (hr:p'.regs=p.regs) (k:T (K.setProc i p') X):GT W (.ref (.proc i)) nm v A (K.setProc i p) X T:=
 eR (K:=K.setProc i p) on hi (aR ..) hn hk (hc.imp id λe=>by rw [e];trivial) (hp.imp id λe q h=>by rw [e] at h;cases h) (hf.imp id λe q h=>by rw [e] at h;cases h) hr (by rw [b7];exact k)
noncomputable def aa.empty (r:Addr):aa:=⟨0,.unused,none,none,ec,.none,0,0,r⟩
theorem zI {i:Nat}(on:K.on=true)(hi:i<6)(k:∀r,R A (K.setProc i (.empty r)) X .none):GC W (n+1) cj [.ref (.proc i)] A K X R:=by
 refine aH iP rfl rfl ?_
 have e0:K=K.setProc i (K.proc i):=(iy i).symm
 generalize K.proc i=p at e0
 rw [e0]
 refine aC rfl (by ac_rfl) (by ac_rfl) (cT (p':=p.wPid 0) on hi rfl rfl (.inl rfl) (.inl rfl) (.inl rfl) rfl ?_)
 refine aC rfl (by ac_rfl) (by ac_rfl) (cT (p':=(p.wPid 0).wState .unused) on hi rfl rfl (.inl rfl) (.inl rfl) (.inl rfl) rfl ?_)
 refine aC rfl (by ac_rfl) (by ac_rfl) (cT (p':=((p.wPid 0).wState .unused).wParent none) on hi rfl rfl (.inl rfl) (.inr rfl) (.inl rfl) rfl ?_)
 refine aC rfl (by ac_rfl) (by ac_rfl) (cT (p':=((p.wPid 0).wState .unused).wParent none) on hi rfl rfl (.inl rfl) (.inl rfl) (.inl rfl) rfl ?_)
 refine fL (kh rfl (zA (gk (gg (us:=[.int 0]) (by and_intros) ⟨Nat.le_of_ble_eq_true rfl,λg hg=>⟨rfl,cR (by ac_rfl) ⟨rfl,yU (x:= .int 0) (H.put_same ..) (by decide) (by decide) λr hr=>⟨rfl,by ac_rfl,zw (p':=((((p.wPid 0).wState .unused).wParent none).wRegs r)) on hi rfl (H.put_same ..) ?_⟩⟩⟩⟩))))
 refine aC rfl (by ac_rfl) (by ac_rfl) (cT (p':=((((p.wPid 0).wState .unused).wParent none).wRegs r)) on hi rfl rfl (.inl rfl) (.inl rfl) (.inl rfl) rfl ?_)
 refine aC rfl (by ac_rfl) (by ac_rfl) (cT (p':=(((((p.wPid 0).wState .unused).wParent none).wRegs r).wFiles none)) on hi rfl rfl (.inl rfl) (.inl rfl) (.inr rfl) rfl ?_)
 refine aC rfl (by ac_rfl) (by ac_rfl) (cT (p':=(((((p.wPid 0).wState .unused).wParent none).wRegs r).wFiles none)) on hi rfl rfl (.inl rfl) (.inl rfl) (.inl rfl) rfl ?_)
 refine aC rfl (by ac_rfl) (by ac_rfl) (cT (p':=((((((p.wPid 0).wState .unused).wParent none).wRegs r).wFiles none).wName ec)) on hi rfl rfl (.inl rfl) (.inl rfl) (.inl rfl) rfl ?_)
 refine aC rfl (by ac_rfl) (by ac_rfl) (cT (p':=(((((((p.wPid 0).wState .unused).wParent none).wRegs r).wFiles none).wName ec).wChan .none)) on hi rfl rfl (.inr rfl) (.inl rfl) (.inl rfl) rfl ?_)
 refine aC rfl (by ac_rfl) (by ac_rfl) (cT (p':=(((((((p.wPid 0).wState .unused).wParent none).wRegs r).wFiles none).wName ec).wChan .none)) on hi rfl rfl (.inl rfl) (.inl rfl) (.inl rfl) rfl ?_)
 refine aC rfl (by ac_rfl) (by ac_rfl) (cT (p':=((((((((p.wPid 0).wState .unused).wParent none).wRegs r).wFiles none).wName ec).wChan .none).wStat 0)) on hi rfl rfl (.inl rfl) (.inl rfl) (.inl rfl) rfl ?_)
 refine aC rfl (by ac_rfl) (by ac_rfl) (cT (p':=((((((((p.wPid 0).wState .unused).wParent none).wRegs r).wFiles none).wName ec).wChan .none).wStat 0)) on hi rfl rfl (.inl rfl) (.inl rfl) (.inl rfl) rfl ?_)
 refine aC rfl (by ac_rfl) (by ac_rfl) (cT (p':=(((((((((p.wPid 0).wState .unused).wParent none).wRegs r).wFiles none).wName ec).wChan .none).wStat 0).wProg 0)) on hi rfl rfl (.inl rfl) (.inl rfl) (.inl rfl) rfl ?_)
 refine aC rfl (by ac_rfl) (by ac_rfl) (cT (p':=(((((((((p.wPid 0).wState .unused).wParent none).wRegs r).wFiles none).wName ec).wChan .none).wStat 0).wProg 0)) on hi rfl rfl (.inl rfl) (.inl rfl) (.inl rfl) rfl ?_)
 refine aC rfl (by ac_rfl) (by ac_rfl) (cT (p':=(((((((((p.wPid 0).wState .unused).wParent none).wRegs r).wFiles none).wName ec).wChan .none).wStat 0).wProg 0)) on hi rfl rfl (.inl rfl) (.inl rfl) (.inl rfl) rfl ?_)
 refine aC rfl (by ac_rfl) (by ac_rfl) (cT (p':=(((((((((p.wPid 0).wState .unused).wParent none).wRegs r).wFiles none).wName ec).wChan .none).wStat 0).wProg 0)) on hi rfl rfl (.inl rfl) (.inl rfl) (.inl rfl) rfl ?_)
 refine aC rfl (by ac_rfl) (by ac_rfl) (cT (p':=(((((((((p.wPid 0).wState .unused).wParent none).wRegs r).wFiles none).wName ec).wChan .none).wStat 0).wProg 0)) on hi rfl rfl (.inl rfl) (.inl rfl) (.inl rfl) rfl ?_)
 refine ar ⟨X,λc o e=> ?_,k r⟩
 have a2:c≠r:=λq=>by rw [q,kI hr] at e;cases e
 have a1:c≠g:=λq=>by rw [q,hg] at e;cases e
 unfold H.del
 rw [if_neg a2,H.put_ne a2,H.put_ne a1];exact e
end
section
theorem jM {id:Str}{u:VI}:∀{l:KV},l.lookup id=none→∀n x,l.lookup n=some x→(aU id u l).lookup n=some x
 |[],_,_,_,e=>nomatch e
 |(k,v)::r,h,n,x,e=>by
  rw [List.lookup_cons] at h
  cases q:id==k with
  |true=>rw [q] at h;cases h
  |false=>
   rw [q] at h
   show (if id=k then (k,u)::r else (k,v)::aU id u r).lookup n=some x
   rw [if_neg (beq_eq_false_iff_ne.mp q)]
   rw [List.lookup_cons] at e⊢
   cases z:n==k with
   |true=>rw [z] at e;exact e
   |false=>rw [z] at e;exact jM h n x e
theorem Il {α:Type}(f:Nat→Bool)(g:Nat→α):∀l:List Nat,l.filterMap (λi=>if f i=true then some (g i) else none)=(l.filter f).map g
 |[]=>rfl
 |a::l=>by
  rw [List.filterMap_cons,List.filter_cons,Il f g l]
  cases f a<;>rfl
theorem DQ {α:Type}(g:Nat→α):∀l:List Nat,l.filterMap (λi=>some (g i))=l.map g
 |[]=>rfl
 |a::l=>by rw [List.filterMap_cons,DQ g l];rfl
section
variable {c:Cn}{ρ:KV}{A:Id→Addr}{K:KS}{X:H}{elt e:Expr}{p:Pos}
theorem pM {s:gu}{N:Nat}{Y:H}{acc:Addr}{R:H→Prop}{id:Str}(f:Nat→Bool)(g x:Nat→VI)(hN:s.len=N)(sm:N≤90000)(ok:∀ys ⦃h⦄,Is c.W A K (Y.put acc (.list (dL A ys))) h→s.ok h)
  (it:∀i Z,i<N→∀RV:SV VI,RV A K Z (x i)→BW c.W A K Z s i RV) (kd:Fy c.fn (c.sc.names.lookup id)=true) (kn:ρ.lookup id=none)
  (ts:∀i ys,i<N→jo c e (aU id (x i) ρ) A K (Y.put acc (.list (dL A ys))) (f i)) (el:∀i ys,i<N→f i=true→GV c elt (aU id (x i) ρ) A K (Y.put acc (.list (dL A ys))) (g i))
  (fin:R (Y.put acc (.list (dL A (((List.range N).filter f).map g))))):∃I:Nat→List VI→H→Prop,I 0 [] (Y.put acc (.list []))∧FS c elt (.Name id p) [e] ρ A K s acc I R:=
 Im (λi=>if f i=true then some (g i) else none) hN sm ok (λi ys hi=>it i _ hi _ ⟨⟨rfl,rfl⟩,dQ kd ⟨⟨rfl,rfl⟩,λ_ _ e=>e,jM kn,Jb (oB (ts i ys hi) ⟨⟨rfl,rfl⟩,rfl,by cases f i<;>rfl⟩),λz hz=>by
  cases q:f i with
  |false=>rw [q] at hz;cases hz
  |true=>rw [q] at hz;cases hz;exact el i ys hi q⟩⟩) (by rw [Il];exact fin)
theorem IQ {s:gu}{N:Nat}{Y:H}{acc:Addr}{R:H→Prop}{id:Str}(g x:Nat→VI)(hN:s.len=N)(sm:N≤90000)(ok:∀ys ⦃h⦄,Is c.W A K (Y.put acc (.list (dL A ys))) h→s.ok h)
  (it:∀i Z,i<N→∀RV:SV VI,RV A K Z (x i)→BW c.W A K Z s i RV) (kd:Fy c.fn (c.sc.names.lookup id)=true) (kn:ρ.lookup id=none)
  (el:∀i ys,i<N→GV c elt (aU id (x i) ρ) A K (Y.put acc (.list (dL A ys))) (g i))
  (fin:R (Y.put acc (.list (dL A ((List.range N).map g))))):∃I:Nat→List VI→H→Prop,I 0 [] (Y.put acc (.list []))∧FS c elt (.Name id p) [] ρ A K s acc I R:=
 Im (λi=>some (g i)) hN sm ok (λi ys hi=>it i _ hi _ ⟨⟨rfl,rfl⟩,dQ kd ⟨⟨rfl,rfl⟩,λ_ _ e=>e,jM kn,Kg ⟨⟨rfl,rfl⟩,rfl,rfl⟩,λz hz=>by cases hz;exact el i ys hi⟩⟩) (by rw [DQ];exact fin)
end
noncomputable def KS.isKid (K:KS)(p i:Nat):Bool:=decide ((K.proc i).state≠ .unused)&&decide ((K.proc i).parent=some p)
noncomputable def KS.kids (K:KS)(p:Nat):List Nat:=(List.range 6).filter (K.isKid p)
noncomputable def KS.isAt (K:KS)(i:Nat):Bool:=decide ((K.proc i).state≠ .unused)
noncomputable def KS.there (K:KS):List Nat:=(List.range 6).filter K.isAt
noncomputable def procs (l:List Nat):List VI:=l.map λi=> .ref (.proc i)
variable {W:Wd}{A:Id→Addr}{K:KS}{X:H}{R:SV VI}{n:Nat}
theorem mF (on:K.on=true)⦃h:H⦄(I:Is W A K X h):(gu.list (A .places) (dL A (procs (List.range 6)))).ok h:=I.st on (n:=2) rfl
theorem gC {i m:Nat}{g:Nat→VI}(hi:i<m):((List.range m).map g)[i]?=some (g i):=by rw [List.getElem?_map,List.getElem?_range hi];rfl
theorem q7 {p:Nat}(on:K.on=true)(hp:p<6)(k:∀c,X c=none→R A K (X.put c (.list (dL A (procs (K.kids p))))) (.adr c)):GC W (n+2) cL [.ref .table,.ref (.proc p)] A K X R:=by
 refine aH mO rfl rfl (dh λw=>kN (fF (by kernel_rfl) (iO rfl (by ac_rfl) rfl (ia on) ⟨rfl,λacc hacc=>pM (K.isKid p) (λi=> .ref (.proc i)) (λi=> .ref (.proc i)) (N:=6) rfl (by decide) (λys h I=>mF on I) (λi Z hi RV r=>cG (gC hi) r) rfl rfl (λi ys hi=> ?_) (λi ys hi q=>aL rfl rfl rfl rfl) ⟨rfl,k acc hacc⟩⟩)))
 exact nK (Ap (λ_=>rfl) (iz (aL rfl rfl rfl rfl) rfl (aJ gE (bB on hi rfl) rfl) rfl rfl aK (i5 gL (pF on hi rfl)))) λ_=>b8 (by ac_rfl) (by ac_rfl) rfl (LR on (w.par i hi) hp)
theorem IL (on:K.on=true)(k:∀c,X c=none→R A K (X.put c (.list (dL A (procs K.there)))) (.adr c)):GC W (n+2) fY [.ref .table] A K X R:=by
 refine aH v7 rfl rfl (kN (fF (by kernel_rfl) (iO rfl (by ac_rfl) rfl (ia on) ⟨rfl,λacc hacc=>pM K.isAt (λi=> .ref (.proc i)) (λi=> .ref (.proc i)) (N:=6) rfl (by decide) (λys h I=>mF on I) (λi Z hi RV r=>cG (gC hi) r) rfl rfl (λi ys hi=> ?_) (λi ys hi q=>aL rfl rfl rfl rfl) ⟨rfl,k acc hacc⟩⟩)))
 exact Ap (λ_=>rfl) (iz (aL rfl rfl rfl rfl) rfl (aJ gE (bB on hi rfl) rfl) rfl rfl aK (i5 gL (pF on hi rfl)))
theorem KD {i:Nat}(on:K.on=true)(hi:i<6)(k:∀c r,X c=none→R A (K.setProc i (.empty r)) (X.put c (.tup [.int (K.proc i).pid,.int (K.proc i).status])) (.adr c)):GC W (n+2) eS [.ref .table,.ref (.proc i)] A K X R:=by
 refine aH uj rfl rfl (cE rfl rfl (l0 (gg (us:=[.int (K.proc i).pid,.int (K.proc i).status]) (by and_intros) ⟨Nat.le_of_ble_eq_true rfl,λc hc=>⟨rfl,?_⟩⟩)))
 exact da (ap (by subst_eqs) (by rfl)) (dw rfl (aG (by ac_rfl) rfl (aJ g9 (bB on hi rfl) rfl) rfl rfl aK (aM g6 (zI on hi λr=>⟨rfl,bX (by ac_rfl) (k c r hc)⟩))))
theorem K6 {W:Wd}{A:Id→Addr}{K:KS}{X:H}{d:Addr}{x:Str}{ys:List Str}(hd:X d=some (.tup (ys.map V.str)))(so:(x::ys).all PyData.strOk=true):mx W A K X .NotIn (.str x) (.adr d) (!ys.contains x):=λB k h u w Q r I e1 e2 q fr s Rr=>by
 rw [ah e2]
 obtain ⟨t,rfl⟩:=iJ e1
 have pd:∀ys:List Str,bN (PD h) (ys.map V.str) (ys.map PyData.str):=λys=>by
  induction ys with
  |nil=>trivial
  |cons y r ih=>exact ⟨.str y,ih⟩
 have lay:∀ys:List Str,ys.all PyData.strOk=true→PyData.canLayAll0 (ys.map PyData.str)=true:=λys=>by
  induction ys with
  |nil=>exact λ_=>rfl
  |cons y r ih=>exact λq=>by rw [List.all_cons] at q;have q:=an q;simp [PyData.canLayAll0,PyData.canLay0,ih q.2,q.1]
 have eqs:∀ys:List Str,((ys.map PyData.str).any λy=>PyData.eqv y (.str x))=ys.contains x:=λys=>by
  induction ys with
  |nil=>rfl
  |cons y r ih=>
   rw [List.map_cons,List.any_cons,ih,List.contains_cons]
   congr 1
   have:PyData.eqv (.str y) (.str x)=(y==x):=by simp [PyData.eqv]
   rw [this]
   by_cases e:y=x
   ·subst e;rfl
   ·rw [beq_eq_false_iff_ne.mpr e,beq_eq_false_iff_ne.mpr (Ne.symm e)]
 rw [List.all_cons] at so
 have so:=an so
 obtain ⟨as,ra⟩:=(PD.tupL (I.oth d _ hd).1 (pd ys)).reads Rr (.ref d) rfl
 refine SeqAt.notIn_tuple_reads ra (Reads.str x t) (lay ys so.2) (by simp [PyData.canLay0,so.1]) ?_ ⟨h,Rr,?_⟩
 ·have:=r.2.1;unfold cLine;show _+1+min _ 0<_;lia
 ·rw [eqs];exact q
theorem xZ {i:Nat}{p:aa}(on:K.on=true)(hi:i<6)(e:K.proc i=p):x9 W (n+1) ce [.ref (.proc i)] A K X (.bool (decide (p.state≠ .unused)&&decide (p.state≠ .zombie))):=by
 refine fg kM rfl rfl (kN (IS (cR (u:= .str p.state.s) ?_ ⟨rfl,l0 (gg (us:=[.str pP,.str qb]) (by and_intros) ⟨Nat.le_of_ble_eq_true rfl,λc hc=>⟨rfl,.mk _ (K6 (ys:=[pP,qb]) (H.put_same ..) ?_) ⟨rfl,⟨rfl,rfl⟩,ai hc,?_⟩⟩⟩)⟩) rfl))
 ·have o:OI W A K X (.ref (.proc i)) aB (A (.procD i)) (lD i p):=bB on hi e
  ac_rfl
 ·cases p.state<;>decide+kernel
 ·refine congrArg VI.bool ?_
  cases p.state<;>decide+kernel
noncomputable def KS.zomb (K:KS)(i:Nat):Bool:=decide ((K.proc i).state= .zombie)
theorem zT {f:Nat→Bool}:∀{l:List Nat}{j q:Nat},(∀i∈l.take j,f i=false)→l[j]?=some q→f q=true→l.find? f=some q
 |[],_,_,_,h,_=>nomatch h
 |a::l,0,q,_,h,t=>by cases h;rw [List.find?_cons,t]
 |a::l,j+1,q,n,h,t=>by
  rw [List.find?_cons,n a (.head _)]
  exact zT (λi hi=>n i (.tail _ hi)) h t
theorem G2 {f:Nat→Bool}{l:List Nat}(n:∀i∈l.take l.length,f i=false):l.find? f=none:=by
 rw [List.take_length] at n
 exact List.find?_eq_none.mpr λi hi q=>by rw [n i hi] at q;cases q
theorem Gj {p i:Nat}(h:i∈K.kids p):i<6:=List.mem_range.mp (List.mem_filter.mp h).1
end
section
section
variable {c:Cn}{ρ:KV}{A:Id→Addr}{K:KS}{X:H}{e t:Expr}{p:Pos}{l s:List Stmt}{R:oz}
theorem xi {sr:gu}{N:Nat}{rho:KV→KV}{y0:KV}(P:Nat→Prop)(er:rho y0=ρ)(hs:GR c e t ρ A K X λA₁ K₁ X₁ s=>A₁=A∧K₁=K∧X₁=X∧s=sr)(hN:sr.len=N)(ok:∀⦃h⦄,Is c.W A K X h→sr.ok h)(p0:P 0)
  (x:Nat→VI) (it:∀i,i<N→∀RV:SV VI,RV A K X (x i)→BW c.W A K X sr i RV)
  (st:∀i y,i<N→P i→GA c t (x i) (rho y) A K X λA₁ K₁ X₁ ρ=>GS c s ρ A₁ K₁ X₁ (lp c l R λA₂ K₂ X₂ ρ=>zJ A A₂ K K₂∧X₂=X∧P (i+1)∧∃y,rho y=ρ)) (fin:∀y,P N→GS c l (rho y) A K X R):
  GS c (.For t e s [] p::l) ρ A K X R:=by
 subst hN er
 refine lh ⟨hs.1,λB env h Q o I q=>hs.2 o I λA₁ K₁ X₁ s h' ft I' w=>q A₁ K₁ X₁ s h' ft I' ⟨by rw [w.1],?_⟩⟩
 rw [w.1,w.2.1,w.2.2.1,w.2.2.2]
 exact ⟨λi A₁ K₁ X₁ ρ=>P i∧∃y,E4 A K X (rho y) A₁ K₁ X₁ ρ,⟨p0,y0,.rfl⟩,
  λi A₁ K₁ X₁ ρ hi z=>z.2.elim λy e=>e.rec ⟨ok,it i hi _ ⟨rfl,λB env h v Q o I ev q=>st i y hi z.1 o I ev λA₂ K₂ X₂ ρ h I r=>q A₂ K₂ X₂ ρ h I λB env h Q o I q=>r o I λA₂ K₂ X₂ f ρ' fl h' ef I' r=>q A₂ K₂ X₂ f ρ' fl h' ef I' (sk r λA₂ K₂ X₂ ρ z=>⟨z.2.2.1,z.2.2.2.elim λy e=>⟨y,.of z.1.a z.1.k.symm z.2.1.symm e⟩⟩)⟩⟩,
  λA₁ K₁ X₁ ρ z=>z.2.elim λy e=>e.rec ⟨ok,fin y z.1⟩⟩
end
variable {W:Wd}{A:Id→Addr}{K:KS}{X:H}{R:SV VI}{n:Nat}
theorem DI {u w:VI}{us ws:List VI}(lu:g8 W A K X u us)(lw:g8 W A K X w ws)(ne:us.length≠ws.length):mx W A K X .Eq u w false:=λB k h u' w' Q r I e1 e2 q=>by
 refine bq λzq=> ?_
 obtain ⟨a,ea,ha⟩:=lu I
 obtain ⟨b,eb,hb⟩:=lw I
 apply zq;clear zq
 refine rH r (.lens ha hb ?_) (e1.trans ea) (e2.trans eb) q
 rw [show (dL A us).length=us.length from List.length_map ..,show (dL A ws).length=ws.length from List.length_map ..];exact ne
theorem aE {X:H}{c d:Addr}{o o':O}(hc:X c=some o)(hd:X d=none):(X.put d o') c=some o:=(H.put_ne λe=>by rw [e,hd] at hc;cases hc).trans hc
theorem ml.trans {X Y Z:H}(a:ml X Y)(b:ml Y Z):ml X Z:=λc o e=>b c o (a c o e)
theorem Ju {p:Nat}(on:K.on=true)(hp:p<6)
  (k1:∀q,(K.kids p).find? K.zomb=some q→∀c r,X c=none→R A (K.setProc q (.empty r)) (X.put c (.tup [.int (K.proc q).pid,.int (K.proc q).status])) (.adr c))
  (k2:(K.kids p).find? K.zomb=none→K.kids p≠[]∧∀c,R A (K.setProc p (((K.proc p).wState .sleeping).wChan (.child c (K.proc p).pid))) X .none):
  GC W (n+3) dR [.ref .table,.ref (.proc p)] A K X R:=by
 refine aH sM rfl rfl (fL (cE rfl rfl (aG (by ac_rfl) rfl (aJ ii (eZ on) rfl) rfl rfl (by and_intros) (aM ic (q7 on hp λc hc=>⟨rfl,?_⟩)))))
 have hl:(X.put c (.list (dL A (procs (K.kids p))))) c=some (.list (dL A (procs (K.kids p)))):=H.put_same ..
 have len:(procs (K.kids p)).length=(K.kids p).length:=List.length_map ..
 generalize hX:X.put c (.list (dL A (procs (K.kids p))))=Y at hl
 have sb:ml X Y:=hX▸ai hc
 refine xi (sr:= .list c (dL A (procs (K.kids p)))) (N:=(K.kids p).length) (rho:=λy=>("self",.ref .table)::("process",.ref (.proc p))::("children",.adr c)::y) (y0:=[]) (λj=>∀i∈(K.kids p).take j,K.zomb i=false) rfl
  (iO rfl (by ac_rfl) rfl (bR hl) ⟨rfl,rfl,rfl,rfl⟩) ((List.length_map ..).trans len) (λh I=>(I.oth c _ hl).1) (λ_ hi=>absurd hi List.not_mem_nil) (λj=> .ref (.proc ((K.kids p).getD j 0))) (λj hj RV r=>cG ?_ r) (λj y hj nz=> ?_) (λy nz=> ?_)
 ·unfold procs
  rw [List.getElem?_map,List.getElem?_eq_getElem hj,cF hj];rfl
 ·have hq:(K.kids p)[j]?=some ((K.kids p).getD j 0):=by rw [List.getElem?_eq_getElem hj,cF hj]
  generalize (K.kids p).getD j 0=q at hq
  have hq6:q<6:=Gj (List.mem_of_getElem? hq)
  refine dQ rfl (fO (ap (b8 (bU (cw (aP ..) rfl rfl rfl) rfl (bB on hq6 rfl) rfl) (by ac_rfl) rfl pq) (PS.beq (K.proc q).state .zombie)) (λz=> ?_) λz=>ar (ar ⟨⟨rfl,rfl⟩,rfl,?_,aU "child" (.ref (.proc q)) y,rfl⟩))
  ·refine kN (aG (by ac_rfl) rfl (aJ sK (eZ on) rfl) rfl rfl (aw (cw (aP ..) rfl rfl rfl) rfl aK) (aM sV (KD on hq6 λd r hd=>⟨rfl,X.put d _,?_,k1 q (zT nz hq z) d r ?_⟩)))
   ·exact m8 sb
   ·exact kI (g:=c) (o:= .list (dL A (procs (K.kids p)))) (by rw [hX];exact hd)
  ·intro i hi
   rw [List.take_add_one] at hi
   rcases List.mem_append.mp hi with hi|hi
   ·exact nz i hi
   ·rw [hq] at hi;cases List.mem_singleton.mp hi;exact z
 ·obtain ⟨ne,k2⟩:=k2 (G2 nz)
  refine nE (IC (J4 (cR (by ac_rfl) ⟨rfl,gk (yB ⟨Nat.zero_le _,λd hd=>⟨rfl,.mk _ (DI (bR (aE hl hd)) (bR (us:=[]) (H.put_same ..)) ?_) ⟨rfl,ft,λ_=>oB (t:=false) (by subst_eqs) ⟨rfl,ft,λ_=>ar ?_⟩⟩⟩⟩)⟩) rfl))
  ·rw [len];exact λe=>ne (List.length_eq_zero_iff.mp e)
  ·have sb:ml X (Y.put d (.list [])):=sb.trans (ai hd)
   refine dw rfl (uu (by ac_rfl) rfl (aJ kg (eZ on) rfl) rfl rfl km (bL (cR (by ac_rfl) ⟨rfl,bS (aG (by ac_rfl) rfl (aJ gK (eZ on) rfl) rfl rfl (by and_intros) (aM gH (m7 on hp λg hg=>⟨rfl,rfl,A7 (ch:= .child g (K.proc p).pid) on hp (H.put_same ..) ⟨rfl,bX (by ac_rfl) ⟨X,sb.trans (ai hg),k2 g⟩⟩⟩))) rfl⟩) rfl (af rfl λ_=>rfl)))
end
section
variable {W:Wd}{A:Id→Addr}{K:KS}{X:H}{R:SV VI}{n:Nat}
theorem rg {K:KS}{ch ch':Ch}(e:∀c:Ch,c.same ch=c.same ch'):K.wake ch=K.wake ch':=by
 have:∀p:aa,p.wake ch=p.wake ch':=λp=>by unfold aa.wake;rw [e]
 unfold KS.wake KS.wakeTo
 rw [funext λi=>congrArg (λz=>if i<6 then z else K.proc i) (this (K.proc i))]
theorem ye (K:KS)(a b:Addr)(p:Int):K.wake (.child a p)=K.wake (.child b p):=rg λc=>by cases c<;>rfl
theorem jG (K:KS)(a b:Addr)(p:Nat)(s:Int):K.wake (.pipe a p s)=K.wake (.pipe b p s):=rg λc=>by cases c<;>rfl
theorem BH {p:Nat}(on:K.on=true)(hp:p<6)(hk:K.kids p=[]):x9 W (n+3) cI [.ref .table,.ref (.proc p)] A K X .none:=by
 refine fg mA rfl rfl (lh (AJ rfl (aG (by ac_rfl) rfl (aJ ii (eZ on) rfl) rfl rfl (by and_intros) (aM ic (q7 on hp λc hc=> ?_)))))
 rw [hk]
 exact ⟨c,[],rfl,bR (H.put_same ..),rfl,λi A₂ K₂ X₂ ρ'=>zJ A A₂ K K₂∧X₂=X.put c (.list [])∧True,⟨⟨rfl,rfl⟩,rfl,trivial⟩,λi _ _ _ _ hi=>absurd hi (Nat.not_lt_zero _),λA₂ K₂ X₂ ρ' ⟨⟨e1,e2⟩,e3,_⟩=>by
  subst A₂ K₂ X₂
  exact ⟨λh I=>(I.oth c _ (H.put_same ..)).1,ar ⟨⟨rfl,rfl⟩,ai hc,rfl⟩⟩⟩
noncomputable def aa.dead (p:aa)(st:Int):aa:=((p.wState .zombie).wChan .none).wStat st
theorem KC {p q f:Nat}{st:Int}(on:K.on=true)(hp:p<6)(hf:K.first=some f)(nf:f≠p)(hk:K.kids p=[])(hq:(K.proc p).parent=some q)
  (k:R A ((K.setProc p ((K.proc p).dead st)).wake (.child 0 (K.proc q).pid)) X .none):GC W (n+4) eQ [.ref .table,.ref (.proc p),.int st] A K X R:=by
 refine aH sU rfl rfl (dh λw=> ?_)
 have hf6:=w.fst f hf
 have hq6:=w.par p hp q hq
 have o:OI W A K X (.ref .table) aV (A .tableD) (Fc K.nextPid (some f)):=hf▸eZ on
 refine da (ap (b8 (by ac_rfl) (by ac_rfl) rfl (IK on hp hf6)) (decide_eq_false nf.symm)) (dw rfl (cR (iz (by ac_rfl) rfl (aJ n6 (eZ on) rfl) rfl rfl (by and_intros) (i5 mR (BH on hp hk))) ⟨rfl,?_⟩))
 have e0:K=K.setProc p (K.proc p):=(iy p).symm
 have eq:∀st,((K.setProc p ((K.proc p).dead st)).proc q).pid=(K.proc q).pid:=λst=>cz (λP:aa=>P.pid=(K.proc q).pid) (λe=>by rw [e];rfl) λ_=>rfl
 generalize hP:K.proc p=P at*
 suffices h:GS (cn W (n+3) 36 12) (Hd.fB (Hd.mem 36 12)).tail.tail [("self",.ref .table),("process",.ref (.proc p)),("status",.int st)] A (K.setProc p P) X λA₁ K₁ X₁ f _=>R A₁ K₁ X₁ f.val by rw [←e0] at h;exact h
 refine aC rfl (by ac_rfl) (by ac_rfl) (cT (p':=P.wState .zombie) on hp rfl rfl (.inl rfl) (.inl rfl) (.inl rfl) rfl ?_)
 refine aC rfl (by ac_rfl) (by ac_rfl) (cT (p':=(P.wState .zombie).wChan .none) on hp rfl rfl (.inr rfl) (.inl rfl) (.inl rfl) rfl ?_)
 refine aC rfl (by ac_rfl) (by ac_rfl) (cT (p':=P.dead st) on hp rfl rfl (.inl rfl) (.inl rfl) (.inl rfl) rfl ?_)
 have eq:=eq st
 generalize hK:K.setProc p (P.dead st)=K2 at*
 have on:K2.on=true:=hK▸on
 have o2:∀X,OI W A K2 X (.ref (.proc p)) aB (A (.procD p)) (lD p (P.dead st)):=λX=>bB on hp (hK▸aR ..)
 have pv:∀X pos ps,GV (cn W (n+3) 36 12) (.Attribute (.Name "process" pos) "parent" ps) [("self",.ref .table),("process",.ref (.proc p)),("status",.int st)] A K2 X (.ref (.proc q)):=λX pos ps=>kc (bU (u:=eY .proc P.parent) (aL rfl rfl rfl rfl) rfl (o2 X) rfl) (by rw [hq];rfl)
 refine da (ap (b8 (by ac_rfl) (by ac_rfl) rfl (Aa rfl)) rfl) (nE (oB (b8 (pv _ _ _) (by ac_rfl) rfl (gc rfl)) ⟨rfl,λ_=>fL (dw rfl (uu (by ac_rfl) rfl (aJ dH (eZ on) rfl) rfl rfl dD (bS (aG (by ac_rfl) rfl (aJ gK (eZ on) rfl) rfl rfl (aw (pv _ _ _) rfl aK) (aM gH (m7 on hq6 λg hg=>⟨rfl,jd (ch:= .child g (K2.proc q).pid) on (H.put_same ..) nofun λm=>⟨rfl,ar ⟨X,ai hg,ar ?_⟩⟩⟩))) rfl))),nofun⟩))
 rw [eq,ye K2 g 0]
 exact k
end
section
theorem LN {c:Cn}{ρ:KV}{A:Id→Addr}{K:KS}{X:H}{a b d:Expr}{p:Pos}{op op2:CmpOp}{x y z:VI}{t t':Bool}(k1:GV c a ρ A K X x)(k2:GV c b ρ A K X y)(k3:GV c d ρ A K X z)(ns:jr b=false)(ns2:jr d=false)(m:mx c.W A K X op x y t)(m2:mx c.W A K X op2 y z t'):
  jo c (.Compare a [op,op2] [b,d] p) ρ A K X (t&&t'):=λB env h Q o I q=>by
 refine EW.eq (arm_isTrue_Compare ..) (EW.bind (k1 o I λv h' ev I'=> ?_))
 show EW c.W B env (dT A ρ) (testChain p v [op,op2] [eval b env,markedBehindIn op2 d (eval d env)]) h' _
 rw [eN ns2]
 refine EW.bind (EW.hold (k2 o I' λu h'' eu I''=>EW.ba (EW.bind (EW.hold (EW.lift (m o.room I'' ev eu ?_))))))
 refine EW.bl (fE (EW.bind (EW.hold (EW.lift (dW rfl ?_)))))
 cases t with
 |true=>exact EW.bind (EW.hold (k3 o I'' λu' h₄ ew I₄=>EW.ba (EW.bind (bc (EW.lift (m2 o.room I₄ eu ew (EW.hold (EW.lift (dW rfl (q h₄ I₄))))))))))
 |false=>exact EW.pure (q h'' I'')
noncomputable def FT (A:Id→Addr)(ρ:KV):KV:=ρ.map λp=>(p.1,match p.2 with| .ref x=> .adr (A x)|v=>v)
theorem Dc (A A₁:Id→Addr)(ρ:KV):dT A₁ (FT A ρ)=dT A ρ:=by
 unfold dT FT
 rw [List.map_map]
 refine List.map_congr_left λp _=> ?_
 show (p.1,den A₁ (match p.2 with| .ref x=> .adr (A x)|v=>v))=(p.1,den A p.2)
 cases p.2<;>rfl
theorem rz {c:Cn}{ρ:KV}{A:Id→Addr}{K:KS}{X:H}{e:Expr}{p:Pos}{l:List Stmt}{R:oz}(k:GE c e ρ A K X λA₁ K₁ X₁ u=>R A₁ K₁ X₁ (.ret u) (FT A ρ)):GS c (.Return (some e) p::l) ρ A K X R:=λB env h Q o I q=>by
 refine eD ?_
 show SW c.W B env (do standAt p;return Flow.ret (←eval e env)) (dT A ρ) h _
 exact SW.bind (SW.at_ (SW.eb (k o I λA₁ K₁ X₁ u v h' ev I' r=>SW.pure (Dc A A₁ ρ▸q A₁ K₁ X₁ (.ret u) (FT A ρ) (.ret v) h' ev I' r))))
variable {W:Wd}{A:Id→Addr}{K:KS}{X:H}{R:SV VI}{n:Nat}
theorem HH {d i:Nat}{o:Option Nat}(hs:(K.desc d)[i]?=some o):(K.slotsI d)[(i:Int).toNat]?=some (eY .file o):=by
 unfold KS.slotsI
 rw [Int.toNat_natCast,List.getElem?_map,hs];rfl
theorem Ac {d i f:Nat}(hd:d<K.nd)(hi:i<6)(hs:(K.desc d)[i]?=some (some f)):x9 W (n+1) ct [.ref (.desc d),.int i] A K X (.ref (.file f)):=by
 have ix:∀p q r s,GV (cn W n 26 3) (.Subscript (.Attribute (.Name "self" p) "slots" q) (.Name "number" r) s) [("self",.ref (.desc d)),("number",.int i)] A K X (.ref (.file f)):=λ_ _ _ _=>aO (by ac_rfl) (by ac_rfl) rfl (iU (m6 hd) (Int.natCast_nonneg _) (HH hs))
 exact fg lI rfl rfl (da (BZ (MQ (LN (by ac_rfl) (by ac_rfl) (by ac_rfl) rfl rfl IF iW) (by rw [decide_eq_true (Int.natCast_nonneg i),(decide_eq_true (Int.ofNat_lt.mpr hi):decide ((i:Int)<6)=true)];rfl)) (b8 (ix _ _ _ _) (by ac_rfl) rfl (gF rfl))) (bX (ix _ _ _ _) ⟨⟨rfl,rfl⟩,λ_ _ e=>e,rfl⟩))
theorem Ld {d i f:Nat}(hd:d<K.nd)(hi:i<6)(hs:(K.desc d)[i]?=some (some f))(k:R A (K.setDesc d ((K.desc d).set i none)) X (.ref (.file f))):GC W (n+2) cg [.ref (.desc d),.int i] A K X R:=
 aH kK rfl rfl (mU rfl rfl (iz (by ac_rfl) rfl (aJ dp (fD hd) rfl) rfl rfl (by and_intros) (i5 du (Ac hd hi hs))) (tO rfl (by ac_rfl) (by ac_rfl) (by ac_rfl) (qx (k:=i) (o:=none) hd hi rfl nofun (bX (by ac_rfl) k))))
theorem Jr {f:Nat}{p:fX}(hf:f<K.nf)(e:K.file f=p):x9 W (n+1) dg [.ref (.file f)] A K X (.int (if p.wr then 1 else 0)):=by
 have o:OI W A K X (.ref (.file f)) aY (A (.fileD f)) (vh p):=gB hf e
 refine fg om rfl rfl (bX (zy (t:=p.wr) (by subst_eqs) (λq=> ?_) λq=> ?_) ⟨⟨rfl,rfl⟩,λ_ _ e=>e,rfl⟩)
 ·rw [q];ac_rfl
 ·rw [q];ac_rfl
theorem FZ {f m:Nat}(hf:f<K.nf)(hr:(K.file f).rd=true)(w:K.Wf)(k:GC W (n+2) eL [.ref (.pipe (K.file f).pipe),.int m] A K X R):GC W (n+3) cK [.ref .ft,.ref (.file f),.int m] A K X R:=
 aH mQ rfl rfl (da (ap (by subst_eqs) (by rw [hr];rfl)) (iQ (ap (by subst_eqs) (by rfl)) (rz (aG (by ac_rfl) rfl (aJ v5 (cC (w.fpipe f hf) rfl) rfl) rfl rfl (by and_intros) (aM wa k)))))
theorem EX {f:Nat}{x:List UInt8}(hf:f<K.nf)(hr:(K.file f).wr=true)(w:K.Wf)(k:GC W (n+3) dM [.ref (.pipe (K.file f).pipe),.bytes x] A K X R):GC W (n+4) cr [.ref .ft,.ref (.file f),.bytes x] A K X R:=
 aH lH rfl rfl (da (ap (by subst_eqs) (by rw [hr];rfl)) (iQ (ap (by subst_eqs) (by rfl)) (rz (aG (by ac_rfl) rfl (aJ sg (cC (w.fpipe f hf) rfl) rfl) rfl rfl (by and_intros) (aM tG k)))))
theorem zS {f:Nat}{b:Bool}(hf:f<K.nf)(w:K.Wf)(k:∀c,X c=none→R A K (X.put c (.tup [.str fy,.int (K.file f).pipe,.int (if b then 1 else 0)])) (.adr c)):GC W (n+2) bI [.ref .ft,.ref (.file f),.bool b] A K X R:=by
 refine aH j1 rfl rfl (iQ (ap (by subst_eqs) (by rfl)) (rz (aG (us:=[.int (if b then 1 else 0)]) (by ac_rfl) rfl (aJ dA (cC (w.fpipe f hf) rfl) rfl) rfl rfl (aw (zy (t:=b) (by subst_eqs) (λq=> ?_) λq=> ?_) rfl aK) (aM dx (ig (w.fpipe f hf) k)))))
 ·rw [q];ac_rfl
 ·rw [q];ac_rfl
theorem pX {p:Nat}{ch:Ch}(on:K.on=true)(hp:p<6)(hc:ch.ok X)(k:R A (K.setProc p (((K.proc p).wState .sleeping).wChan ch)) X .none):GC W (n+2) be [.ref .calls,.ref (.proc p),ch.i] A K X R:=
 aH ij rfl rfl (da (by subst_eqs) (dw rfl (aG (by ac_rfl) rfl (aJ kg (eZ on) rfl) rfl rfl (by and_intros) (aM km (A7 on hp hc ⟨rfl,bX (by ac_rfl) k⟩)))))
theorem Ku {c:Cn}{ρ:KV}{a:Expr}{b:List UInt8}{p q r:Pos}(hk:c.sc.names.lookup ("isinstance":Str)=some .globalImplicit)(hs:c.sc.names.lookup ("str":Str)=some .globalImplicit)(ns:cy a=false)(k1:GV c a ρ A K X (.bytes b)):GV c (.Call (.Name "isinstance" q) [a,.Name "str" r] [] p) ρ A K X (.bool false):=λB env h Q o I kq=>by
 have pl:∀env,(starEach [a,.Name "str" r] env).any (·.1)=false:=af ns (af rfl λ_=>rfl)
 refine EW.bind (Bh o I hk rP rfl (cV (aF pl) (λ_ _=>⟨_,.inr (.inl rfl),aI⟩) (c4 (aF pl) ?_)))
 rw [cD ns]
 exact bT (k1 o I λv h' ev I'=>bT (yp o hs (by rw [I'.hW];exact Ms _) rfl λz ez=>cJ ⟨rfl,by
  rw [IB ez]
  exact (xX (Q:=λz h''=>z= .bool false∧h''=h') ev ⟨rfl,rfl⟩).mono λz h'' ⟨e1,e2⟩=>e2▸kq z h' e1 I'⟩))
theorem CL {x:List UInt8}:x9 W (n+1) fW [.bytes x] A K X (.bytes x):=by
 refine fg wH rfl rfl (da (Ap (λ_=>rfl) (Ku rfl rfl rfl (by ac_rfl))) (bX (ge rfl sR rfl (by and_intros) Js) ⟨⟨rfl,rfl⟩,λ_ _ e=>e,rfl⟩))
end
section
noncomputable def KS.wTab (K:KS)(l:List Nat):KS:={K with tab:=l}
noncomputable def KS.shut (K:KS)(i:Nat)(s:Int):KS:=(K.setPipe i ((K.pipe i).shut s)).wTab (if (!((K.pipe i).shut s).ro&& !((K.pipe i).shut s).wo)=true then K.tab.filter (λj=>decide (j≠i)) else K.tab)
noncomputable def KS.decH (K:KS)(f:Nat):KS:=K.setFile f ((K.file f).wHold ((K.file f).holders - 1))
noncomputable def KS.unopen (K:KS)(f:Nat)(c:Addr):KS:={K with openA:=c,opn:=K.opn.filter (λg=>decide (g≠f))}
noncomputable def KS.fc (K:KS)(f:Nat)(c:Addr):KS:=if 1<(K.file f).holders then K.decH f else ((K.decH f).unopen f c).shut (K.file f).pipe (if (K.file f).wr then 1 else 0)
noncomputable def KS.wakeP (K:KS)(p:Nat):KS:=(K.wake (.pipe 0 p 0)).wake (.pipe 0 p 1)
theorem mB (f:Nat→V)(i:Nat):∀l:List Nat,((l.map λ(j:Nat)=>((j:Int),f j)).lookup (i:Int)).isSome=decide (i∈l)
 |[]=>rfl
 |j::r=>by
  rw [List.map_cons,List.lookup_cons]
  by_cases e:i=j
  ·rw [e,beq_self_eq_true,decide_eq_true (List.mem_cons_self ..)];rfl
  ·rw [(beq_eq_false_iff_ne.mpr λq=>e (Int.ofNat.inj q):((i:Int)==(j:Int))=false)]
   show ((r.map λ(j:Nat)=>((j:Int),f j)).lookup (i:Int)).isSome=_
   rw [mB f i r]
   exact decide_eq_decide.mpr ⟨λh=> .tail _ h,λh=>(List.mem_cons.mp h).resolve_left e⟩
theorem Bv (f:Nat→V)(i:Nat)(l:List Nat):((l.map λ(j:Nat)=>((j:Int),f j)).filter λp=>decide (p.1≠(i:Int)))=(l.filter λj=>decide (j≠i)).map λ(j:Nat)=>((j:Int),f j):=by
 rw [List.filter_map]
 congr 1
 exact List.filter_congr λj _=>decide_eq_decide.mpr ⟨λh e=>h (congrArg _ e),λh e=>h (Int.ofNat.inj e)⟩
variable {W:Wd}{A:Id→Addr}{K:KS}{X h:H}{R:SV VI}{n:Nat}
theorem Is.setTabL {l:List Nat}(I:Is W A K X h)(on:K.on=true)(h1:∀i∈l,i<K.np)(h2:l.Nodup):Is W A (K.wTab l) X (h.put (A .ptP) (.idict (l.map λ(i:Nat)=>((i:Int),V.ref (A (.pipe i)))))):=by
 refine I.setSt (m:=5) (K':=K.wTab l) (o:= .idict (K.tab.map λ(i:Nat)=>((i:Int),V.ref (A (.pipe i))))) (o':= .idict (l.map λ(i:Nat)=>((i:Int),V.ref (A (.pipe i))))) (by unfold KS.sob;rw [if_pos on];rfl) (by unfold KS.sob;rw [if_pos on,show (K.wTab l).on=true from on];rfl) (λy hy=> ?_) (λ_=>rfl) (λ_ _=>rfl) (λw e p hp=>I.told w e p hp) {I.wf with tab:=h1,tabN:=h2}
 cases y with
 |st n=>exact absurd rfl (hy n)
 |_=>rfl
theorem L9 {i:Nat}(on:K.on=true):mx W A K X .In (.int i) (.ref .ptP) (decide (i∈K.tab)):=λB k h u w Q r I e1 e2 q=>by
 rw [ah e2]
 exact Jx (I.st on (n:=5) rfl) e1 (by rw [mB];exact q)
theorem Kp {i:Nat}{T:KS→H→Prop}(on:K.on=true)(hi:i∈K.tab)(k:T (K.wTab (K.tab.filter λj=>decide (j≠i))) X):GD W (.ref .ptP) (.int i) A K X T:=λB h o z Q I eo ez q=>by
 rw [ah eo]
 refine Gf (I.st on (n:=5) rfl) (by rw [mB];exact decide_eq_true hi) ez ?_
 rw [Bv]
 exact q _ _ _ (I.setTabL on (λj hj=>I.wf.tab j (List.mem_filter.mp hj).1) (I.wf.tabN.filter _)) k
theorem Bu {i:Nat}{s:Int}(on:K.on=true)(hi:i<K.np)(hs:s=0∨s=1)(k:R A (K.shut i s) X .none):GC W (n+2) cu [.ref .pt,.ref (.pipe i),.int s] A K X R:=by
 refine aH md rfl rfl ?_
 unfold KS.shut at k
 refine nE (N1 (NS (λ_=>rfl) (aG (by ac_rfl) rfl (aJ tY (cC hi rfl) rfl) rfl rfl (by and_intros) (aM ue (Dy hi hs ⟨_,rfl,rfl,λq=> ?_,λq=> ?_⟩)))))
 ·rw [q] at k
  generalize (K.pipe i).shut s=p at*
  have o:OI W A (K.setPipe i p) X (.ref (.pipe i)) bQ (A (.pipeD i)) (oJ i p):=cC hi (c5 ..)
  have on:(K.setPipe i p).on=true:=on
  refine oB (b8 (by ac_rfl) (by ac_rfl) rfl (L9 on)) ⟨rfl,λm=>NP (by ac_rfl) (by ac_rfl) (Kp on (of_decide_eq_true m) (ar (ar k))),λm=>ar (ar ?_)⟩
  have:K.tab.filter (λj=>decide (j≠i))=K.tab:=List.filter_eq_self.mpr λj hj=>decide_eq_true λe=>of_decide_eq_false m (e▸hj)
  rw [if_pos rfl,this] at k
  exact k
 ·rw [q] at k
  exact ⟨rfl,nofun,λ_=>ar (ar k)⟩
end
section
variable {W:Wd}{A:Id→Addr}{K:KS}{X h:H}{R:SV VI}{n:Nat}
theorem Is.unopen {f:Nat}{c:Addr}(I:Is W A K X h)(on:K.on=true)(hc:X c=some (.list (dL A ((K.opn.filter (λg=>decide (g≠f))).map λi=> .ref (.file i))))):Is W A (K.unopen f c) (X.del c) (h.put (A .ftD) (.attrs (dT A (Ln c)))):=by
 have on':(K.unopen f c).on=true:=on
 have es:(K.unopen f c).sob A=((K.sob A).set 7 (some (.attrs (dT A (Ln c))))).set 8 (some (.list (dL A ((K.opn.filter (λg=>decide (g≠f))).map λi=> .ref (.file i))))):=by unfold KS.sob;rw [if_pos on,if_pos on'];rfl
 have ea:∀y,y≠ .st 8→(K.unopen f c).at A y=K.at A y:=λy hy=>by
  cases y with
  |st m=>
   have:m≠8:=λe=>hy (e▸rfl)
   show (if m=8 then c else _)=(if m=8 then K.openA else _)
   rw [if_neg this,if_neg this];rfl
  |_=>rfl
 have lt:8<(K.sob A).length:=by unfold KS.sob;rw [if_pos on];exact Nat.le_add_left 9 12
 have e7:K.ob A (.st 7)=some (.attrs (dT A (Ln K.openA))):=by show (K.sob A)[7]?.join=_;unfold KS.sob;rw [if_pos on];rfl
 have e8:K.ob A (.st 8)=some (.list (dL A (K.opn.map λi=> .ref (.file i)))):=by show (K.sob A)[8]?.join=_;unfold KS.sob;rw [if_pos on];rfl
 refine I.change (mv:=True) (x₀:= .st 8) (r:=c) (xd:= .st 7) (gI e7) ?_ (ea _ (by decide)) (λy hy=> ?_) (λa o q=> ?_) (λi hi=> .inl rfl) (λw e p hp=>I.told w e p hp) {I.wf with opn:=λi hi=>I.wf.opn i (List.mem_filter.mp hi).1}
 ·show Option.map OK.o (((K.unopen f c).sob A)[7]?.join)=_
  rw [es,List.getElem?_set_ne (by decide),List.getElem?_set_self (Nat.lt_trans (by decide) lt)];rfl
 ·by_cases e:y= .st 8
  ·subst e
   refine .inr ⟨trivial,rfl,gI e8,rfl,?_⟩
   show Option.map OK.o (((K.unopen f c).sob A)[8]?.join)=_
   rw [es,List.getElem?_set_self (by rw [List.length_set];exact lt),hc];rfl
  ·refine .inl ⟨?_,ea y e⟩
   cases y with
   |st m=>
    show Option.map OK.o (((K.unopen f c).sob A)[m]?.join)=Option.map OK.o ((K.sob A)[m]?.join)
    rw [es,List.getElem?_set_ne λq:8=m=>e (q▸rfl),List.getElem?_set_ne λq:7=m=>hy (q▸rfl)]
   |_=>rfl
 ·unfold H.del at q
  split at q
  ·cases q
  ·exact ⟨q,λ_=>‹_›⟩
theorem HN {f:Nat}{c:Addr}{T:KS→H→Prop}(on:K.on=true)(hc:X c=some (.list (dL A ((K.opn.filter (λg=>decide (g≠f))).map λi=> .ref (.file i)))))(k:T (K.unopen f c) (X.del c)):GT W (.ref .ft) tM (.adr c) A K X T:=
 iH (ma on) rfl rfl λh I=>⟨_,_,I.unopen on hc,k⟩
theorem pG {α:Type}(l:List Nat)(p:Nat→Bool)(g:Nat→α):(((List.range l.length).filter λj=>p (l.getD j 0)).map λj=>g (l.getD j 0))=(l.filter p).map g:=by
 have e:(List.range l.length).map (λj=>l.getD j 0)=l:=List.ext_getElem (by rw [List.length_map,List.length_range]) λi h1 h2=>by rw [List.getElem_map,List.getElem_range,cF h2]
 conv=>rhs;rw [←e,List.filter_map,List.map_map]
 rfl
theorem Me:∀b:Bool,(if b=true then (1:Int) else 0)=0∨(if b=true then (1:Int) else 0)=1
 |true=> .inr rfl
 |false=> .inl rfl
theorem zP {X:H}{c:Addr}{o:O}(hc:X c=none):ml X ((X.put c o).del c):=λa x e=>by
 have n:a≠c:=λq=>by rw [q,hc] at e;cases e
 unfold H.del
 rw [if_neg n,H.put_ne n];exact e
theorem CE {f:Nat}(on:K.on=true)(hf:f<K.nf)(hh:1≤(K.file f).holders)(hl:K.opn.length≤1000)(k:∀c,R A (K.fc f c) X .none):GC W (n+3) cv [.ref .ft,.ref (.file f)] A K X R:=by
 refine aH lG rfl rfl (dh λw=> ?_)
 have hp:=w.fpipe f hf
 refine da (ap (by subst_eqs) (decide_eq_false (Int.not_lt.mpr hh))) (rk (by ac_rfl) (gB hf rfl) rfl (by ac_rfl) KT (zu (p':=(K.file f).wHold ((K.file f).holders - 1)) hf rfl rfl rfl (λw=>w.fpipe f hf) ?_))
 have e1:(K.decH f).file f=(K.file f).wHold ((K.file f).holders - 1):=aj ..
 have o:∀X,OI W A (K.decH f) X (.ref (.file f)) aY (A (.fileD f)) (vh ((K.file f).wHold ((K.file f).holders - 1))):=λX=>gB hf e1
 have on:(K.decH f).on=true:=on
 unfold KS.fc at k
 show GS _ _ _ A (K.decH f) X _
 refine fO (t:=decide (0<(K.file f).holders - 1)) (b8 (bU (by ac_rfl) rfl (o X) rfl) (by ac_rfl) rfl wO) (λq=> ?_) λq=>ar ?_
 ·have g:1<(K.file f).holders:=Int.lt_of_sub_pos (of_decide_eq_true q)
  simp only [if_pos g] at k
  exact Iy (k 0)
 ·have g:¬1<(K.file f).holders:=λg=>of_decide_eq_false q (Int.sub_pos_of_lt g)
  simp only [if_neg g] at k
  generalize hK:K.decH f=K1 at*
  have ho:∀j∈K1.opn,j<K1.nf:=hK▸w.opn
  have hl:K1.opn.length≤1000:=hK▸hl
  have hf:f<K1.nf:=hK▸hf
  have hp:(K.file f).pipe<K1.np:=hK▸hp
  refine fL (ke rfl (λ_ _=>rfl) (λ_=>rfl) (fF (by kernel_rfl) (iO (a:=K1.openA) rfl (by ac_rfl) rfl (oN on) ⟨rfl,λacc hacc=>pM (λj=>decide (K1.opn.getD j 0≠f)) (λj=> .ref (.file (K1.opn.getD j 0))) (λj=> .ref (.file (K1.opn.getD j 0))) (N:=K1.opn.length) ((List.length_map ..).trans (List.length_map ..)) (Nat.le_trans hl (by decide)) (λys h I=>I.st on (n:=8) rfl) (λi Z hi RV r=>cG ?_ r) rfl rfl (λi ys hi=> ?_) (λi ys hi q=>aL rfl rfl rfl rfl) ⟨rfl,zr (by ac_rfl) (HN (f:=f) on ?_ ?_)⟩⟩)))
  ·rw [List.getElem?_map,List.getElem?_eq_getElem hi,cF hi];rfl
  ·have hg:K1.opn.getD i 0<K1.nf:=by rw [cF hi];exact ho _ (List.getElem_mem hi)
   exact ap (b8 (aL rfl rfl rfl rfl) (aL rfl rfl rfl rfl) rfl (Lf (gB hg rfl) (gI (if_pos hg)) (gI (if_pos hf)) rfl rfl)) ((decide_not ..).symm.trans (decide_eq_decide.mpr ⟨λh e=>h (congrArg _ e),λh e=>h (by cases e;rfl)⟩))
  ·rw [H.put_same,pG K1.opn (λj=>decide (j≠f)) λj=>VI.ref (.file j)]
  ·have sb:=zP (X:=X) (c:=acc) (o:= .list (dL A (((List.range K1.opn.length).filter λj=>decide (K1.opn.getD j 0≠f)).map λj=> .ref (.file (K1.opn.getD j 0))))) hacc
   generalize (X.put acc _).del acc=Y at*
   have k:=k acc
   generalize hK2:K1.unopen f acc=K2 at*
   have on:K2.on=true:=hK2▸on
   have hp:(K.file f).pipe<K2.np:=hK2▸hp
   have hf:f<K2.nf:=hK2▸hf
   have o:OI W A K2 Y (.ref (.file f)) aY (A (.fileD f)) (vh ((K.file f).wHold ((K.file f).holders - 1))):=gB hf (by rw [←hK2];exact e1)
   exact iQ (ap (by subst_eqs) (by rfl)) (dw rfl (aG (by ac_rfl) rfl (aJ lX (BC on) rfl) rfl rfl (aw (by ac_rfl) rfl (aw (iz (by ac_rfl) rfl (aJ og o rfl) rfl rfl aK (i5 oE (Jr (p:=(K.file f).wHold ((K.file f).holders - 1)) hf (by rw [←hK2];exact e1)))) rfl aK)) (aM mn (Bu on hp (Me _) ⟨rfl,ar (ar ⟨X,sb,k⟩)⟩))))
end
section
variable {W:Wd}{A:Id→Addr}{K:KS}{X h:H}{R:SV VI}{n:Nat}
theorem CM (K:KS)(f:Nat)(c:Addr):(K.fc f c).on=K.on∧(K.fc f c).np=K.np:=by unfold KS.fc;split<;>exact ⟨rfl,rfl⟩
theorem x8 {f:Nat}(on:K.on=true)(hf:f<K.nf)(hh:1≤(K.file f).holders)(hl:K.opn.length≤1000)(k:∀c,R A ((K.fc f c).wakeP (K.file f).pipe) X .none):GC W (n+4) b6 [.ref .calls,.ref (.file f)] A K X R:=by
 refine aH i4 rfl rfl (dh λw=>mU rfl rfl (by ac_rfl) (dw rfl (aG (by ac_rfl) rfl (aJ mt (ma on) rfl) rfl rfl (by and_intros) (aM lJ (CE on hf hh hl λc=>⟨rfl,?_⟩)))))
 have hp:=w.fpipe f hf
 have k:=k c
 unfold KS.wakeP at k
 have ⟨e1,e2⟩:=CM K f c
 have on:(K.fc f c).on=true:=e1.trans on
 have hp:(K.file f).pipe<(K.fc f c).np:=e2▸hp
 generalize K.fc f c=K1 at*
 refine iQ (ap (by subst_eqs) (by rfl)) (dw rfl (uu (by ac_rfl) rfl (aJ dH (eZ on) rfl) rfl rfl dD (bS (aG (us:=[.int 0]) (by ac_rfl) rfl (aJ dA (cC hp rfl) rfl) rfl rfl (by and_intros) (aM dx (ig hp λg hg=>⟨rfl,jd (ch:= .pipe g (K.file f).pipe 0) on (H.put_same ..) nofun λm=>⟨rfl,mj (ai hg) ?_⟩⟩))) rfl)))
 rw [jG K1 g 0]
 have hp:(K.file f).pipe<(K1.wake (.pipe 0 (K.file f).pipe 0)).np:=hp
 have on:(K1.wake (.pipe 0 (K.file f).pipe 0)).on=true:=on
 refine fL (dw rfl (uu (by ac_rfl) rfl (aJ dH (eZ on) rfl) rfl rfl dD (bS (aG (us:=[.int 1]) (by ac_rfl) rfl (aJ dA (cC hp rfl) rfl) rfl rfl (by and_intros) (aM dx (ig hp λg hg=>⟨rfl,jd (ch:= .pipe g (K.file f).pipe 1) on (H.put_same ..) nofun λm=>⟨rfl,ar ⟨X,ai hg,ar ?_⟩⟩⟩))) rfl)))
 rw [jG _ g 0]
 exact k
noncomputable def KS.closeAt (K:KS)(d i f:Nat)(c:Addr):KS:=((K.setDesc d ((K.desc d).set i none)).fc f c).wakeP (K.file f).pipe
theorem GJ {d:Nat}{o:Option Nat}(h:o=some d):eY .desc o= .ref (.desc d):=by rw [h];rfl
theorem tU {p d i f:Nat}(on:K.on=true)(hp:p<6)(hd:(K.proc p).files=some d)(hi:i<6)(hs:(K.desc d)[i]?=some (some f))(hh:1≤(K.file f).holders)(hl:K.opn.length≤1000)(k:∀c,R A (K.closeAt d i f c) X (.int 0)):
  GC W (n+5) aW [.ref .calls,.ref (.proc p),.int i] A K X R:=by
 refine aH jg rfl rfl (dh λw=> ?_)
 have hdn:=w.files p hp d hd
 have hf:=w.slot d hdn f (List.mem_of_getElem? hs)
 have on':(K.setDesc d ((K.desc d).set i none)).on=true:=on
 exact cE rfl rfl (aG (kc (bU (u:=eY .desc (K.proc p).files) (by ac_rfl) rfl (bB on hp rfl) rfl) (GJ hd)) rfl (aJ kH (fD hdn) rfl) rfl rfl (by and_intros) (aM kY (Ld hdn hi hs ⟨rfl,
  dw rfl (aG (by ac_rfl) rfl (aJ i7 (j4 on') rfl) rfl rfl (by and_intros) (aM hV (x8 (K:=K.setDesc d ((K.desc d).set i none)) on' hf hh hl λc=>⟨rfl,bX (by ac_rfl) (k c)⟩)))⟩)))
theorem FY {p:Nat}(on:K.on=true)(k:GC W (n+3) dR [.ref .table,.ref (.proc p)] A K X R):GC W (n+4) aZ [.ref .calls,.ref (.proc p)] A K X R:=
 aH jR rfl rfl (rz (aG (by ac_rfl) rfl (aJ sH (eZ on) rfl) rfl rfl (by and_intros) (aM rW k)))
theorem HZ {p d i f m:Nat}(on:K.on=true)(hp:p<6)(hd:(K.proc p).files=some d)(hi:i<6)(hs:(K.desc d)[i]?=some (some f))(hr:(K.file f).rd=true)(hle:(K.pipe (K.file f).pipe).rc≤(K.pipe (K.file f).pipe).wc)
  (hfl:(K.pipe (K.file f).pipe).fill≤(K.pipe (K.file f).pipe).size) (hm0:0<m)
  (k0:(K.pipe (K.file f).pipe).fill=0→(K.pipe (K.file f).pipe).wo=true→∀c,R A (K.setProc p (((K.proc p).wState .sleeping).wChan (.pipe c (K.file f).pipe 0))) X .none)
  (k1:((K.pipe (K.file f).pipe).fill=0→(K.pipe (K.file f).pipe).wo=false)→∀t,t=min m (K.pipe (K.file f).pipe).fill→R A ((K.setPipe (K.file f).pipe ((K.pipe (K.file f).pipe).drop t)).wake (.pipe 0 (K.file f).pipe 1)) X (.bytes ((K.pipe (K.file f).pipe).got t))):
  GC W (n+4) bv [.ref .calls,.ref (.proc p),.int i,.int m] A K X R:=by
 refine aH jQ rfl rfl (dh λw=>fL ?_)
 have hdn:=w.files p hp d hd
 have hf:=w.slot d hdn f (List.mem_of_getElem? hs)
 have hpp:=w.fpipe f hf
 refine da (ap (by subst_eqs) (decide_eq_false (Int.not_lt.mpr (Int.natCast_nonneg m)))) (mU rfl rfl (iz (kc (bU (u:=eY .desc (K.proc p).files) (by ac_rfl) rfl (bB on hp rfl) rfl) (GJ hd)) rfl (aJ dp (fD hdn) rfl) rfl rfl (by and_intros) (i5 du (Ac hdn hi hs))) ?_)
 refine C8 rfl (λ_=>rfl) (aG (by ac_rfl) rfl (aJ mI (ma on) rfl) rfl rfl (by and_intros) (aM mV (FZ hf hr w (Gg hpp hle hfl (λ_ e1 e2 c hc=>⟨rfl,[.bytes [],.int 1],g5 (us:=[.bytes [],.int 1]) (H.put_same ..),?_⟩) λe c t et hc=>⟨rfl,[.bytes ((K.pipe (K.file f).pipe).got t),.int 0],g5 (us:=[.bytes ((K.pipe (K.file f).pipe).got t),.int 0]) (H.put_same ..),?_⟩))))
 ·refine dS rfl rfl (λ_=>⟨rfl,rfl⟩) (dQ rfl ⟨rfl,dS rfl rfl (λ_=>⟨rfl,rfl⟩) (dQ rfl ⟨rfl,jf ?_⟩)⟩)
  refine iQ (ap (by subst_eqs) (by rfl)) (rz (uu (by ac_rfl) rfl (aJ eM (j4 on) rfl) rfl rfl eE (bL (cR (by ac_rfl) ⟨rfl,bS (aG (us:=[.ref (.file f),.bool false]) (by ac_rfl) rfl (aJ f9 (ma on) rfl) rfl rfl (by and_intros) (aM f6 (zS hf w λg hg=>⟨rfl,rfl,pX (ch:= .pipe g (K.file f).pipe 0) on hp (H.put_same ..) ⟨X,(ai hc).trans (ai hg),k0 e1 e2 g⟩⟩))) rfl⟩) rfl (af rfl λ_=>rfl))))
 ·refine dS rfl rfl (λ_=>⟨rfl,rfl⟩) (dQ rfl ⟨rfl,dS rfl rfl (λ_=>⟨rfl,rfl⟩) (dQ rfl ⟨rfl,jf ?_⟩)⟩)
  have k1:=k1 (λz=>by cases q:(K.pipe (K.file f).pipe).wo with
   |false=>rfl
   |true=>exact absurd ⟨hm0,z,q⟩ e) t et
  generalize hK1:K.setPipe (K.file f).pipe ((K.pipe (K.file f).pipe).drop t)=K1 at*
  have on1:K1.on=true:=hK1▸on
  have hf1:f<K1.nf:=hK1▸hf
  have hp1:(K.file f).pipe<K1.np:=hK1▸hpp
  have o:∀X,OI W A K1 X (.ref (.file f)) aY (A (.fileD f)) (vh (K.file f)):=λX=>gB hf1 (hK1▸rfl)
  refine da (ap (by subst_eqs) (by rfl)) (iQ (ap (b8 (bU (by ac_rfl) rfl (o _) rfl) (by ac_rfl) rfl (gc rfl)) (by rfl)) (dw rfl (uu (by ac_rfl) rfl (aJ dH (eZ on1) rfl) rfl rfl dD (bS (aG (us:=[.int 1]) (bU (by ac_rfl) rfl (o _) rfl) rfl (aJ dA (cC hp1 rfl) rfl) rfl rfl (by and_intros) (aM dx (ig hp1 λg hg=>⟨rfl,jd (ch:= .pipe g (K.file f).pipe 1) on1 (H.put_same ..) nofun λm=>⟨rfl,ar (bX (by ac_rfl) ⟨X,(ai hc).trans (ai hg),?_⟩)⟩⟩))) rfl))))
  rw [jG _ g 0]
  exact k1
end
section
variable {W:Wd}{A:Id→Addr}{K:KS}{X h:H}{R:SV VI}{n:Nat}
theorem F5 {p d i f pr:Nat}{x:List UInt8}(on:K.on=true)(hp:p<6)(hd:(K.proc p).files=some d)(hi:i<6)(hs:(K.desc d)[i]?=some (some f))(hr:(K.file f).wr=true)(hro:(K.pipe (K.file f).pipe).ro=true)(hle:(K.pipe (K.file f).pipe).rc≤(K.pipe (K.file f).pipe).wc)
  (hfl:(K.pipe (K.file f).pipe).fill≤(K.pipe (K.file f).pipe).size) (hx:x.length≤1000) (hpr:(K.proc p).progress=(pr:Int)) (hpl:pr≤x.length)
  (k0:∀c t K1,t=min (x.length - pr) ((K.pipe (K.file f).pipe).size - (K.pipe (K.file f).pipe).fill)→t≠x.length - pr→K1=(K.setPipe (K.file f).pipe ((K.pipe (K.file f).pipe).push ((x.drop pr).take t))).wake (.pipe 0 (K.file f).pipe 0)→
   R A (K1.setProc p ((((K1.proc p).wProg (pr+t:Nat)).wState .sleeping).wChan (.pipe c (K.file f).pipe 1))) X .none)
  (k1:∀K1,x.length - pr≤(K.pipe (K.file f).pipe).size - (K.pipe (K.file f).pipe).fill→K1=(K.setPipe (K.file f).pipe ((K.pipe (K.file f).pipe).push (x.drop pr))).wake (.pipe 0 (K.file f).pipe 0)→
   R A (K1.setProc p ((K1.proc p).wProg 0)) X (.int x.length)):GC W (n+5) bm [.ref .calls,.ref (.proc p),.int i,.bytes x] A K X R:=by
 refine aH ja rfl rfl (dh λw=>fL ?_)
 have hdn:=w.files p hp d hd
 have hf:=w.slot d hdn f (List.mem_of_getElem? hs)
 have hpp:=w.fpipe f hf
 have hx1:x.length≤100000:=Nat.le_trans hx (by decide)
 have ld:(x.drop pr).length=x.length - pr:=List.length_drop ..
 refine mU rfl rfl (ge rfl wm rfl (by and_intros) (i5 wG CL)) (mU rfl rfl (iz (kc (bU (u:=eY .desc (K.proc p).files) (by ac_rfl) rfl (bB on hp rfl) rfl) (GJ hd)) rfl (aJ dp (fD hdn) rfl) rfl rfl (by and_intros) (i5 du (Ac hdn hi hs))) ?_)
 refine mU (u:= .int pr) rfl rfl (kc (bU (by ac_rfl) rfl (bB on hp rfl) rfl) (congrArg VI.int hpr)) ?_
 refine C8 rfl (λ_=>rfl) (aG (by ac_rfl) rfl (aJ lL (ma on) rfl) rfl rfl (aw (by ac_rfl) rfl (aw (ua (by ac_rfl) (By (by ac_rfl)) Bn hx1 (vc x hpl)) rfl aK)) (aM lF (EX hf hr w (BX hpp hro hle hfl (Nat.le_trans (Nat.le_of_eq ld) (Nat.le_trans (Nat.sub_le ..) hx1)) λc t et hc=>⟨rfl,[.int t,.int (if t=(x.drop pr).length then 0 else 1)],g5 (us:=[.int t,.int (if t=(x.drop pr).length then 0 else 1)]) (H.put_same ..),?_⟩))))
 refine dS rfl rfl (λ_=>⟨rfl,rfl⟩) (dQ rfl ⟨rfl,dS rfl rfl (λ_=>⟨rfl,rfl⟩) (dQ rfl ⟨rfl,jf ?_⟩)⟩)
 rw [ld] at et
 simp only [ld]
 have lt:t≤x.length - pr:=et▸Nat.min_le_left ..
 generalize hK0:K.setPipe (K.file f).pipe ((K.pipe (K.file f).pipe).push ((x.drop pr).take t))=K0
 have on0:K0.on=true:=hK0▸on
 have hf0:f<K0.nf:=hK0▸hf
 have hp0:(K.file f).pipe<K0.np:=hK0▸hpp
 have o:∀X,OI W A K0 X (.ref (.file f)) aY (A (.fileD f)) (vh (K.file f)):=λX=>gB hf0 (hK0▸rfl)
 refine iQ (ap (b8 (bU (by ac_rfl) rfl (o _) rfl) (by ac_rfl) rfl (gc rfl)) (by rfl)) (dw rfl (uu (by ac_rfl) rfl (aJ dH (eZ on0) rfl) rfl rfl dD (bS (aG (us:=[.int 0]) (bU (by ac_rfl) rfl (o _) rfl) rfl (aJ dA (cC hp0 rfl) rfl) rfl rfl (by and_intros) (aM dx (ig hp0 λg hg=>⟨rfl,jd (ch:= .pipe g (K.file f).pipe 0) on0 (H.put_same ..) nofun λm=>⟨rfl,ar (mj ((ai hc).trans (ai hg)) ?_)⟩⟩))) rfl)))
 rw [jG K0 g 0]
 have w1:∀K1,K0.wake (.pipe 0 (K.file f).pipe 0)=K1→K1.on=true∧f<K1.nf∧K1.file f=K.file f:=λK1 e=>e▸⟨on0,hf0,hK0▸rfl⟩
 generalize hK1:K0.wake (.pipe 0 (K.file f).pipe 0)=K1
 have ⟨on1,hf1,ef⟩:=w1 K1 hK1
 have on2:∀P,(K1.setProc p P).on=true:=λP=>on1
 refine fO (b8 (by ac_rfl) (by ac_rfl) rfl iu) (λq=> ?_) λq=> ?_
 ·have ne:t≠x.length - pr:=λe=>by rw [if_pos e] at q;exact absurd q (by decide)
  refine aC rfl (by ac_rfl) (by ac_rfl) (eR (p':=(K1.proc p).wProg (pr+t:Nat)) on1 hp rfl rfl rfl (.inl rfl) (.inl rfl) (.inl rfl) rfl ?_)
  have on2:=on2 ((K1.proc p).wProg (pr+t:Nat))
  have w2:(K1.setProc p ((K1.proc p).wProg (pr+t:Nat))).file f=K.file f:=ef
  refine dh λw'=>rz (uu (by ac_rfl) rfl (aJ eM (j4 on2) rfl) rfl rfl eE (bL (cR (by ac_rfl) ⟨rfl,bS (aG (us:=[.ref (.file f),.bool true]) (by ac_rfl) rfl (aJ f9 (ma on2) rfl) rfl rfl (by and_intros) (aM f6 (zS hf1 w' λg' hg'=>⟨rfl,rfl,?_⟩))) rfl⟩) rfl (af rfl λ_=>rfl)))
  rw [w2]
  refine pX (ch:= .pipe g' (K.file f).pipe 1) on2 hp (H.put_same ..) ⟨X,ai hg',?_⟩
  rw [b7,aR]
  exact k0 g' t K1 et ne (by rw [←hK1,←hK0])
 ·have e:t=x.length - pr:=Decidable.byContradiction λe=>by rw [if_neg e] at q;exact absurd q (by decide)
  refine ar (aC rfl (by ac_rfl) (by ac_rfl) (eR (p':=(K1.proc p).wProg 0) on1 hp rfl rfl rfl (.inl rfl) (.inl rfl) (.inl rfl) rfl ?_))
  refine da (BZ (ap (b8 (by ac_rfl) (by ac_rfl) rfl iu) (by rw [if_pos e];rfl)) (ap (b8 (by ac_rfl) (ge rfl eH rfl (by and_intros) (l9 hx1)) rfl iW) (decide_eq_false (by rw [e];lia)))) (bX (ge rfl eH rfl (by and_intros) (l9 hx1)) ⟨X,λ_ _ e=>e,k1 K1 ?_ ?_⟩)
  ·rw [←e,et];exact Nat.min_le_right ..
  ·rw [←hK1,←hK0,List.take_of_length_le (by rw [ld,e];exact Nat.le_refl _)]
end
section
variable {W:Wd}{A:Id→Addr}{K:KS}{X h:H}{R:SV VI}{n:Nat}
theorem iL {b:fU}{m:Nat}(hb:K.box=some b)(hm:0<m)(k:∀v:Nat,v<m→R A (K.tick b) X (.int v)):GC W (n+1) fN [.ref .box,.int m] A K X R:=by
 refine aH uy rfl rfl ?_
 have m0:(m:Int)≠0:=Int.ofNat_ne_zero.mpr (Nat.ne_of_gt hm)
 have fin:∀z:Int,R A (K.tick b) X (.int (z.fmod m)):=λz=>by
  have h0:0≤z.fmod m:=Int.fmod_nonneg_of_pos _ (Int.ofNat_lt.mpr hm)
  have h1:z.fmod m<m:=Int.fmod_lt_of_pos _ (Int.ofNat_lt.mpr hm)
  have:=k (z.fmod m).toNat ((Int.toNat_lt h0).mpr h1)
  rwa [Int.toNat_of_nonneg h0] at this
 refine mU rfl rfl (aO (by ac_rfl) (by ac_rfl) rfl (iU (mG hb) (by decide) rfl)) (tO rfl (by ac_rfl) (by ac_rfl) (by ac_rfl) (KR hb ?_))
 have B:(K.tick b).box=some {b with k:=b.k+1}:=rfl
 have C:g8 W A (K.tick b) X (.ref .cells) (b.cells.map .int):=wT (b:={b with k:=b.k+1}) B
 have el:((b.cells.map VI.int).length:Int)=b.cells.length:=congrArg Int.ofNat (List.length_map ..)
 by_cases q:b.k<b.cells.length
 ·refine bX (j0 (CX (ap (b8 (by ac_rfl) (ge rfl eH rfl (aw (aO (by ac_rfl) (by ac_rfl) rfl (iU (mG B) (by decide) rfl)) rfl aK) (jj C)) rfl iW) (by rw [el];exact decide_eq_true (Int.ofNat_lt.mpr q))) (aO (aO (by ac_rfl) (by ac_rfl) rfl (iU (mG B) (by decide) rfl)) (by ac_rfl) rfl (iU C (Int.natCast_nonneg _) ?_))) (by ac_rfl) (tn m0)) (fin (b.cells[b.k]))
  rw [Int.toNat_natCast,List.getElem?_map,List.getElem?_eq_getElem q];rfl
 ·exact bX (j0 (Iv (ap (b8 (by ac_rfl) (ge rfl eH rfl (aw (aO (by ac_rfl) (by ac_rfl) rfl (iU (mG B) (by decide) rfl)) rfl aK) (jj C)) rfl iW) (by rw [el];exact decide_eq_false λe=>q (Int.ofNat_lt.mp e))) (j0 (j0 (j0 (by ac_rfl) (by ac_rfl) (DB (by decide))) (j0 (by ac_rfl) (by ac_rfl) (E8 (by decide))) gG) (aO (by ac_rfl) (by ac_rfl) rfl (iU (mG B) (by decide) rfl)) gG)) (by ac_rfl) (tn m0)) (fin _)
end
section
noncomputable def held (l:List (Option Nat))(j:Nat):List (Nat×Nat):=(List.range j).filterMap λi=>(l.getD i none).map λf=>(i,f)
theorem AF (l:List (Option Nat))(j:Nat):held l (j+1)=held l j++((l.getD j none).map λf=>(j,f)).toList:=gP (λi=>(l.getD i none).map λf=>(i,f)) j
theorem bN.snoc {α β:Type}{P:α→β→Prop}{a:α}{b:β}(h:P a b):∀{l:List α}{m:List β},bN P l m→bN P (l++[a]) (m++[b])
 |[],[],_=>⟨h,trivial⟩
 |[],_::_,q=>q.elim
 |_::_,[],q=>q.elim
 |_::_,_::_,q=>⟨q.1,bN.snoc h q.2⟩
theorem bN.imp {α β:Type}{P Q:α→β→Prop}(h:∀a b,P a b→Q a b):∀{l:List α}{m:List β},bN P l m→bN Q l m
 |[],[],_=>trivial
 |[],_::_,q=>q.elim
 |_::_,[],q=>q.elim
 |_::_,_::_,q=>⟨h _ _ q.1,bN.imp h q.2⟩
theorem bN.len {α β:Type}{P:α→β→Prop}:∀{l:List α}{m:List β},bN P l m→l.length=m.length
 |[],[],_=>rfl
 |[],_::_,q=>q.elim
 |_::_,[],q=>q.elim
 |_::_,_::_,q=>congrArg (· +1) (bN.len q.2)
noncomputable def N0 (A:Id→Addr)(X:H)(ts:List Addr)(qs:List (Nat×Nat)):Prop:=bN (λt q=>X t=some (.tup (dL A [.int (q.1:Nat),.ref (.file q.2)]))) ts qs
structure NI (A:Id→Addr)(K:KS)(X:H)(d:Nat)(acc:Addr)(j:Nat)(ys:List VI)(X₂:H):Prop where
 sub:ml X X₂
 lst:X₂ acc=some (.list (dL A ys))
 tup:∃ts:List Addr,ys=ts.map .adr∧N0 A X₂ ts (held (K.desc d) j)
variable {W:Wd}{A:Id→Addr}{K:KS}{X h:H}{R:SV VI}{n:Nat}
theorem NI.put {d j:Nat}{acc g:Addr}{ys:List VI}{X₂:H}{o:O}(I:NI A K X d acc j ys X₂)(hg:X₂ g=none):NI A K X d acc j ys (X₂.put g o):=
 ⟨I.sub.trans (ai hg),aE I.lst hg,I.tup.elim λts e=>⟨ts,e.1,e.2.imp λa b h=>aE h hg⟩⟩
theorem nV {d:Nat}(hd:d<K.nd)(k:∀c ts X',ml X X'→X' c=some (.list (dL A (ts.map .adr)))→N0 A X' ts (held (K.desc d) 6)→R A K X' (.adr c)):GC W (n+1) bg [.ref (.desc d)] A K X R:=by
 refine aH i9 rfl rfl (dh λw=> ?_)
 have six:=w.six d hd
 have len:(gu.enum (A (.slots d)) (dL A (K.slotsI d))).len=6:=(List.length_map ..).trans ((List.length_map ..).trans six)
 have ok:∀(Y h:H),Is W A K Y h→(gu.enum (A (.slots d)) (dL A (K.slotsI d))).ok h:=λY h I=>I.get (.slots d) _ (cU hd)
 refine kN (fF (by kernel_rfl) (O1 rfl vl rfl rfl (by ac_rfl) rfl (m6 hd) ⟨rfl,λacc hacc=>⟨NI A K X d acc,⟨ai hacc,H.put_same ..,[],rfl,trivial⟩,λj ys X₂ hj I=>⟨λh=>ok X₂ h,?_⟩,λys X₂ I=>⟨λh=>ok X₂ h,rfl,?_⟩⟩⟩))
 ·rw [len] at hj
  have hs:(K.desc d)[j]?=some ((K.desc d).getD j none):=by rw [List.getElem?_eq_getElem (by rw [six];exact hj),cF (by rw [six];exact hj)]
  have hs':(K.slotsI d)[j]?=some (eY .file ((K.desc d).getD j none)):=by unfold KS.slotsI;rw [List.getElem?_map,hs];rfl
  refine Ia hs' λg hg=>⟨⟨rfl,rfl⟩,Bd (g5 (H.put_same ..)) (dS rfl rfl (λ_=>⟨rfl,rfl⟩) (dQ rfl ⟨rfl,dS rfl rfl (λ_=>⟨rfl,rfl⟩) (dQ rfl ⟨rfl,jf ⟨⟨rfl,rfl⟩,(λ_ _ e=>nomatch e),?_⟩⟩)⟩))⟩
  have I:=I.put (o:= .tup (dL A [.int j,eY .file ((K.desc d).getD j none)])) hg
  generalize X₂.put g _=X₃ at I
  have hh:=AF (K.desc d) j
  generalize (K.desc d).getD j none=o at hh
  cases o with
  |none=>
   refine Jb (oB (t:=false) (ap (b8 (x:= .none) (by ac_rfl) (by ac_rfl) rfl (gc rfl)) rfl) ⟨⟨rfl,rfl⟩,ft,λ_=>⟨I.sub,I.lst,I.tup.elim λts e=>⟨ts,e.1,?_⟩⟩⟩)
   rw [hh]
   exact (List.append_nil (held (K.desc d) j)).symm▸e.2
  |some f=>
   refine Jb (oB (t:=true) (ap (b8 (x:= .ref (.file f)) (by ac_rfl) (by ac_rfl) rfl (gc rfl)) rfl) ⟨⟨rfl,rfl⟩,λ_=>l0 (gg (us:=[.int j,.ref (.file f)]) (by and_intros) ⟨Nat.le_of_ble_eq_true rfl,λt ht=>⟨⟨rfl,rfl⟩,aE I.lst ht,?_,?_,H.put_same ..,?_⟩⟩),nofun⟩)
   ·refine bq λzq=> ?_
    obtain ⟨ts,e1,e2⟩:=I.tup
    apply zq;clear zq
    rw [e1,List.length_map,e2.len]
    exact Nat.le_trans (List.length_filterMap_le ..) (Nat.le_trans (Nat.le_of_eq List.length_range) (Nat.le_trans (Nat.le_of_lt hj) (by decide)))
   ·intro c o e
    rw [H.put_ne λq=>by rw [q,hacc] at e;cases e]
    exact ai ht c o (I.sub c o e)
   ·refine bq λzq=> ?_
    obtain ⟨ts,e1,e2⟩:=I.tup
    apply zq;clear zq
    have nacc:∀{t' vs},(X₃.put t (.tup (dL A [.int j,.ref (.file f)]))) t'=some (.tup vs)→t'≠acc:=λq e=>by rw [e,aE I.lst ht] at q;cases q
    refine ⟨ts++[t],by rw [e1,List.map_append];rfl,?_⟩
    rw [hh]
    exact bN.snoc (a:=t) (b:=(j,f)) (P:=λt' (q:Nat×Nat)=>(H.put (X₃.put t (.tup (dL A [.int j,.ref (.file f)]))) acc (.list (dL A (ys++[.adr t])))) t'=some (.tup (dL A [.int (q.1:Nat),.ref (.file q.2)]))) ((H.put_ne (nacc (H.put_same ..))).trans (H.put_same ..)) (e2.imp λa b q=>(H.put_ne (nacc (aE q ht))).trans (aE q ht))
 ·rw [len] at I
  refine bq λzq=> ?_
  obtain ⟨ts,e1,e2⟩:=I.tup
  apply zq;clear zq
  exact k acc ts X₂ I.sub (e1▸I.lst) e2
end
section
inductive bM (d:Nat):List (Nat×Nat)→KS→KS→Prop
 |nil {K}:bM d [] K K
 |snoc {l i f c K K₁}:bM d l K K₁→bM d (l++[(i,f)]) K (K₁.closeAt d i f c)
theorem bM.on {d:Nat}{l:List (Nat×Nat)}{K K':KS}(h:bM d l K K'):K'.on=K.on:=by
 induction h with
 |nil=>rfl
 |snoc _ ih=>exact (CM ..).1.trans ih
theorem bN.at {α β:Type}{P:α→β→Prop}:∀{l:List α}{m:List β},bN P l m→∀(j:Nat)(a:α),l[j]?=some a→∃b,m[j]?=some b∧P a b
 |[],_,_,_,_,e=>nomatch e
 |_::_,[],q,_,_,_=>q.elim
 |_::_,_::_,q,0,_,e=>by cases e;exact ⟨_,rfl,q.1⟩
 |_::_,_::_,q,j+1,a,e=>bN.at q.2 j a e
theorem iN {n m:Str}{u:VI}(h:m≠n):∀y:KV,(aU n u y).lookup m=y.lookup m
 |[]=>by show (match m==n with|true=>some u|false=>none)=_;rw [beq_eq_false_iff_ne.mpr h];rfl
 |(k,v)::r=>by
  show (if n=k then (k,u)::r else (k,v)::aU n u r).lookup m=_
  split
  ·subst ‹n=k›;rw [List.lookup_cons,List.lookup_cons,beq_eq_false_iff_ne.mpr h]
  ·rw [List.lookup_cons,List.lookup_cons,iN h r]
variable {W:Wd}{A:Id→Addr}{K:KS}{X h:H}{R:SV VI}{n:Nat}
theorem DM {p d:Nat}(on:K.on=true)(hp:p<6)(hd:(K.proc p).files=some d)
  (ok:∀l1 i f l2 K1,held (K.desc d) 6=l1++(i,f)::l2→bM d l1 K K1→(K1.proc p).files=some d∧i<6∧(K1.desc d)[i]?=some (some f)∧1≤(K1.file f).holders∧K1.opn.length≤1000)
  (k:∀K',bM d (held (K.desc d) 6) K K'→R A K' X .none):GC W (n+6) bF [.ref .calls,.ref (.proc p)] A K X R:=by
 refine aH iX rfl rfl (dh λw=>fL ?_)
 have hdn:=w.files p hp d hd
 have fv:∀pos ps,GV (cn W (n+5) 19 6) (.Attribute (.Name "process" pos) "files" ps) [("self",.ref .calls),("process",.ref (.proc p))] A K X (.ref (.desc d)):=λ_ _=>kc (bU (u:=eY .desc (K.proc p).files) (by ac_rfl) rfl (bB on hp rfl) rfl) (GJ hd)
 generalize hH:held (K.desc d) 6=hl at ok k
 refine iQ (ap (b8 (fv _ _) (by ac_rfl) rfl (gc rfl)) (by rfl)) (lh (AJ rfl (aG (fv _ _) rfl (aJ eJ (fD hdn) rfl) rfl rfl aK (aM eG (nV hdn λc ts X' sb hc tp=>⟨c,ts.map .adr,rfl,bR hc,rfl,?_⟩)))))
 rw [hH] at tp
 have len:ts.length=hl.length:=tp.len
 have sl:(gu.list c (dL A (ts.map .adr))).len=hl.length:=(List.length_map ..).trans ((List.length_map ..).trans len)
 refine ⟨λj A₂ K₂ X₂ ρ=>A₂=A∧X₂=X'∧bM d (hl.take j) K K₂∧∃y:KV,(("self",.ref .calls)::("process",.ref (.proc p))::y:KV)=ρ,⟨rfl,rfl,.nil,[],rfl⟩,λj A₂ K₂ X₂ ρ hj ⟨e1,e2,cl,y,e3⟩=> ?_,λA₂ K₂ X₂ ρ ⟨e1,e2,cl,y,e3⟩=> ?_⟩
 ·subst A₂ X₂ e3
  rw [sl] at hj
  have ht:ts[j]?=some (ts[j]'(len▸hj)):=List.getElem?_eq_getElem _
  generalize ts[j]'(len▸hj)=t at ht
  refine bq λzq=> ?_
  obtain ⟨⟨i,f⟩,hq,tt⟩:=tp.at j t ht
  apply zq;clear zq
  have hq':hl[j]=(i,f):=by rw [List.getElem?_eq_getElem hj] at hq;exact Option.some.inj hq
  have sp:hl=hl.take j++(i,f)::hl.drop (j+1):=by rw [←hq',←List.drop_eq_getElem_cons hj,List.take_append_drop]
  have st:hl.take (j+1)=hl.take j++[(i,f)]:=by rw [List.take_succ_eq_append_getElem hj,hq']
  have ⟨q1,q2,q3,q4,q5⟩:=ok _ i f _ K₂ sp cl
  have on2:K₂.on=true:=cl.on.trans on
  refine ⟨λh I=>(I.oth c _ hc).1,cG (x:= .adr t) (by rw [List.getElem?_map,ht];rfl) ⟨rfl,Bd (g5 tt) (dS rfl rfl (λ_=>⟨rfl,rfl⟩) (dQ rfl ⟨rfl,dS rfl rfl (λ_=>⟨rfl,rfl⟩) (dQ rfl ⟨rfl,jf ?_⟩)⟩))⟩⟩
  exact dw rfl (aG (by ac_rfl) rfl (aJ dC (j4 on2) rfl) rfl rfl (aw (by ac_rfl) rfl (aw (cw ((iN (by decide) _).trans (aP ..)) rfl rfl rfl) rfl aK)) (aM dy (tU on2 hp q1 q2 q3 q4 q5 λc=>⟨rfl,ar ⟨rfl,rfl,by rw [st];exact .snoc cl,aU "file" (.ref (.file f)) (aU "number" (.int i) y),rfl⟩⟩)))
 ·subst A₂ X₂ e3
  rw [sl,List.take_length] at cl
  have on2:K₂.on=true:=cl.on.trans on
  refine ⟨λh I=>(I.oth c _ hc).1,ar (da (ap (by subst_eqs) (by rfl)) (ar ⟨X,sb,k K₂ cl⟩))⟩
end
section
variable {W:Wd}{A:Id→Addr}{K:KS}{X h:H}{R:SV VI}{n:Nat}
theorem B9 {K:KS}{p r:Nat}{x:Int}:(K.setProc p ((K.proc p).wProg x)).kids r=K.kids r:=
 congrArg (λf=>(List.range 6).filter f) (funext λi=>cz (f:=K.proc) (i:=p) (a:=(K.proc p).wProg x) (λP:aa=>(decide (P.state≠ .unused)&&decide (P.parent=some r))=K.isKid r i) (λe=>by rw [e];rfl) λ_=>rfl)
theorem He {p d:Nat}{st:Int}(on:K.on=true)(hp:p<6)(hd:(K.proc p).files=some d)
  (ok:∀l1 i f l2 K1,held (K.desc d) 6=l1++(i,f)::l2→bM d l1 K K1→(K1.proc p).files=some d∧i<6∧(K1.desc d)[i]?=some (some f)∧1≤(K1.file f).holders∧K1.opn.length≤1000)
  (ok2:∀K1,bM d (held (K.desc d) 6) K K1→∃q f,K1.first=some f∧f≠p∧K1.kids p=[]∧(K1.proc p).parent=some q∧q≠p)
  (k:∀K1 q,bM d (held (K.desc d) 6) K K1→(K1.proc p).parent=some q→R A ((K1.setProc p (((K1.proc p).wProg 0).dead st)).wake (.child 0 (K1.proc q).pid)) X (.int 0)):
  GC W (n+7) aQ [.ref .calls,.ref (.proc p),.int st] A K X R:=by
 refine aH jV rfl rfl (dw rfl (aG (by ac_rfl) rfl (aJ j3 (j4 on) rfl) rfl rfl (by and_intros) (aM j5 (DM on hp hd ok λK1 cl=>⟨rfl,?_⟩))))
 refine bq λzq=> ?_
 obtain ⟨q,f,hf,nf,hk,hq,nq⟩:=ok2 K1 cl
 apply zq;clear zq
 have on1:K1.on=true:=cl.on.trans on
 refine aC rfl (by ac_rfl) (by ac_rfl) (eR (p':=(K1.proc p).wProg 0) on1 hp rfl rfl rfl (.inl rfl) (.inl rfl) (.inl rfl) rfl ?_)
 have on2:(K1.setProc p ((K1.proc p).wProg 0)).on=true:=on1
 have g:(K1.setProc p ((K1.proc p).wProg 0)).proc p=(K1.proc p).wProg 0:=aR ..
 have gq:(K1.setProc p ((K1.proc p).wProg 0)).proc q=K1.proc q:=av nq
 refine dw rfl (aG (by ac_rfl) rfl (aJ sN (eZ on2) rfl) rfl rfl (by and_intros) (aM tr (KC on2 hp (f:=f) (q:=q) hf nf (B9.trans hk) (by rw [g];exact hq) ⟨rfl,bX (by ac_rfl) ?_⟩)))
 rw [g,gq,b7]
 exact k K1 q cl hq
end
section
theorem p8 {n:Str}{v:VI}{l':KV}(nd:(l'.map (·.1)).Nodup):∀{l:KV},(∀q∈l,q∈l')→l.lookup n=some v→l'.lookup n=some v
 |[],_,e=>nomatch e
 |(k,u)::r,s,e=>by
  rw [List.lookup_cons] at e
  cases q:n==k with
  |false=>rw [q] at e;exact p8 nd (λx hx=>s x (.tail _ hx)) e
  |true=>
   rw [q] at e;cases e
   obtain rfl:=eq_of_beq q
   have m:=s _ (.head _)
   clear s
   induction l' with
   |nil=>cases m
   |cons b t ih=>
    rw [List.map_cons,List.nodup_cons] at nd
    rw [List.lookup_cons]
    rcases List.mem_cons.mp m with rfl|m
    ·rw [beq_self_eq_true]
    ·rw [beq_eq_false_iff_ne.mpr λe=>nd.1 (by rw [←e];exact List.mem_map_of_mem (f:=(·.1)) m)];exact ih nd.2 m
theorem ux {α:Type}{a:α}{l l':List α}(h:a∈l')(t:∀q∈l,q∈l'):∀q∈a::l,q∈l':=λq hq=>by
 rcases List.mem_cons.mp hq with rfl|hq
 ·exact h
 ·exact t q hq
theorem D3 (p:c6):(∀q∈OM p,q∈mw p)∧((mw p).map (·.1)).Nodup:=by
 unfold mw
 cases p.last
 ·refine ⟨?_,(by decide+kernel:[tR,kx,i8,eC,fh,rh,jz,fP].Nodup)⟩
  (repeat' refine ux ?_ ?_)<;>first|exact (λ_ h=>nomatch h)|(repeat (first|exact .head _|refine .tail _ ?_))
 ·refine ⟨?_,(by decide+kernel:[fh,tR,kx,i8,eC,jz,fP].Nodup)⟩
  (repeat' refine ux ?_ ?_)<;>first|exact (λ_ h=>nomatch h)|(repeat (first|exact .head _|refine .tail _ ?_))
variable {W:Wd}{A:Id→Addr}{K:KS}{X h:H}{R:SV VI}{n:Nat}
theorem Ek {w:ao}(I:Is W A K X h)(e:K.world=some w):h (A .world)=some (.attrs (dT A (A4 w))):=I.get (.st 17) _ (by
 show Option.map OK.o ((K.sob A)[17]?.join)=_
 unfold KS.sob KS.sob2
 rw [e]
 cases K.on<;>rfl)
theorem bt {i:Nat}{nm:Str}{v:VI}(hi:i<K.nr)(e:(OM (K.row i)).lookup nm=some v):DA W A K X (.ref (.row i)) nm v:=λh I=>⟨A (.row i),dT A (mw (K.row i)),rfl,I.get (.row i) _ (cU hi),by rw [cH,p8 (D3 _).2 (D3 _).1 e];rfl⟩
theorem gD {w:ao}{nm:Str}{v:VI}(hw:K.world=some w)(e:(A4 w).lookup nm=some v):DA W A K X (.ref .world) nm v:=λh I=>⟨A .world,dT A (A4 w),rfl,Ek I hw,by rw [cH,e];rfl⟩
theorem qo {i:Nat}{nm:Str}{v:VI}{p:c6}{T:KS→H→Prop}(hi:i<K.nr)(hk:aU nm v (mw (K.row i))=mw p)(hp:p.proc<6)(k:T (K.setRow i p) X):GI W (.ref (.row i)) (.str nm) v A K X T:=λB h o z w Q I eo ez ew q=>by
 rw [ah eo]
 have len:(dT A (mw (K.row i))).length≤800:=by
  unfold dT mw
  rw [List.length_map]
  cases (K.row i).last<;>exact Nat.le_of_ble_eq_true rfl
 refine tN (I.get (.row i) _ (cU hi)) len ez ?_
 rw [ew,db,hk]
 exact q _ _ _ (I.setRow hi hp) k
theorem Is.setWorld {w w':ao}(I:Is W A K X h)(hw:K.world=some w)(ht:w'.told=w.told)(ha:w'.toldA=w.toldA):Is W A (K.setWorld w') X (h.put (A .world) (.attrs (dT A (A4 w')))):=by
 refine I.setSt (m:=17) (K':=K.setWorld w') (o:= .attrs (dT A (A4 w))) (o':= .attrs (dT A (A4 w'))) ?_ ?_ (λy hy=> ?_) (λy=> ?_) (λ_ _=>rfl) (λz e p hp=> ?_) {I.wf with}
 ·exact iK (n:=2) (by unfold KS.sob2;rw [hw];rfl)
 ·unfold KS.sob KS.sob2 KS.setWorld
  cases q:K.on<;>(simp only [hw,Option.map_some,ht];rfl)
 ·cases y with
  |st n=>exact absurd rfl (hy n)
  |_=>rfl
 ·cases y with
  |st n=>
   show (if n=8 then K.openA else if n=18 then w'.toldA else A (.st n))=(if n=8 then K.openA else if n=18 then K.world.elim 0 (·.toldA) else A (.st n))
   rw [hw,ha];rfl
  |_=>rfl
 ·cases e
  rw [ht] at hp
  exact I.told w hw p hp
theorem uF {w w':ao}{nm:Str}{v:VI}{T:KS→H→Prop}(hw:K.world=some w)(hk:aU nm v (A4 w)=A4 w')(ht:w'.told=w.told)(ha:w'.toldA=w.toldA)(k:T (K.setWorld w') X):GI W (.ref .world) (.str nm) v A K X T:=λB h o z u Q I eo ez eu q=>by
 rw [ah eo]
 refine tN (Ek I hw) (Nat.le_of_ble_eq_true rfl) ez ?_
 rw [eu,db,hk]
 exact q _ _ _ (I.setWorld hw ht ha) k
end
section
noncomputable def c6.wPass (p:c6)(x:Int):c6:={p with passed:=x}
noncomputable def c6.wRest (p:c6)(x:List UInt8):c6:={p with rest:=x}
noncomputable def c6.wLeft (p:c6)(x:List UInt8):c6:={p with left:=x}
theorem E6 (p:c6)(x:Int):aU fP (.int x) (mw p)=mw (p.wPass x):=by unfold mw c6.wPass;cases p.last<;>rfl
theorem qi (p:c6)(x:List UInt8):aU jz (.bytes x) (mw p)=mw (p.wRest x):=by unfold mw c6.wRest;cases p.last<;>rfl
theorem DU (p:c6)(x:List UInt8):aU i8 (.bytes x) (mw p)=mw (p.wLeft x):=by unfold mw c6.wLeft;cases p.last<;>rfl
variable {W:Wd}{A:Id→Addr}{K:KS}{X h:H}{R:SV VI}{n:Nat}
theorem kk {K:KS}(i:Nat)(p q:c6):(K.setRow i p).setRow i q=K.setRow i q:=congrArg (λf=>{K with row:=f}) (oQ ..)
theorem kF {K:KS}(i:Nat)(p:c6):(K.setRow i p).row i=p:=aj ..
inductive NU (A:Id→Addr)(K:KS)(r:Nat)(R:SV VI)(A₁:Id→Addr)(K₁:KS)(X₁:H):VI→Prop where
 |no (a:A₁=A) (k:R A K₁ X₁ .none):NU A K r R A₁ K₁ X₁ .none
 |yes (m:Int) (a:A₁=A) (hr:r<K₁.nr) (e:K₁.row r=K.row r) (k:R A (K₁.setRow r (((K.row r).wPass ((K.row r).passed+m)).wRest [])) X₁ .none):NU A K r R A₁ K₁ X₁ (.int m)
theorem C1 {r:Nat}(on:K.on=true)(hr:r<K.nr)(k:GC W (n+5) bm [.ref .calls,.ref (.proc (K.row r).proc),(K.row r).out,.bytes (K.row r).rest] A K X (NU A K r R)):GC W (n+6) bZ [.ref .calls,.ref (.row r)] A K X R:=by
 refine aH qK rfl rfl (dh λw=>cE rfl rfl (aG (us:=[.ref (.proc (K.row r).proc),(K.row r).out,.bytes (K.row r).rest]) (by ac_rfl) rfl (aJ jc (j4 on) rfl) rfl rfl
  (aw (aO (by ac_rfl) (by ac_rfl) rfl (bj (bt hr rfl))) rfl (aw (aO (by ac_rfl) (by ac_rfl) rfl (bj (bt hr rfl))) rfl (aw (aO (by ac_rfl) (by ac_rfl) rfl (bj (bt hr rfl))) rfl aK))) (aM ji λh Q I q=>k I λA₁ K₁ X₁ u h' I' c=>q A₁ K₁ X₁ u h' I' ?_)))
 cases c with
 |no a k=>
  subst a
  exact ⟨rfl,da (ap (b8 (by ac_rfl) (by ac_rfl) rfl (gc rfl)) (by rfl)) (ar k)⟩
 |yes m a hr1 e k=>
  subst a
  have hp:(K₁.row r).proc<6:=e▸w.rowp r hr
  rw [←e] at k
  refine ⟨rfl,iQ (ap (b8 (by ac_rfl) (by ac_rfl) rfl (gc rfl)) (by rfl)) (fL (ke rfl (λ_ _=>rfl) (mc rfl) (l0 (gg (us:=[.int ((K₁.row r).passed+m),.bytes []]) (aw (j0 (aO (by ac_rfl) (by ac_rfl) rfl (bj (bt hr1 rfl))) (by ac_rfl) gG) rfl (by and_intros)) ⟨Nat.le_of_ble_eq_true rfl,λt ht=>⟨rfl,Bd (g5 (us:=[.int ((K₁.row r).passed+m),.bytes []]) (H.put_same ..)) (dS rfl rfl (λ_=>⟨rfl,rfl⟩) (r7 (by ac_rfl) (by ac_rfl) (qo hr1 (E6 ..) hp ⟨rfl,dS rfl rfl (λ_=>⟨rfl,rfl⟩) (r7 (by ac_rfl) (by ac_rfl) (qo (p:=((K₁.row r).wPass ((K₁.row r).passed+m)).wRest []) hr1 ?_ hp ⟨rfl,jf (ar ⟨X₁,ai ht,ar ?_⟩)⟩))⟩)))⟩⟩))))⟩
  ·rw [kF];exact qi ..
  ·rw [kk];exact k
end
section
noncomputable def ao.wOut (w:ao)(x:List UInt8):ao:={w with out:=x}
noncomputable def ao.wIs (w:ao):ao:={w with isOut:=true}
structure Pv (W:Wd)(m:Nat)(A:Id→Addr)(p:c6)(r:Nat)(w:ao)(t:Bool)(g:List UInt8)(K₁:KS)(X₁:H)(R:SV VI):Prop where
 k1:g=[]→t=true→GC W m aW [.ref .calls,.ref (.proc p.proc),p.inn] A (K₁.setWorld w.wIs) X₁ λA₂ K₂ X₂ _=>A₂=A∧R A K₂ X₂ .none
 k2:g=[]→t=false→GC W m aQ [.ref .calls,.ref (.proc p.proc),.int p.passed] A K₁ X₁ λA₂ K₂ X₂ _=>A₂=A∧R A K₂ X₂ .none
 k3:g≠[]→t=true→R A (K₁.setWorld (w.wOut (w.out++g))) X₁ .none
 k4:g≠[]→t=false→R A (K₁.setRow r (p.wRest g)) X₁ .none
inductive OJ (W:Wd)(m:Nat)(A:Id→Addr)(p:c6)(r:Nat)(w:ao)(R:SV VI)(A₁:Id→Addr)(K₁:KS)(X₁:H):VI→Prop where
 |no (a:A₁=A) (k:R A K₁ X₁ .none):OJ W m A p r w R A₁ K₁ X₁ .none
 |yes (g:List UInt8) (t:Bool) (a:A₁=A) (on:K₁.on=true) (hr:r<K₁.nr) (e:K₁.row r=p) (hw:K₁.world=some w) (hp:p.proc<6) (lim:w.out.length+g.length≤100000) (ht:AS p.out=some t) (k:Pv W m A p r w t g K₁ X₁ R):OJ W m A p r w R A₁ K₁ X₁ (.bytes g)
variable {W:Wd}{A:Id→Addr}{K:KS}{X h:H}{R:SV VI}{n m:Nat}
theorem lO {i:Nat}{p:c6}{nm:Str}{v:VI}(hi:i<K.nr)(e:K.row i=p)(l:(OM p).lookup nm=some v):DA W A K X (.ref (.row i)) nm v:=bt hi (e▸l)
theorem GC.at_ {f:Addr}{xs:List VI}{R':KS→H→Prop}(k:GC W m f xs A K X λA₁ K₁ X₁ _=>A₁=A∧R' K₁ X₁)(z:∀K₁ X₁ u,R' K₁ X₁→R A K₁ X₁ u):GC W m f xs A K X R:=λh Q I kq=>k I λA₁ K₁ X₁ u h' I' w=>kq A₁ K₁ X₁ u h' I' (by rw [w.1];exact z K₁ X₁ u w.2)
theorem Hm {r:Nat}{w:ao}(on:K.on=true)(hr:r<K.nr)(k:GC W m bv [.ref .calls,.ref (.proc (K.row r).proc),(K.row r).inn,.int (K.row r).size] A K X (OJ W m A (K.row r) r w R)):GC W (m+1) d9 [.ref .calls,.ref (.row r),.ref .world] A K X R:=by
 refine aH tF rfl rfl (cE rfl rfl (aG (us:=[.ref (.proc (K.row r).proc),(K.row r).inn,.int (K.row r).size]) (by ac_rfl) rfl (aJ jX (j4 on) rfl) rfl rfl
  (aw (aO (by ac_rfl) (by ac_rfl) rfl (bj (bt hr rfl))) rfl (aw (aO (by ac_rfl) (by ac_rfl) rfl (bj (bt hr rfl))) rfl (aw (aO (by ac_rfl) (by ac_rfl) rfl (bj (bt hr rfl))) rfl aK))) (aM jS λh Q I q=>k I λA₁ K₁ X₁ u h' I' c=>q A₁ K₁ X₁ u h' I' ?_)))
 cases c with
 |no a k=>
  subst A₁
  exact ⟨rfl,iQ (ap (b8 (by ac_rfl) (by ac_rfl) rfl (gF rfl)) (by rfl)) (Iy k)⟩
 |yes g t a on hr1 e hw hp lim ht k=>
  subst A₁
  have ov:∀pos ps c n,GV ⟨W,m,Hd.fS (Hd.stm 43),true⟩ (.Subscript (.Name "one" pos) (.Constant (.str "out") n c) ps) [("calls",.ref .calls),("one",.ref (.row r)),("world",.ref .world),("got",.bytes g)] A K₁ X₁ (K.row r).out:=λ_ _ _ _=>aO (by ac_rfl) (by ac_rfl) rfl (bj (lO hr1 e rfl))
  refine ⟨rfl,da (ap (b8 (by ac_rfl) (by ac_rfl) rfl (gF rfl)) (by rfl)) (fO (nK (by subst_eqs) λ_=>b8 (ov _ _ _ _) (by ac_rfl) rfl (gF ht)) (λq=> ?_) λq=> ?_)⟩
  ·have q:=an q
   have k:=k.k1 (eq_of_beq q.1) q.2
   refine tO rfl (by ac_rfl) (by ac_rfl) (by ac_rfl) (uF (w':=w.wIs) hw rfl rfl rfl ?_)
   have on:(K₁.setWorld w.wIs).on=true:=on
   exact dw rfl (aG (by ac_rfl) rfl (aJ dC (j4 on) rfl) rfl rfl (aw (aO (by ac_rfl) (by ac_rfl) rfl (bj (lO hr1 e rfl))) rfl (aw (aO (by ac_rfl) (by ac_rfl) rfl (bj (lO hr1 e rfl))) rfl aK)) (aM dy (k.at_ λK₂ X₂ u r=>⟨rfl,ar (ar r)⟩)))
  ·refine fO (by subst_eqs) (λq2=> ?_) λq2=>fO (b8 (ov _ _ _ _) (by ac_rfl) rfl (gF ht)) (λq3=> ?_) λq3=> ?_
   ·have t0:t=false:=by rw [q2] at q;exact q
    have k:=k.k2 (eq_of_beq q2) t0
    exact dw rfl (aG (by ac_rfl) rfl (aJ gt (j4 on) rfl) rfl rfl (aw (aO (by ac_rfl) (by ac_rfl) rfl (bj (lO hr1 e rfl))) rfl (aw (aO (by ac_rfl) (by ac_rfl) rfl (bj (lO hr1 e rfl))) rfl aK)) (aM gm (k.at_ λK₂ X₂ u r=>⟨rfl,ar (ar (ar r))⟩)))
   ·have k:=k.k3 (ne_of_beq_false q2) q3
    exact tO rfl (j0 (aO (by ac_rfl) (by ac_rfl) rfl (bj (gD hw rfl))) (by ac_rfl) (zt lim)) (by ac_rfl) (by ac_rfl) (uF (w':=w.wOut (w.out++g)) hw rfl rfl rfl (ar (ar (ar (ar k)))))
   ·have k:=k.k4 (ne_of_beq_false q2) q3
    exact tO rfl (by ac_rfl) (by ac_rfl) (by ac_rfl) (qo (p:=(K.row r).wRest g) hr1 (by rw [e];exact qi ..) hp (ar (ar (ar (ar k)))))
end
section
variable {W:Wd}{A:Id→Addr}{K:KS}{X h:H}{R:SV VI}{n:Nat}
noncomputable def ao.wTold (w:ao)(q:Addr×Int×Int)(e:Addr):ao:={w with told:=w.told++[q],toldA:=e}
theorem Is.tell {w:ao}{e c:Addr}{p s:Int}(I:Is W A K X h)(hw:K.world=some w)(hX:X e=some (.list ((w.told++[(c,p,s)]).map λp=> .ref p.1)))(hc:h c=some (.tup [.int p,.int s])):
  Is W A (K.setWorld (w.wTold (c,p,s) e)) (X.del e) (h.put (A .world) (.attrs (dT A (A4 (w.wTold (c,p,s) e))))):=by
 have es:(K.setWorld (w.wTold (c,p,s) e)).sob A=((K.sob A).set 17 (some (.attrs (dT A (A4 (w.wTold (c,p,s) e)))))).set 18 (some (.list ((w.told++[(c,p,s)]).map λp=> .ref p.1))):=by
  unfold KS.sob KS.sob2 KS.setWorld
  cases q:K.on<;>(simp only [hw,Option.map_some];rfl)
 have e17:K.ob A (.st 17)=some (.attrs (dT A (A4 w))):=iK (n:=2) (by unfold KS.sob2;rw [hw];rfl)
 have e18:K.ob A (.st 18)=some (.list (w.told.map λp=> .ref p.1)):=iK (n:=3) (by unfold KS.sob2;rw [hw];rfl)
 have lt:18<(K.sob A).length:=by
  have:(K.sob A)[18]?.join=_:=e18
  cases q:(K.sob A)[18]? with
  |none=>rw [q] at this;cases this
  |some _=>exact (List.getElem?_eq_some_iff.mp q).1
 have ea:∀y,y≠ .st 18→(K.setWorld (w.wTold (c,p,s) e)).at A y=K.at A y:=λy hy=>by
  cases y with
  |st m=>
   have:m≠18:=λe=>hy (e▸rfl)
   show (if m=8 then K.openA else if m=18 then _ else A (.st m))=(if m=8 then K.openA else if m=18 then _ else A (.st m))
   rw [if_neg this,if_neg this]
  |_=>rfl
 refine I.change (mv:=True) (x₀:= .st 18) (r:=e) (xd:= .st 17) (gI e17) ?_ (ea _ (by decide)) (λy hy=> ?_) (λa o q=> ?_) (λi hi=> .inl rfl) (λz hz q hq=> ?_) {I.wf with}
 ·show Option.map OK.o (((K.setWorld (w.wTold (c,p,s) e)).sob A)[17]?.join)=_
  rw [es,List.getElem?_set_ne (by decide),List.getElem?_set_self (Nat.lt_trans (by decide) lt)];rfl
 ·by_cases q:y= .st 18
  ·subst q
   refine .inr ⟨trivial,rfl,gI e18,rfl,?_⟩
   show Option.map OK.o (((K.setWorld (w.wTold (c,p,s) e)).sob A)[18]?.join)=_
   rw [es,List.getElem?_set_self (by rw [List.length_set];exact lt),hX];rfl
  ·refine .inl ⟨?_,ea y q⟩
   cases y with
   |st m=>
    show Option.map OK.o (((K.setWorld (w.wTold (c,p,s) e)).sob A)[m]?.join)=Option.map OK.o ((K.sob A)[m]?.join)
    rw [es,List.getElem?_set_ne λz:18=m=>q (z▸rfl),List.getElem?_set_ne λz:17=m=>hy (z▸rfl)]
   |_=>rfl
 ·unfold H.del at q
  split at q
  ·cases q
  ·exact ⟨q,λ_=>‹_›⟩
 ·cases hz
  rcases List.mem_append.mp hq with z|z
  ·exact I.told w hw q z
  ·cases List.mem_singleton.mp z;exact hc
theorem GZ {w:ao}{e c:Addr}{p s:Int}{T:KS→H→Prop}(hw:K.world=some w)(hX:X e=some (.list ((w.told++[(c,p,s)]).map λp=> .ref p.1)))(hc:X c=some (.tup [.int p,.int s]))(k:T (K.setWorld (w.wTold (c,p,s) e)) (X.del e)):
  GI W (.ref .world) (.str yg) (.adr e) A K X T:=λB h o z u Q I eo ez eu q=>by
 rw [ah eo]
 refine tN (Ek I hw) (Nat.le_of_ble_eq_true rfl) ez ?_
 rw [eu,db]
 exact q _ _ _ (I.tell hw hX (I.oth c _ hc).1) k
theorem ud {w:ao}(hw:K.world=some w):g8 W A K X (.adr w.toldA) (w.told.map λp=> .adr p.1):=λh I=>⟨_,rfl,by
 have:=I.get (.st 18) _ (congrArg (Option.map OK.o) (iK (n:=3) (by unfold KS.sob2;rw [hw];rfl):K.ob A (.st 18)=some (.list (w.told.map λp=> .ref p.1))))
 rw [show K.at A (.st 18)=w.toldA by show K.world.elim 0 (·.toldA)=_;rw [hw];rfl] at this
 rw [this]
 have e:dL A (w.told.map λp=> .adr p.1)=w.told.map λp=>V.ref p.1:=List.map_map ..
 exact congrArg (λl=>some (O.list l)) e.symm⟩
end
section
structure PE (W:Wd)(m:Nat)(A:Id→Addr)(K:KS)(X:H)(r:Nat)(w:ao)(ti to:Bool)(R:SV VI):Prop where
 k1:to=false→(K.row r).rest≠[]→GC W m bZ [.ref .calls,.ref (.row r)] A K X λA₁ K₁ X₁ _=>A₁=A∧R A K₁ X₁ .none
 k2:(to=false→(K.row r).rest=[])→ti=true→(K.row r).left≠[]→GC W m bZ [.ref .calls,.ref (.row r)] A (K.setRow r (((K.row r).wRest (cut (K.row r).left none (some (K.row r).size))).wLeft (cut (K.row r).left (some (K.row r).size) none))) X λA₁ K₁ X₁ _=>A₁=A∧R A K₁ X₁ .none
 k3:(to=false→(K.row r).rest=[])→ti=true→(K.row r).left=[]→GC W m aQ [.ref .calls,.ref (.proc (K.row r).proc),.int (K.row r).passed] A K X λA₁ K₁ X₁ _=>A₁=A∧R A K₁ X₁ .none
 k4:ti=false→w.isOut=true→to=true→GC W m aZ [.ref .calls,.ref (.proc (K.row r).proc)] A K X λA₁ K₁ X₁ v=>A₁=A∧∃c q s,v= .adr c∧X₁ c=some (.tup [.int q,.int s])∧K₁.world=some w∧ml X X₁∧∀e,R A (K₁.setWorld (w.wTold (c,q,s) e)) X .none
 k5:(to=false→(K.row r).rest=[])→ti=false→(w.isOut=true→to=false)→GC W m d9 [.ref .calls,.ref (.row r),.ref .world] A K X λA₁ K₁ X₁ _=>A₁=A∧R A K₁ X₁ .none
variable {W:Wd}{A:Id→Addr}{K:KS}{X h:H}{R:SV VI}{n m:Nat}
theorem cb {c:Bool}{a:List UInt8}(h:(c&&(a !=[]))=false):c=true→a=[]:=λe=>by
 subst e
 exact bne_eq_false_iff_eq.mp h
theorem DL {c:Cn}{ρ:KV}{l:List Stmt}{SR:oz}{a b e:Expr}{p q:Pos}{w x:VI}(nc:hG e=false)(k1:GE c e ρ A K X λA₁ K₁ X₁ u=>Nx A A₁ ρ (GV c a ρ A₁ K₁ X₁ w∧GV c b ρ A₁ K₁ X₁ x∧GI c.W w x u A₁ K₁ X₁ λK₂ X₂=>GS c l ρ A₁ K₂ X₂ SR)):GS c (.Assign [.Subscript a b q] e p::l) ρ A K X SR:=
 ke rfl (re nc) (λ_=>rfl) λB env h Q o I kq=>k1 o I λA₁ K₁ X₁ u v h' ev I' z=>kq A₁ K₁ X₁ u v h' ev I' ⟨z.e,r7 z.k.1 z.k.2.1 z.k.2.2⟩
theorem F4 (A:Id→Addr)(l:List (Addr×Int×Int))(c:Addr)(q s:Int):dL A ((l.map λp=> .adr p.1)++[.adr c])=(l++[(c,q,s)]).map λp=>V.ref p.1:=by
 unfold dL
 rw [List.map_append,List.map_append,List.map_map];rfl
theorem Es {r:Nat}{w:ao}{ti to:Bool}(on:K.on=true)(hr:r<K.nr)(hw:K.world=some w)(hi:AS (K.row r).inn=some ti)(ho:AS (K.row r).out=some to)(hl:(K.row r).left.length≤100000)(ht:w.told.length≤1000)(k:PE W m A K X r w ti to R):
  GC W (m+1) eF [.ref .calls,.ref (.row r),.ref .world] A K X R:=by
 refine aH w3 rfl rfl (dh λwf=>mU rfl rfl (aO (by ac_rfl) (by ac_rfl) rfl (bj (bt hr rfl))) ?_)
 have hp:=wf.rowp r hr
 refine fO (nK (b8 (aO (by ac_rfl) (by ac_rfl) rfl (bj (bt hr rfl))) (by ac_rfl) rfl (gc ho)) λ_=>b8 (aO (by ac_rfl) (by ac_rfl) rfl (bj (bt hr rfl))) (by ac_rfl) rfl qu) (λq=> ?_) λq=> ?_
 ·have q:=an q
  refine dw rfl (f8 rfl ki rfl (by and_intros) (aM ky ((k.k1 (by cases to;rfl;cases q.1) (bne_iff_ne.mp q.2)).at_ λK₁ X₁ u z=>⟨rfl,ar (ar z)⟩)))
 ·have q1:to=false→(K.row r).rest=[]:=λe=>cb q (by rw [e];rfl)
  refine fO (nK (b8 (aO (by ac_rfl) (by ac_rfl) rfl (bj (bt hr rfl))) (by ac_rfl) rfl (gF hi)) λ_=>b8 (aO (by ac_rfl) (by ac_rfl) rfl (bj (bt hr rfl))) (by ac_rfl) rfl qu) (λq2=> ?_) λq2=> ?_
  ·have q2:=an q2
   have k:=k.k2 q1 q2.1 (bne_iff_ne.mp q2.2)
   refine ke rfl (λ_ _=>rfl) (mc rfl) (l0 (gg (us:=[.bytes (cut (K.row r).left none (some (K.row r).size)),.bytes (cut (K.row r).left (some (K.row r).size) none)]) (aw (ua (aO (by ac_rfl) (by ac_rfl) rfl (bj (bt hr rfl))) Bn (By (aO (by ac_rfl) (by ac_rfl) rfl (bj (bt hr rfl)))) hl rfl) rfl (aw (ua (aO (by ac_rfl) (by ac_rfl) rfl (bj (bt hr rfl))) (By (aO (by ac_rfl) (by ac_rfl) rfl (bj (bt hr rfl)))) Bn hl rfl) rfl aK)) ⟨Nat.le_of_ble_eq_true rfl,λt ht=>⟨rfl,Bd (g5 (us:=[.bytes (cut (K.row r).left none (some (K.row r).size)),.bytes (cut (K.row r).left (some (K.row r).size) none)]) (H.put_same ..)) (dS rfl rfl (λ_=>⟨rfl,rfl⟩) (r7 (by ac_rfl) (by ac_rfl) (qo hr (qi ..) hp ⟨rfl,dS rfl rfl (λ_=>⟨rfl,rfl⟩) (r7 (by ac_rfl) (by ac_rfl) (qo (p:=((K.row r).wRest (cut (K.row r).left none (some (K.row r).size))).wLeft (cut (K.row r).left (some (K.row r).size) none)) hr ?_ hp ⟨rfl,jf (mj (ai ht) ?_)⟩))⟩)))⟩⟩))
   ·rw [kF];exact DU ..
   ·rw [kk]
    exact dw rfl (f8 rfl ki rfl (by and_intros) (aM ky (k.at_ λK₁ X₁ u z=>⟨rfl,ar (ar (ar z))⟩)))
  ·refine fO (b8 (aO (by ac_rfl) (by ac_rfl) rfl (bj (bt hr rfl))) (by ac_rfl) rfl (gF hi)) (λq3=> ?_) λq3=>fO (nK (Ap (λ_=>rfl) (aO (by ac_rfl) (by ac_rfl) rfl (bj (gD hw rfl)))) λ_=>b8 (aO (by ac_rfl) (by ac_rfl) rfl (bj (bt hr rfl))) (by ac_rfl) rfl (gF ho)) (λq4=> ?_) λq4=> ?_
   ·refine dw rfl (aG (by ac_rfl) rfl (aJ gt (j4 on) rfl) rfl rfl (aw (by ac_rfl) rfl (aw (aO (by ac_rfl) (by ac_rfl) rfl (bj (bt hr rfl))) rfl aK)) (aM gm ((k.k3 q1 q3 (cb q2 q3)).at_ λK₁ X₁ u z=>⟨rfl,ar (ar (ar (ar z)))⟩)))
   ·have q4:=an q4
    refine cE rfl rfl (aG (by ac_rfl) rfl (aJ k9 (j4 on) rfl) rfl rfl (by and_intros) (aM kb λh Q I kq=>k.k4 q3 q4.1 q4.2 I λA₁ K₁ X₁ u h' I' zz=>kq A₁ K₁ X₁ u h' I' (bq λzq=> ?_)))
    rcases zz with ⟨a,c,q,s,eu,hc,hw1,sb,z⟩
    apply zq;clear zq
    subst A₁ u
    refine ⟨rfl,fL (DL rfl (zA (cR (u:= .adr w.toldA) (aO (by ac_rfl) (by ac_rfl) rfl (bj (gD hw1 rfl))) ⟨rfl,Iu (ap (b8 (by ac_rfl) (by ac_rfl) rfl (gF rfl)) (by rfl)) (gk (gg (us:=[.adr c]) (by and_intros) ⟨Nat.le_of_ble_eq_true rfl,λd hd=>⟨rfl,Kn (ud hw1) (bR (us:=[.adr c]) (H.put_same ..)) (by rw [List.length_map];exact Nat.le_trans (Nat.succ_le_succ ht) (by decide)) λe he=>⟨rfl,by ac_rfl,by ac_rfl,GZ (c:=c) (p:=q) (s:=s) hw1 ((H.put_same ..).trans (congrArg (λl=>some (O.list l)) (F4 ..))) (aE (aE hc hd) he) (ar ⟨X,λa o ea=> ?_,ar (ar (ar (ar (z e))))⟩)⟩⟩⟩))⟩)))⟩
    have y:=aE (o':= .list (dL A [.adr c])) (sb a o ea) hd
    have na:a≠e:=λt=>by rw [t,he] at y;cases y
    unfold H.del
    rw [if_neg na]
    exact aE y he
   ·refine dw rfl (f8 rfl sJ rfl (by and_intros) (aM ug ((k.k5 q1 q3 (λe=>by cases to;rfl;rw [e] at q4;cases q4)).at_ λK₁ X₁ u z=>⟨rfl,ar (ar (ar (ar (ar z))))⟩)))
end
section
noncomputable def KS.rowHeld (K:KS)(r:Nat):Int:=(K.row r).left.length+(K.row r).rest.length - (if ((K.row r).rest !=[]&&(decide ((K.proc (K.row r).proc).state≠ .unused)&&decide ((K.proc (K.row r).proc).state≠ .zombie)))=true then (K.proc (K.row r).proc).progress else 0)
noncomputable def KS.waits (K:KS)(i:Nat):Int:=(K.pipe i).wc - (K.pipe i).rc
noncomputable def KS.heldTo (K:KS)(w:ao)(l:List Nat)(j:Nat):Int:=w.out.length+(l.map K.waits).sum+((List.range j).map K.rowHeld).sum
theorem EU {α:Type}(l:List Nat)(g:Nat→α):((List.range l.length).map λj=>g (l.getD j 0))=l.map g:=by
 have e:(List.range l.length).map (λj=>l.getD j 0)=l:=List.ext_getElem (by rw [List.length_map,List.length_range]) λi h1 h2=>by rw [List.getElem_map,List.getElem_range,cF h2]
 conv=>rhs;rw [←e,List.map_map]
 rfl
theorem nA (K:KS)(w:ao)(l:List Nat)(j:Nat):K.heldTo w l (j+1)=K.heldTo w l j+K.rowHeld j:=by
 unfold KS.heldTo
 rw [List.range_succ,List.map_append,List.sum_append,←Int.add_assoc]
 exact congrArg _ (Int.add_zero _)
variable {W:Wd}{A:Id→Addr}{K:KS}{X h:H}{R:SV VI}{n m:Nat}
theorem Ke {w:ao}{l:List Nat}(on:K.on=true)(hw:K.world=some w)(hls:K.lists=some l)(hl:∀i∈l,i<K.np)(hll:l.length≤1000)(hwo:w.out.length≤100000)(hro:∀r,r<K.nr→(K.row r).left.length≤100000∧(K.row r).rest.length≤100000):
  x9 W (n+2) fM [.ref .rowsL,.ref .pipesL,.ref .world] A K X (.int (K.heldTo w l K.nr)):=by
 refine fg vK rfl rfl (dh λwf=>cE rfl rfl (L4 (cR (ge rfl eH rfl (aw (aO (by ac_rfl) (by ac_rfl) rfl (bj (gD hw rfl))) rfl aK) (l9 hwo)) ⟨rfl,qM rfl ID rfl (bS (fF (by kernel_rfl) (iO rfl (by ac_rfl) rfl (uC hls) ⟨rfl,λacc hacc=>IQ (λj=> .int (K.waits (l.getD j 0))) (λj=> .ref (.pipe (l.getD j 0))) (N:=l.length) ((List.length_map ..).trans (List.length_map ..)) (Nat.le_trans hll (by decide)) (λys h I=> ?_) (λi Z hi RV r=>cG ?_ r) rfl rfl (λi ys hi=> ?_) ?_⟩)) rfl) λ_ _=>⟨_,.inr (.inl rfl),aI⟩⟩)))
 ·exact (uC (W:=W) (A:=A) hls I).elim λa e=>by have:=e.1;cases this;exact e.2
 ·rw [List.getElem?_map,List.getElem?_eq_getElem hi,cF hi];rfl
 ·have hp:l.getD i 0<K.np:=by rw [cF hi];exact hl _ (List.getElem_mem hi)
  exact iz (aL rfl rfl rfl rfl) rfl (aJ eO (cC hp rfl) rfl) rfl rfl aK (i5 eV (jE hp rfl))
 ·refine JI (IM (ns:=l.map K.waits) (bR (us:=(l.map K.waits).map .int) ((H.put_same ..).trans (congrArg (λl=>some (O.list l)) (by rw [EU l (λi=>VI.int (K.waits i)),List.map_map];rfl))))) ⟨rfl,.mk _ gG ⟨rfl,?_⟩⟩
  have sb:=ai (o:= .list (dL A ((List.range l.length).map λj=> .int (K.waits (l.getD j 0))))) hacc
  generalize X.put acc _=Y at sb
  have e0:(w.out.length:Int)+(l.map K.waits).sum=K.heldTo w l 0:=(Int.add_zero _).symm
  rw [e0]
  refine yE (α:=KV) (N:=K.nr) (sr:= .list (A .rowsL) _) (λ_ _=>K) (λ_ _=>Y) (λj y=>("rows",.ref .rowsL)::("pipes",.ref .pipesL)::("world",.ref .world)::("held",.int (K.heldTo w l j))::y) [] rfl rfl rfl (iO rfl (by ac_rfl) rfl (lK hls) ⟨rfl,rfl,rfl,rfl⟩) ((List.length_map ..).trans ((List.length_map ..).trans List.length_range)) (λj y h I=> ?_) (λj=> .ref (.row j)) (λj y hj=>cG (gC hj) ⟨rfl,rfl,rfl,rfl⟩) (λj y hj=> ?_) λy=>bX (by ac_rfl) ⟨⟨rfl,rfl⟩,sb,rfl⟩
  ·exact (lK (W:=W) (A:=A) hls I).elim λa e=>by have:=e.1;cases this;exact e.2
  ·have ⟨l1,l2⟩:=hro j hj
   have hp:=wf.rowp j hj
   have ov:∀pos ρ,GV ⟨W,n+1,Hd.fS (Hd.stm 44),true⟩ (.Name "one" pos) (("rows",.ref .rowsL)::("pipes",.ref .pipesL)::("world",.ref .world)::("held",ρ)::aU "one" (.ref (.row j)) y) A K Y (.ref (.row j)):=λ_ _=>cw (aP ..) rfl rfl rfl
   refine dQ rfl (mU rfl rfl (j0 (j0 (by ac_rfl) (ge rfl eH rfl (aw (aO (ov _ _) (by ac_rfl) rfl (bj (bt hj rfl))) rfl aK) (l9 l1)) gG) (ge rfl eH rfl (aw (aO (ov _ _) (by ac_rfl) rfl (bj (bt hj rfl))) rfl aK) (l9 l2)) gG) (fO (nK (b8 (aO (ov _ _) (by ac_rfl) rfl (bj (bt hj rfl))) (by ac_rfl) rfl qu) λ_=>Ap (λ_=>rfl) (iz (aO (ov _ _) (by ac_rfl) rfl (bj (bt hj rfl))) rfl (aJ kP (bB on hp rfl) rfl) rfl rfl aK (i5 kB (xZ on hp rfl)))) (λq=> ?_) λq=>ar (ar ⟨rfl,aU "one" (.ref (.row j)) y,rfl,rfl,?_⟩)))
   ·refine mU rfl rfl (j0 (by ac_rfl) (bU (aO (ov _ _) (by ac_rfl) rfl (bj (bt hj rfl))) rfl (bB on hp rfl) rfl) s9) (ar (ar ⟨rfl,aU "one" (.ref (.row j)) y,rfl,rfl,?_⟩))
    have:K.heldTo w l (j+1)=K.heldTo w l j+(K.row j).left.length+(K.row j).rest.length - (K.proc (K.row j).proc).progress:=by
     rw [nA];unfold KS.rowHeld;rw [if_pos q];lia
    rw [this];rfl
   ·have:K.heldTo w l (j+1)=K.heldTo w l j+(K.row j).left.length+(K.row j).rest.length:=by
     rw [nA];unfold KS.rowHeld;rw [q,if_neg Bool.false_ne_true];lia
    rw [this];rfl
end
section
variable {W:Wd}{A:Id→Addr}{K:KS}{X h:H}{R:SV VI}{n m:Nat}
theorem HO {f:Nat}(hf:f<K.nf)(k:R A (K.setFile f ((K.file f).wHold ((K.file f).holders+1))) X (.ref (.file f))):GC W (n+1) cq [.ref .ft,.ref (.file f)] A K X R:=
 aH m9 rfl rfl (rk (by ac_rfl) (gB hf rfl) rfl (by ac_rfl) mX (zu (p':=(K.file f).wHold ((K.file f).holders+1)) hf rfl rfl rfl (λw=>w.fpipe f hf) (bX (by ac_rfl) k)))
theorem wN:(K.opn.map λi=>VI.ref (.file i)).length=K.opn.length:=List.length_map ..
theorem H5 (on:K.on=true):x9 W (n+1) cx [.ref .ft] A K X (.int K.opn.length):=
 fg lA rfl rfl (bX (ge rfl eH rfl (by and_intros) (jj (oN on))) ⟨⟨rfl,rfl⟩,λ_ _ e=>e,by rw [wN];rfl⟩)
theorem nM {q:Int}(on:K.on=true)(hq:K.opn.length+q≤10):x9 W (n+1) bH [.ref .ft,.int q] A K X .none:=
 fg j9 rfl rfl (da (ap (b8 (j0 (ge rfl eH rfl (by and_intros) (jj (oN on))) (by ac_rfl) gG) (by ac_rfl) rfl wO) (decide_eq_false (by rw [wN];exact Int.not_lt.mpr hq))) (ar ⟨⟨rfl,rfl⟩,λ_ _ e=>e,rfl⟩))
end
section
variable {W:Wd}{A:Id→Addr}{K:KS}{X h:H}{R:SV VI}{n m:Nat}
theorem u4 {f:Nat→Id}:∀o:Option Nat,AS (eY f o)=some o.isNone
 |none=>rfl
 |some _=>rfl
noncomputable def KS.frees (K:KS)(d:Nat):List Nat:=(List.range 6).filter λj=>((K.desc d).getD j none).isNone
theorem Jo {d:Nat}(hd:d<K.nd):x9 W (n+1) cf [.ref (.desc d)] A K X (.int (K.frees d).length):=by
 refine fg kJ rfl rfl (dh λw=>kN (qM rfl eH rfl (bS (fF (by kernel_rfl) (iO rfl (by ac_rfl) rfl (m6 hd) ⟨rfl,λacc hacc=>pM (λj=>((K.desc d).getD j none).isNone) (λj=>eY .file ((K.desc d).getD j none)) (λj=>eY .file ((K.desc d).getD j none)) (N:=6) ((List.length_map ..).trans ((List.length_map ..).trans (w.six d hd))) (by decide) (λys h I=>I.get (.slots d) _ (cU hd)) (λi Z hi RV r=>cG ?_ r) rfl rfl (λi ys hi=>b8 (aL rfl rfl rfl rfl) (by ac_rfl) rfl (gF (u4 _))) (λi ys hi q=>aL rfl rfl rfl rfl) ?_⟩)) rfl) λ_ _=>⟨_,.inr (.inl rfl),aI⟩))
 ·have six:=w.six d hd
  unfold KS.slotsI
  rw [List.getElem?_map,List.getElem?_eq_getElem (by rw [six];exact hi),cF (by rw [six];exact hi)];rfl
 ·refine JI (jj (bR (H.put_same ..))) ⟨rfl,⟨rfl,rfl⟩,ai hacc,?_⟩
  rw [List.length_map];rfl
end
section
variable {W:Wd}{A:Id→Addr}{K:KS}{X h:H}{R:SV VI}{n m:Nat}
theorem LK {C fI:Addr}{us:List VI}(ok:∀P,fm (Hd.KK P) C fI=true)(k:∀a d,X a=none→X d=none→a≠d→GC W n fI (.adr a::us) A K ((X.put d (.attrs [])).put a (.inst C d)) λA₁ K₁ X₁ v=>v= .none∧R A₁ K₁ X₁ (.adr a)):GC W (n+1) C us A K X R:=λh Q I q=>
 CW.mono (HI (k:=11*n) (by rw [I.hW];exact ok _) λa d ha hd ne=>k a d (I.xnone ha) (I.xnone hd) ne ((I.new hd).new (by rw [H.put_ne ne];exact ha)) λA₁ K₁ X₁ u h' I' ⟨e,r⟩=>⟨by rw [e];rfl,q A₁ K₁ X₁ (.adr a) h' I' r⟩) (Nat.add_le_add_left (by decide:1≤11) (11*n)) λ_ _ q=>q
theorem Cm {a d C:Addr}{nm:Str}{v:VI}{kv kf:KV}{T:KS→H→Prop}(ok:∀P,yq P C kf=true)(hn:(kf.lookup nm).isSome=true)(h1:X a=some (.inst C d))(h2:X d=some (.attrs (dT A kv)))(hl:Nat.ble kv.length 800=true)(k:T K (X.put d (.attrs (dT A (aU nm v kv))))):
  GT W (.adr a) nm v A K X T:=λB h o w Q I eo ew q=>by
 obtain ⟨z,hz⟩:=Option.isSome_iff_exists.mp hn
 have s:=(an (gO (ok W.w.params) hz)).2
 have ln:(dT A kv).length≤800:=by unfold dT;rw [List.length_map];exact Nat.le_of_ble_eq_true hl
 rw [ah eo]
 refine qr (I.oth a _ h1).1 (I.oth d _ h2).1 (by rw [I.hW];exact s) ln ?_
 rw [ew,db]
 exact q _ _ _ (I.side h2 nofun) k
end
section
variable {W:Wd}{A:Id→Addr}{K:KS}{X h:H}{R:SV VI}{n m:Nat}
theorem JE {X:H}{a d:Addr}{i o o':O}(ne:a≠d):((X.put d o).put a i).put d o'=(X.put d o').put a i:=by
 funext x;unfold H.put
 by_cases e:x=d
 ·rw [if_pos e,e,if_neg (Ne.symm ne),if_pos rfl]
 ·rw [if_neg e]
  by_cases q:x=a
  ·rw [if_pos q,if_pos q]
  ·rw [if_neg q,if_neg q,if_neg e,if_neg e]
theorem C0 {X:H}{a d:Addr}{i o:O}(ne:a≠d):((X.put d o).put a i) d=some o:=by rw [H.put_ne ne.symm,H.put_same]
theorem CJ {X:H}{a c:Addr}{i o:O}(ne:a≠c):(X.put a i).put c o=(X.put c o).put a i:=by
 funext x;unfold H.put
 by_cases e:x=c
 ·rw [if_pos e,e,if_neg (Ne.symm ne),if_pos rfl]
 ·rw [if_neg e,if_neg e]
noncomputable def qR (A:Id→Addr)(a d C:Addr)(kv:KV)(X:H):H:=(X.put d (.attrs (dT A kv))).put a (.inst C d)
structure Nw (X:H)(a d:Addr):Prop where
 x:X a=none
 y:X d=none
 z:a≠d
variable {a d c C fI:Addr}{kv kf:KV}{us:List VI}
theorem gX {o:O}(hc:qR A a d C kv X c=none):(qR A a d C kv X).put c o=qR A a d C kv (X.put c o)∧X c=none∧(Nw X a d→Nw (X.put c o) a d):=by
 have e1:a≠c:=λe=>by subst e;unfold qR at hc;rw [H.put_same] at hc;cases hc
 have q:X.put d (.attrs (dT A kv)) c=none:=kI hc
 have e2:d≠c:=λe=>by subst e;rw [H.put_same] at q;cases q
 refine ⟨?_,kI q,λw=>⟨by rw [H.put_ne e1];exact w.x,by rw [H.put_ne e2];exact w.y,w.z⟩⟩
 unfold qR
 rw [CJ e1,CJ e2]
theorem iq (ok:∀P,fm (Hd.KK P) C fI=true)(k:∀a d,Nw X a d→([]:KV).length≤0→GC W n fI (.adr a::us) A K (qR A a d C [] X) λA₁ K₁ X₁ v=>v= .none∧R A₁ K₁ X₁ (.adr a)):GC W (n+1) C us A K X R:=
 LK ok λa d ha hd ne=>k a d ⟨ha,hd,ne⟩ (Nat.le_refl 0)
theorem pf {nm:Str}{v:VI}:∀{kv:KV}{l:Nat},kv.length≤l→(aU nm v kv).length≤l+1
 |[],_,_=>Nat.succ_le_succ (Nat.zero_le _)
 |(k,x)::r,l,h=>by
  show (if nm=k then (k,v)::r else (k,x)::aU nm v r).length≤l+1
  split
  ·exact Nat.le_succ_of_le h
  ·cases l with
   |zero=>cases h
   |succ l=>exact Nat.succ_le_succ (pf (Nat.le_of_succ_le_succ h))
theorem ak {nm:Str}{v:VI}{T:KS→H→Prop}{l:Nat}(ok:∀P,yq P C kf=true)(hn:(kf.lookup nm).isSome=true)(nw:Nw X a d)(hl:kv.length≤l)(l8:Nat.ble l 800=true)(k:(aU nm v kv).length≤l+1→T K (qR A a d C (aU nm v kv) X)):
  GT W (.adr a) nm v A K (qR A a d C kv X) T:=
 Cm ok hn (H.put_same ..) (C0 nw.z) (Nat.ble_eq_true_of_le (Nat.le_trans hl (Nat.le_of_ble_eq_true l8))) (by unfold qR;rw [JE nw.z];exact k (pf hl))
structure Bs (X₀ X:H)(L:List (Id×Addr×OK)):Prop where
 sub:ml X₀ X
 nd:(L.map λp=>p.2.1).Nodup
 get:∀p∈L,X₀ p.2.1=none∧X p.2.1=some p.2.2.o
variable {X₀:H}{L:List (Id×Addr×OK)}
theorem Bs.nil:Bs X X []:=⟨λ_ _ e=>e,List.nodup_nil,λp hp=>absurd hp List.not_mem_nil⟩
theorem Bs.put {o:OK}(B:Bs X₀ X L)(hc:X c=none)(x:Id):Bs X₀ (X.put c o.o) ((x,c,o)::L):=by
 have h0:X₀ c=none:=by
  cases q:X₀ c with
  |none=>rfl
  |some z=>rw [B.sub c z q] at hc;cases hc
 refine ⟨B.sub.trans (ai hc),?_,λp hp=> ?_⟩
 ·rw [List.map_cons,List.nodup_cons]
  refine ⟨λm=> ?_,B.nd⟩
  obtain ⟨p,hp,e⟩:=List.mem_map.mp m
  have:=(B.get p hp).2
  rw [e,hc] at this;cases this
 ·rcases List.mem_cons.mp hp with rfl|hp
  ·exact ⟨h0,H.put_same ..⟩
  ·exact ⟨(B.get p hp).1,aE (B.get p hp).2 hc⟩
theorem Bs.mk' (B:Bs X₀ X L)(nw:Nw X a d)(x y:Id):Bs X₀ (qR A a d C kv X) ((x,a,.inst C d)::(y,d,.attrs (dT A kv))::L):=
 (B.put (o:= .attrs (dT A kv)) nw.y y).put (o:= .inst C d) (by rw [H.put_ne nw.z];exact nw.x) x
theorem Bs.skip {o:O}(B:Bs X₀ X L)(hc:X c=none):Bs X₀ (X.put c o) L:=⟨B.sub.trans (ai hc),B.nd,λp hp=>⟨(B.get p hp).1,aE (B.get p hp).2 hc⟩⟩
theorem lU {p:VI}(B:Bs X₀ X L)(k:∀X' a d,Bs X₀ X' ((.calls,a,.inst ae d)::(.callsD,d,.attrs (dT A [(pK,p)]))::L)→R A K X' (.adr a)):GC W (n+2) ae [p] A K X R:=
 iq oj λa d nw hl=>aH ib rfl rfl (aC rfl (by ac_rfl) (by ac_rfl) (ak Ir rfl nw hl rfl λ_=>ar ⟨rfl,k _ a d (B.mk' nw ..)⟩))
end
section
theorem EI {c:Cn}{ρ:KV}{A:Id→Addr}{K:KS}{X:H}{p:Pos}{R:SV VI}(b:Bool)(k:∀d,X d=none→R A K (X.put d (match b with|true=> .idict []|false=> .attrs [])) (.adr d)):GE c (.Dict [] [] p) ρ A K X R:=λB env h Q o I q=>by
 refine EW.eq (arm_eval_Dict ..) (EW.ba ?_)
 show EW c.W B env (dT A ρ) (dictDisplay []) h _
 rw [show dictDisplay []=newDict by unfold dictDisplay;simp]
 refine EW.lift λfr s Rr=> ?_
 refine wpAny_newObj_type (s:=s) ?_ (Nat.zero_le _)
 have hn:h s.heap.objs.size=none:=Rr.new_none
 cases b with
 |true=>exact ⟨_,Rr.alloc (o:= .idict []) ⟨[],0,rfl,trivial,Nat.zero_le _,List.nodup_nil⟩,q A K _ (.adr _) _ _ rfl (I.new hn) (k _ (I.xnone hn))⟩
 |false=>exact ⟨_,Rr.alloc (o:= .attrs []) ⟨[],0,rfl,trivial,Nat.zero_le _,List.nodup_nil⟩,q A K _ (.adr _) _ _ rfl (I.new hn) (k _ (I.xnone hn))⟩
end
section
variable {W:Wd}{A:Id→Addr}{K:KS}{X h:H}{R:SV VI}{n m:Nat}{X₀:H}{L:List (Id×Addr×OK)}
theorem qp {s:Int}(B:Bs X₀ X L)(k:∀X' a d p,Bs X₀ X' ((.pt,a,.inst bf d)::(.ptD,d,.attrs (dT A [(eC,.int s),(s8,.int 0),(jL,.adr p)]))::(.ptP,p,.idict [])::L)→R A K X' (.adr a)):GC W (n+2) bf [.int s] A K X R:=
 iq sv λa d nw hl=>aH jv rfl rfl<|
  aC rfl (by ac_rfl) (by ac_rfl)<|ak (zZ · 0 0) rfl nw hl rfl<|λhl=>
  aC rfl (by ac_rfl) (by ac_rfl)<|ak (zZ · 0 0) rfl nw hl rfl<|λhl=>
  kh rfl (EI true λp hp=>⟨rfl,by ac_rfl,by
   refine bq λzq=> ?_
   obtain ⟨e1,e2,e3⟩:=gX (o:= .idict []) hp
   apply zq;clear zq
   show GT W _ _ _ A K ((qR A a d _ _ X).put p (.idict [])) _
   rw [e1]
   exact ak (zZ · 0 0) rfl (e3 nw) hl rfl (λhl=>ar ⟨rfl,k _ a d p ((B.put (o:= .idict []) e2 .ptP).mk' (e3 nw) ..)⟩)⟩)
theorem pL {p q:VI}(B:Bs X₀ X L)(k:∀X' a d l,Bs X₀ X' ((.ft,a,.inst aD d)::(.ftD,d,.attrs (dT A [(mN,.int 10),(jL,p),(jH,.none),(gz,.none),(gA,q),(u3,.int 16),(tM,.adr l)]))::(.openL,l,.list [])::L)→R A K X' (.adr a)):
  GC W (n+2) aD [.int 10,p,.none,.none,q,.int 16] A K X R:=
 iq u2 λa d nw hl=>aH jm rfl rfl<|
  da (BZ (ap (b8 (by ac_rfl) (by ac_rfl) rfl iW) rfl) (ap (b8 (by ac_rfl) (by ac_rfl) rfl iW) rfl))<|
  aC rfl (by ac_rfl) (by ac_rfl)<|ak (n7 · 0) rfl nw hl rfl<|λhl=>
  aC rfl (by ac_rfl) (by ac_rfl)<|ak (n7 · 0) rfl nw hl rfl<|λhl=>
  aC rfl (by ac_rfl) (by ac_rfl)<|ak (n7 · 0) rfl nw hl rfl<|λhl=>
  aC rfl (by ac_rfl) (by ac_rfl)<|ak (n7 · 0) rfl nw hl rfl<|λhl=>
  aC rfl (by ac_rfl) (by ac_rfl)<|ak (n7 · 0) rfl nw hl rfl<|λhl=>
  aC rfl (by ac_rfl) (by ac_rfl)<|ak (n7 · 0) rfl nw hl rfl<|λhl=>
  kh rfl (gk (gg (us:=[]) aK ⟨Nat.le_of_ble_eq_true rfl,λp hp=>⟨rfl,by ac_rfl,by
   refine bq λzq=> ?_
   obtain ⟨e1,e2,e3⟩:=gX (o:= .list []) hp
   apply zq;clear zq
   show GT W _ _ _ A K ((qR A a d _ _ X).put p (.list [])) _
   rw [e1]
   exact ak (n7 · 0) rfl (e3 nw) hl rfl (λhl=>ar ⟨rfl,k _ a d p ((B.put (o:= .list []) e2 .openL).mk' (e3 nw) ..)⟩)⟩⟩))
theorem yZ {p q:VI}(B:Bs X₀ X L)(k:∀X' a d l,Bs X₀ X' ((.parts,a,.inst fH d)::(.partsD,d,.attrs (dT A [(uh,p),(oS,q),(jH,.none),(tK,.none),(gz,.none),(gA,.adr l),(rO,.int 0)]))::(.dev2,l,.attrs [])::L)→R A K X' (.adr a)):
  GC W (n+2) fH [p,q] A K X R:=
 iq Ef λa d nw hl=>aH mD rfl rfl<|
  aC rfl (by ac_rfl) (by ac_rfl)<|ak nu rfl nw hl rfl<|λhl=>
  aC rfl (by ac_rfl) (by ac_rfl)<|ak nu rfl nw hl rfl<|λhl=>
  aC rfl (by ac_rfl) (by ac_rfl)<|ak nu rfl nw hl rfl<|λhl=>
  aC rfl (by ac_rfl) (by ac_rfl)<|ak nu rfl nw hl rfl<|λhl=>
  aC rfl (by ac_rfl) (by ac_rfl)<|ak nu rfl nw hl rfl<|λhl=>
  kh rfl (MH (ap (by subst_eqs) rfl) (EI false λp hp=>⟨rfl,by ac_rfl,by
   refine bq λzq=> ?_
   obtain ⟨e1,e2,e3⟩:=gX (o:= .attrs []) hp
   apply zq;clear zq
   show GT W _ _ _ A K ((qR A a d _ _ X).put p (.attrs [])) _
   rw [e1]
   exact ak nu rfl (e3 nw) hl rfl<|λhl=>aC rfl (by ac_rfl) (by ac_rfl)<|ak nu rfl (e3 nw) hl rfl<|λhl=>ar ⟨rfl,k _ a d p ((B.put (o:= .attrs []) e2 .dev2).mk' (e3 nw) ..)⟩⟩))
theorem qQ {r w:Bool}(k:∀a d,Nw X a d→R A K (qR A a d aY [(Cd,.str fy),(qh,.bool r),(qt,.bool w),(rq,.int 1),(lg,.int 0),(fy,.none),(Dr,.none),(zK,.int 0)] X) (.adr a)):
  GC W (n+2) aY [.str fy,.bool r,.bool w] A K X R:=
 iq vT λa d nw hl=>aH k8 rfl rfl<|
  aC rfl (by ac_rfl) (by ac_rfl)<|ak (fJ · ⟨r,w,0,0⟩) rfl nw hl rfl<|λhl=>
  aC rfl (by ac_rfl) (by ac_rfl)<|ak (fJ · ⟨r,w,0,0⟩) rfl nw hl rfl<|λhl=>
  aC rfl (by ac_rfl) (by ac_rfl)<|ak (fJ · ⟨r,w,0,0⟩) rfl nw hl rfl<|λhl=>
  aC rfl (by ac_rfl) (by ac_rfl)<|ak (fJ · ⟨r,w,0,0⟩) rfl nw hl rfl<|λhl=>
  aC rfl (by ac_rfl) (by ac_rfl)<|ak (fJ · ⟨r,w,0,0⟩) rfl nw hl rfl<|λhl=>
  aC rfl (by ac_rfl) (by ac_rfl)<|ak (fJ · ⟨r,w,0,0⟩) rfl nw hl rfl<|λhl=>
  aC rfl (by ac_rfl) (by ac_rfl)<|ak (fJ · ⟨r,w,0,0⟩) rfl nw hl rfl<|λhl=>
  aC rfl (by ac_rfl) (by ac_rfl)<|ak (fJ · ⟨r,w,0,0⟩) rfl nw hl rfl<|λhl=>ar ⟨rfl,k a d nw⟩
theorem mW (x y z:Id)(k:∀X' a d l,Bs X X' [(x,a,.inst am d),(y,d,.attrs (dT A [(mN,.int 6),(oR,.adr l)])),(z,l,.list (List.replicate 6 .none))]→R A K X' (.adr a)):GC W (n+2) am [.int 6] A K X R:=
 iq qd λa d nw hl=>aH iE rfl rfl<|
  da (ap (b8 (by ac_rfl) (by ac_rfl) rfl iW) rfl)<|
  aC rfl (by ac_rfl) (by ac_rfl)<|ak (u5 · 0) rfl nw hl rfl<|λhl=>
  kh rfl (zA (gk (gg (us:=[.none]) (by and_intros) ⟨Nat.le_of_ble_eq_true rfl,λg hg=>⟨rfl,cR (by ac_rfl) ⟨rfl,yU (x:= .none) (H.put_same ..) (by decide) (by decide) λl hz=>⟨rfl,by ac_rfl,by
   refine bq λzq=> ?_
   obtain ⟨e1,e2,e3⟩:=gX (o:= .list [.none]) hg
   apply zq;clear zq
   have hz:((qR A a d am _ X).put g (.list [.none])) l=none:=hz
   rw [e1] at hz
   refine bq λzq=> ?_
   obtain ⟨f1,f2,f3⟩:=gX (o:= .list (List.replicate 6 .none)) hz
   apply zq;clear zq
   show GT W _ _ _ A K (((qR A a d am _ X).put g (.list [.none])).put l (.list (List.replicate 6 .none))) _
   rw [e1,f1]
   exact ak (l:=1) (u5 · 0) rfl (f3 (e3 nw)) hl rfl (λhl=>ar ⟨rfl,k _ a d l ((((Bs.nil (X:=X)).skip e2).put (o:= .list (List.replicate 6 .none)) f2 z).mk' (f3 (e3 nw)) ..)⟩)⟩⟩⟩⟩)))
theorem AE {i s:Nat}(x y z:Id)(hs:1≤s)(hs':s≤4)(k:∀X' a d l,Bs X X' [(x,a,.inst bQ d),(y,d,.attrs (dT A [(rR,.int i),(eC,.int s),(u7,.adr l),(iC,.int 0),(hO,.int 0),(ju,.bool true),(iD,.bool true)])),(z,l,.barr (List.replicate s 0))]→R A K X' (.adr a)):
  GC W (n+2) bQ [.int i,.int s] A K X R:=
 iq H8 λa d nw hl=>aH oC rfl rfl<|
  da (ap (b8 (by ac_rfl) (by ac_rfl) rfl iW) (decide_eq_false λe=>absurd (Int.ofNat_lt.mp e) (Nat.not_lt.mpr hs)))<|
  aC rfl (by ac_rfl) (by ac_rfl)<|ak (h9 · 0 ⟨0,0,0,[],true,true⟩) rfl nw hl rfl<|λhl=>
  aC rfl (by ac_rfl) (by ac_rfl)<|ak (h9 · 0 ⟨0,0,0,[],true,true⟩) rfl nw hl rfl<|λhl=>
  kh rfl (f8 rfl nO rfl (by and_intros) (JT (Int.ofNat_lt.mpr hs) (Int.ofNat_le.mpr (Nat.le_trans hs' (by decide))) λl hz=>⟨rfl,by ac_rfl,by
   refine bq λzq=> ?_
   obtain ⟨e1,e2,e3⟩:=gX (o:= .barr (List.replicate s 0)) hz
   apply zq;clear zq
   show GT W _ _ _ A K ((qR A a d bQ _ X).put l (.barr (List.replicate s 0))) _
   rw [e1]
   exact ak (l:=2) (h9 · 0 ⟨0,0,0,[],true,true⟩) rfl (e3 nw) hl rfl<|λhl=>
    aC rfl (by ac_rfl) (by ac_rfl)<|ak (h9 · 0 ⟨0,0,0,[],true,true⟩) rfl (e3 nw) hl rfl<|λhl=>
    aC rfl (by ac_rfl) (by ac_rfl)<|ak (h9 · 0 ⟨0,0,0,[],true,true⟩) rfl (e3 nw) hl rfl<|λhl=>
    aC rfl (by ac_rfl) (by ac_rfl)<|ak (h9 · 0 ⟨0,0,0,[],true,true⟩) rfl (e3 nw) hl rfl<|λhl=>
    aC rfl (by ac_rfl) (by ac_rfl)<|ak (h9 · 0 ⟨0,0,0,[],true,true⟩) rfl (e3 nw) hl rfl<|λhl=>ar ⟨rfl,k _ a d l (((Bs.nil (X:=X)).put (o:= .barr (List.replicate s 0)) e2 z).mk' (e3 nw) ..)⟩⟩))
end
section
variable {W:Wd}{A:Id→Addr}{K:KS}{X h:H}{R:SV VI}{n m:Nat}{X₀:H}{L L':List (Id×Addr×OK)}{a d C:Addr}{kv kf:KV}
theorem Mw (v:VI)(P:Params):yq P aB [(lg,v)]=true:=by kernel_rfl
theorem Mk (ok:∀P,yq P C kv=true)(nw:Nw X a d):OI W A K (qR A a d C kv X) (.adr a) C d kv:=λh I=>⟨a,rfl,(I.oth a _ (H.put_same ..)).1,(I.oth d _ (C0 nw.z)).1,ok _⟩
theorem AQ {i:Nat}(nw:Nw X a d)(B:Bs X₀ X L)(k:∀X' r,Bs X₀ X' ((.proc i,a,.inst aB d)::(.procD i,d,.attrs (dT A (lD i (.empty r))))::(.regs i,r,.list (List.replicate 32 (.int 0)))::L)→R A K X' .none):
  GC W (n+1) cj [.adr a] A K (qR A a d aB [(lg,.int i)] X) R:=
 aH iP rfl rfl (
  aC rfl (by ac_rfl) (by ac_rfl)<|ak (bP · 0 (.empty 0)) rfl nw (Nat.le_refl 1) rfl<|λhl=>
  aC rfl (by ac_rfl) (by ac_rfl)<|ak (bP · 0 (.empty 0)) rfl nw hl rfl<|λhl=>
  aC rfl (by ac_rfl) (by ac_rfl)<|ak (bP · 0 (.empty 0)) rfl nw hl rfl<|λhl=>
  aC rfl (by ac_rfl) (by ac_rfl)<|ak (bP · 0 (.empty 0)) rfl nw hl rfl<|λhl=>
  kh rfl (zA (gk (gg (us:=[.int 0]) (by and_intros) ⟨Nat.le_of_ble_eq_true rfl,λg hg=>⟨rfl,cR (by ac_rfl) ⟨rfl,yU (x:= .int 0) (H.put_same ..) (by decide) (by decide) λr hr=>⟨rfl,by ac_rfl,by
   refine bq λzq=> ?_
   obtain ⟨e1,e2,e3⟩:=gX (o:= .list [.int 0]) hg
   apply zq;clear zq
   have hr:((qR A a d aB _ X).put g (.list [.int 0])) r=none:=hr
   rw [e1] at hr
   refine bq λzq=> ?_
   obtain ⟨f1,f2,f3⟩:=gX (o:= .list (List.replicate 32 (.int 0))) hr
   apply zq;clear zq
   show GT W _ _ _ A K (((qR A a d aB _ X).put g (.list [.int 0])).put r (.list (List.replicate 32 (.int 0)))) _
   rw [e1,f1]
   have nw:=f3 (e3 nw)
   have B:Bs X₀ ((X.put g (.list [.int 0])).put r (.list (List.replicate 32 (.int 0)))) _:=(B.skip (o:= .list [.int 0]) e2).put (o:= .list (List.replicate 32 (.int 0))) f2 (.regs i)
   generalize (X.put g (.list [.int 0])).put r (.list (List.replicate 32 (.int 0)))=Y at nw B
   exact ak (bP · 0 (.empty 0)) rfl nw hl rfl<|λhl=>
    aC rfl (by ac_rfl) (by ac_rfl)<|ak (bP · 0 (.empty 0)) rfl nw hl rfl<|λhl=>
    aC rfl (by ac_rfl) (by ac_rfl)<|ak (bP · 0 (.empty 0)) rfl nw hl rfl<|λhl=>
    aC rfl (by ac_rfl) (by ac_rfl)<|ak (bP · 0 (.empty 0)) rfl nw hl rfl<|λhl=>
    aC rfl (by ac_rfl) (by ac_rfl)<|ak (bP · 0 (.empty 0)) rfl nw hl rfl<|λhl=>
    aC rfl (by ac_rfl) (by ac_rfl)<|ak (bP · 0 (.empty 0)) rfl nw hl rfl<|λhl=>
    aC rfl (by ac_rfl) (by ac_rfl)<|ak (bP · 0 (.empty 0)) rfl nw hl rfl<|λhl=>
    aC rfl (by ac_rfl) (by ac_rfl)<|ak (bP · 0 (.empty 0)) rfl nw hl rfl<|λhl=>
    aC rfl (by ac_rfl) (by ac_rfl)<|ak (bP · 0 (.empty 0)) rfl nw hl rfl<|λhl=>
    aC rfl (by ac_rfl) (by ac_rfl)<|ak (bP · 0 (.empty 0)) rfl nw hl rfl<|λhl=>
    aC rfl (by ac_rfl) (by ac_rfl)<|ak (bP · 0 (.empty 0)) rfl nw hl rfl<|λhl=>
    aC rfl (by ac_rfl) (by ac_rfl)<|ak (bP · 0 (.empty 0)) rfl nw hl rfl<|λhl=>
    aC rfl (by ac_rfl) (by ac_rfl)<|ak (bP · 0 (.empty 0)) rfl nw hl rfl<|λhl=>
    aC rfl (by ac_rfl) (by ac_rfl)<|ak (bP · 0 (.empty 0)) rfl nw hl rfl<|λhl=>ar (k _ r (B.mk' nw ..))⟩⟩⟩⟩))))
theorem tX {i:Nat}(B:Bs X₀ X L)(k:∀X' a d r,Bs X₀ X' ((.proc i,a,.inst aB d)::(.procD i,d,.attrs (dT A (lD i (.empty r))))::(.regs i,r,.list (List.replicate 32 (.int 0)))::L)→R A K X' (.adr a)):GC W (n+3) aB [.int i] A K X R:=
 iq xz λa d nw hl=>aH kC rfl rfl (aC rfl (by ac_rfl) (by ac_rfl)<|ak (bP · 0 (.empty 0)) rfl nw hl rfl<|λhl=>
  dw rfl (aG (by ac_rfl) rfl (aJ g9 (Mk (Mw _) nw) rfl) rfl rfl aK (aM g6 (AQ nw B λX' r B'=>⟨rfl,ar ⟨rfl,k X' a d r B'⟩⟩))))
theorem Bs.perm (B:Bs X₀ X L)(p:L'.Perm L):Bs X₀ X L':=⟨B.sub,(p.map _).nodup_iff.mpr B.nd,λq hq=>B.get q (p.mem_iff.mp hq)⟩
theorem Bs.set {x:Id}{c:Addr}{o o':OK}(B:Bs X₀ X ((x,c,o)::L)):Bs X₀ (X.put c o'.o) ((x,c,o')::L):=by
 have hc:=(B.get _ (.head _)).1
 have nd:=B.nd
 rw [List.map_cons,List.nodup_cons] at nd
 refine ⟨λz y q=> ?_,by rw [List.map_cons,List.nodup_cons];exact nd,λp hp=> ?_⟩
 ·rw [H.put_ne λe=>by rw [e,hc] at q;cases q];exact B.sub z y q
 ·rcases List.mem_cons.mp hp with rfl|hp
  ·exact ⟨hc,H.put_same ..⟩
  ·obtain ⟨a,b⟩:=B.get p (.tail _ hp)
   exact ⟨a,by rw [H.put_ne λe=>nd.1 (by rw [←e];exact List.mem_map_of_mem (f:=λp=>p.2.1) hp)];exact b⟩
theorem vS {x y:Id}{nm:Str}{v:VI}{T:KS→H→Prop}(B:Bs X₀ X ((y,d,.attrs (dT A kv))::(x,a,.inst C d)::L))(ok:∀P,yq P C kf=true)(hn:(kf.lookup nm).isSome=true){l:Nat}(hl:kv.length≤l)(l8:Nat.ble l 800=true)
  (k:∀X',Bs X₀ X' ((y,d,.attrs (dT A (aU nm v kv)))::(x,a,.inst C d)::L)→(aU nm v kv).length≤l+1→T K X'):GT W (.adr a) nm v A K X T:=
 Cm ok hn (B.get _ (.tail _ (.head _))).2 (B.get _ (.head _)).2 (Nat.ble_eq_true_of_le (Nat.le_trans hl (Nat.le_of_ble_eq_true l8))) (k _ (B.set (o':= .attrs (dT A (aU nm v kv)))) (pf hl))
noncomputable def gW (A:Id→Addr)(pa:Nat→Addr×Addr×Addr):Nat→List (Id×Addr×OK)
 |0=>[]
 |i+1=>(.proc i,(pa i).1,.inst aB (pa i).2.1)::(.procD i,(pa i).2.1,.attrs (dT A (lD i (.empty (pa i).2.2))))::(.regs i,(pa i).2.2,.list (List.replicate 32 (.int 0)))::gW A pa i
theorem rf {pa:Nat→Addr×Addr×Addr}{t:Addr×Addr×Addr}{i:Nat}:∀j,j≤i→gW A (upd pa i t) j=gW A pa j
 |0,_=>rfl
 |j+1,h=>by
  show _::_::_::gW A (upd pa i t) j=_
  rw [rf j (Nat.le_of_succ_le h),av (Nat.ne_of_lt h)];rfl
structure PB (A:Id→Addr)(X₀:H)(L:List (Id×Addr×OK))(acc:Addr)(i:Nat)(ys:List VI)(X:H)(pa:Nat→Addr×Addr×Addr):Prop where
 y:ys=(List.range i).map λj=> .adr (pa j).1
 b:Bs X₀ X ((.places,acc,.list (dL A ys))::(gW A pa i++L))
theorem xU (B:Bs X₀ X L)(k:∀X' a d p pa,Bs X₀ X' ((.tableD,d,.attrs (dT A [(l6,.adr p),(iI,.int 1),(sT,.int 5),(bD,.none),(jK,.none)]))::(.table,a,.inst aV d)::(.places,p,.list (dL A ((List.range 6).map λj=> .adr (pa j).1)))::(gW A pa 6++L))→R A K X' (.adr a)):
  GC W (n+5) aV [.int 6] A K X R:=by
 refine iq C5 λa d nw hl=>aH mE rfl rfl (ke rfl (λ_ _=>rfl) (λ_=>rfl) (fF (by kernel_rfl) (CC rfl lC rfl (cR (by ac_rfl) ⟨6,rfl,by decide,rfl,λacc hacc=>⟨λi ys X₂=>∃pa,PB A X₀ ((.tableD,d,.attrs (dT A []))::(.table,a,.inst aV d)::L) acc i ys X₂ pa,⟨λ_=>(0,0,0),rfl,?_⟩,⟨λi ys X₂ hi ⟨pa,ey,b⟩=>⟨λ_ _=>trivial,jq ⟨⟨rfl,rfl⟩,dQ rfl ⟨⟨rfl,rfl⟩,(λ_ _ e=>nomatch e),Kg ⟨⟨rfl,rfl⟩,(λ_=> ?_),tf⟩⟩⟩⟩,λys X₂ ⟨pa,ey,b⟩=>⟨λ_ _=>trivial,rfl,zr (by ac_rfl) ?_⟩⟩⟩⟩))))
 ·exact ((B.mk' (A:=A) (C:=aV) (kv:=[]) nw .table .tableD).perm (.swap ..)).put (o:= .list (dL A [])) hacc _
 ·refine f8 rfl Bz rfl (by and_intros) (aM Au (tX b λX' a' d' r b'=>⟨⟨rfl,rfl⟩,(b'.get _ (.tail _ (.tail _ (.tail _ (.head _))))).2,?_,upd pa i (a',d',r),?_,?_⟩))
  ·rw [ey,List.length_map,List.length_range];exact Nat.le_trans (Nat.le_of_lt hi) (by decide)
  ·rw [List.range_succ,List.map_append,ey]
   have e:(List.range i).map (λj=>VI.adr (upd pa i (a',d',r) j).1)=(List.range i).map λj=>VI.adr (pa j).1:=List.map_congr_left λj hj=>by rw [av (Nat.ne_of_lt (List.mem_range.mp hj))]
   rw [e]
   show _=_++[VI.adr (upd pa i (a',d',r) i).1]
   rw [aj]
  ·refine Bs.set (o:= .list (dL A ys)) (o':= .list (dL A (ys++[.adr a']))) (b'.perm ?_)
   show List.Perm (_::(_::_::_::gW A (upd pa i (a',d',r)) i++_)) _
   rw [rf i (Nat.le_refl i),aj]
   exact (List.perm_middle (l₁:=[_,_,_])).symm
 ·subst ey
  have b:=b.perm (L':=(.tableD,d,.attrs (dT A []))::(.table,a,.inst aV d)::(.places,acc,.list (dL A ((List.range 6).map λj=> .adr (pa j).1)))::(gW A pa 6++L)) ((((List.perm_middle (l₁:=(.places,acc,.list (dL A ((List.range 6).map λj=>VI.adr (pa j).1)))::gW A pa 6)).trans (.cons _ List.perm_middle))).symm)
  exact vS b (r8 · 0 none) rfl hl rfl λX' b hl=>aC (u:= .int 1) rfl (by ac_rfl) (by ac_rfl)<|vS b (r8 · 0 none) rfl hl rfl λX' b hl=>aC (u:= .int 5) rfl (j0 (v:= .int 5) (by ac_rfl) (by ac_rfl) (s9 (i:=6) (j:=1))) (by ac_rfl)<|vS b (r8 · 0 none) rfl hl rfl λX' b hl=>aC (u:= .none) rfl (by ac_rfl) (by ac_rfl)<|vS b (r8 · 0 none) rfl hl rfl λX' b hl=>aC (u:= .none) rfl (by ac_rfl) (by ac_rfl)<|vS b (r8 · 0 none) rfl hl rfl λX' b hl=>ar ⟨rfl,k X' a d acc pa b⟩
end
section
variable {W:Wd}{A A':Id→Addr}{K K':KS}{X X₀ h:H}{L:List (Id×Addr×OK)}
theorem Bs.at {x y:Id}{a:Addr}{o o':OK}(B:Bs X₀ X L)(h1:(x,a,o)∈L)(h2:(y,a,o')∈L):x=y:=by
 have key:∀{L:List (Id×Addr×OK)},(L.map λp=>p.2.1).Nodup→(x,a,o)∈L→(y,a,o')∈L→x=y:=λ{L} nd h1 h2=>by
  induction L with
  |nil=>cases h1
  |cons p l ih=>
   rw [List.map_cons,List.nodup_cons] at nd
   have far:∀{q:Id×Addr×OK},q∈l→q.2.1≠p.2.1:=λhq e=>nd.1 (e▸List.mem_map_of_mem (f:=λp=>p.2.1) hq)
   rcases List.mem_cons.mp h1 with e1|m1
   ·rcases List.mem_cons.mp h2 with e2|m2
    ·exact congrArg (·.1) (e1.trans e2.symm)
    ·exact absurd (congrArg (·.2.1) e1) (far m2)
   ·rcases List.mem_cons.mp h2 with e2|m2
    ·exact absurd (congrArg (·.2.1) e2) (far m1)
    ·exact ih nd.2 m1 m2
 exact key B.nd h1 h2
theorem JC {K:KS}{A:Id→Addr}{y:Id}{o:O}(e:K.obj A y=some o):∃k,K.ob A y=some k∧o=k.o:=by
 refine bq λzq=> ?_
 obtain ⟨k,a,b⟩:=Option.map_eq_some_iff.mp e
 apply zq;clear zq
 exact ⟨k,a,b.symm⟩
theorem Is.adopt (I:Is W A K X h)(B:Bs X₀ X L)(old:∀y,K.obj A y≠none→K'.obj A' y=K.obj A y∧K'.at A' y=K.at A y)(new:∀y o,K.obj A y=none→K'.ob A' y=some o→(y,K'.at A' y,o)∈L)
  (hch:∀i,i<6→(K'.proc i).chan=(K.proc i).chan) (hw:∀w,K'.world=some w→∀p∈w.told,h p.1=some (.tup [.int p.2.1,.int p.2.2])) (wf:K'.Wf):Is W A' K' X₀ h:=by
 have nw:∀y,K'.obj A' y≠none→K.obj A y=none→∃o,(y,K'.at A' y,o)∈L∧K'.obj A' y=some o.o:=λy hy n=>by
  refine bq λzq=> ?_
  obtain ⟨z,hz⟩:=Option.ne_none_iff_exists'.mp hy
  obtain ⟨k,a,b⟩:=JC hz
  apply zq;clear zq
  exact ⟨k,new y k n a,hz.trans (congrArg some b)⟩
 have beside:∀{y o},(y,K'.at A' y,o)∈L→∀z,K.obj A z≠none→K.at A z≠K'.at A' y:=λm z hz=>(I.oth _ _ (B.get _ m).2).2 z hz
 refine ⟨I.hW,λy o ho=> ?_,λy z hy hz e=> ?_,λc o hc=> ?_,λi hi=>by rw [hch i hi];exact I.chan i hi,hw,wf⟩
 ·by_cases hy:K.obj A y=none
  ·obtain ⟨k,m,e⟩:=nw y (by rw [ho];nofun) hy
   rw [ho] at e
   rw [Option.some.inj e]
   exact (I.oth _ _ (B.get _ m).2).1
  ·obtain ⟨a,b⟩:=old y hy
   rw [b];exact I.get y o (a▸ho)
 ·by_cases ny:K.obj A y=none
  ·obtain ⟨_,my,_⟩:=nw y hy ny
   by_cases nz:K.obj A z=none
   ·obtain ⟨_,mz,_⟩:=nw z hz nz
    exact B.at my (e▸mz)
   ·exact absurd ((old z nz).2.symm.trans e.symm) (beside my z nz)
  ·by_cases nz:K.obj A z=none
   ·obtain ⟨_,mz,_⟩:=nw z hz nz
    exact absurd ((old y ny).2.symm.trans e) (beside mz y ny)
   ·exact I.inj y z ny nz ((old y ny).2.symm.trans (e.trans (old z nz).2))
 ·obtain ⟨a,b⟩:=I.oth c o (B.sub c o hc)
  refine ⟨a,λy hy e=> ?_⟩
  by_cases ny:K.obj A y=none
  ·obtain ⟨_,my,_⟩:=nw y hy ny
   have:=(B.get _ my).1
   rw [show (y,K'.at A' y,_).2.1=c from e,hc] at this;cases this
  ·exact b y ny ((old y ny).2.symm.trans e)
theorem b9 {n:Str}{v:VI}{l:KV}(e:den A' v=den A v)(t:dT A' l=dT A l):dT A' ((n,v)::l)=dT A ((n,v)::l):=by
 show (n,den A' v)::dT A' l=(n,den A v)::dT A l
 rw [e,t]
theorem oK {f:Nat→Id}{o:Option Nat}(g:∀i,o=some i→A' (f i)=A (f i)):den A' (eY f o)=den A (eY f o):=by
 cases o with
 |none=>rfl
 |some i=>exact congrArg V.ref (g i rfl)
theorem bE {x:Id}(g:A' x=A x):den A' (.ref x)=den A (.ref x):=congrArg V.ref g
theorem je {l:List VI}(g:∀v∈l,den A' v=den A v):dL A' l=dL A l:=List.map_congr_left g
theorem lc {α:Type}{a b:α}{l m:List α}(e:a=b)(t:l=m):a::l=b::m:=by rw [e,t]
theorem dq {d d':List (Str×V)}(e:d=d'):some (OK.attrs d)=some (OK.attrs d'):=by rw [e]
theorem tL {d d':List V}(e:d=d'):some (OK.list d)=some (OK.list d'):=by rw [e]
theorem Fg {α:Type}{p:Prop} [Decidable p] {a b c:α}(e:p→a=b):(if p then a else c)=if p then b else c:=by
 by_cases q:p
 ·rw [if_pos q,if_pos q,e q]
 ·rw [if_neg q,if_neg q]
structure CF (r:c6):Prop where
 i:∀x,r.inn≠ .ref x
 o:∀x,r.out≠ .ref x
theorem C2 {v:VI}(h:∀x,v≠ .ref x):den A' v=den A v:=by
 cases v with
 |ref x=>exact absurd rfl (h x)
 |_=>rfl
theorem Ik {r:c6}(h:CF r)(g:A' (.proc r.proc)=A (.proc r.proc)):dT A' (mw r)=dT A (mw r):=by
 have e1:=C2 (A':=A') (A:=A) h.i
 have e2:=C2 (A':=A') (A:=A) h.o
 have e3:=bE g
 obtain ⟨l,p,a,b,c,d,s,q,w⟩:=r
 cases l
 ·exact b9 e1 (b9 e2 (b9 rfl (b9 rfl (b9 e3 (b9 rfl (b9 rfl (b9 rfl rfl)))))))
 ·exact b9 e3 (b9 e1 (b9 e2 (b9 rfl (b9 rfl (b9 rfl (b9 rfl rfl))))))
theorem v8 (on:K.on=true)(w:K.Wf)(hl:K.lists=none)(hw:K.world=none)(hr:∀i,i<K.nr→CF (K.row i))(g:∀y,K.ob A y≠none→A' y=A y):∀y,K.ob A' y=K.ob A y:=by
 have sm:∀{o:OK},some o≠none:=nofun
 have pr:∀i,i<6→A' (.proc i)=A (.proc i):=λi q=>g _ (by show (if _ then _ else _)≠none;rw [if_pos ⟨on,q⟩];exact sm)
 have pi:∀i,i<K.np→A' (.pipe i)=A (.pipe i):=λi q=>g _ (by show (if _ then _ else _)≠none;rw [if_pos q];exact sm)
 have fi:∀i,i<K.nf→A' (.file i)=A (.file i):=λi q=>g _ (by show (if _ then _ else _)≠none;rw [if_pos q];exact sm)
 have de:∀i,i<K.nd→A' (.desc i)=A (.desc i):=λi q=>g _ (by show (if _ then _ else _)≠none;rw [if_pos q];exact sm)
 have st:∀n,(K.sob A)[n]?.join≠none→A' (.st n)=A (.st n):=λn q=>g (.st n) q
 have e0:∀n o,(K.sob1 A++K.sob2 A)[n]?.join=some o→A' (.st n)=A (.st n):=λn o q=>st n (by unfold KS.sob;rw [if_pos on,q];exact sm)
 intro y
 cases y with
 |proc i=>exact Fg λq=>by rw [g (.procD i) (by show (if _ then _ else _)≠none;rw [if_pos q];exact sm)]
 |procD i=>exact Fg λq=>dq (b9 rfl (b9 rfl (b9 rfl (b9 (oK λp e=>pr p (w.par i q.2 p e)) (b9 rfl (b9 rfl (b9 rfl (b9 (oK λp e=>de p (w.files i q.2 p e)) (b9 rfl (b9 rfl (b9 (by cases (K.proc i).chan<;>rfl) rfl)))))))))))
 |regs i=>rfl
 |pipe i=>exact Fg λq=>by rw [g (.pipeD i) (by show (if _ then _ else _)≠none;rw [if_pos q];exact sm)]
 |pipeD i=>exact Fg λq=>dq (b9 rfl (b9 rfl (b9 (bE (g (.ring i) (by show (if _ then _ else _)≠none;rw [if_pos q];exact sm))) rfl)))
 |ring i=>rfl
 |file i=>exact Fg λq=>by rw [g (.fileD i) (by show (if _ then _ else _)≠none;rw [if_pos q];exact sm)]
 |fileD i=>exact Fg λq=>dq (b9 rfl (b9 rfl (b9 rfl (b9 rfl (b9 rfl (b9 (bE (pi _ (w.fpipe i q))) rfl))))))
 |desc i=>exact Fg λq=>by rw [g (.descD i) (by show (if _ then _ else _)≠none;rw [if_pos q];exact sm)]
 |descD i=>exact Fg λq=>dq (b9 rfl (b9 (bE (g (.slots i) (by show (if _ then _ else _)≠none;rw [if_pos q];exact sm))) rfl))
 |slots i=>exact Fg λq=>tL (je λv hv=>by
   obtain ⟨o,ho,rfl⟩:=List.mem_map.mp hv
   exact oK λf e=>fi f (w.slot i q f (e▸ho)))
 |row i=>exact Fg λq=>dq (Ik (hr i q) (pr _ (w.rowp i q)))
 |st n=>
  have s1:K.sob1 A'=K.sob1 A:=lc (congrArg (λz=>some (OK.inst aV z)) (e0 1 _ rfl)) (lc (dq (b9 (bE (e0 2 _ rfl)) (b9 rfl (b9 rfl (b9 (oK λp e=>pr p (w.fst p e)) rfl))))) (lc (tL (je λv hv=>by
   obtain ⟨i,hi,rfl⟩:=List.mem_map.mp hv
   exact bE (pr i (List.mem_range.mp hi)))) (lc (congrArg (λz=>some (OK.inst bf z)) (e0 4 _ rfl)) (lc (dq (b9 rfl (b9 rfl (b9 (bE (e0 5 _ rfl)) rfl)))) (lc (congrArg (λz=>some (OK.idict z)) (List.map_congr_left λi hi=>by rw [pi i (w.tab i hi)])) (lc (congrArg (λz=>some (OK.inst aD z)) (e0 7 _ rfl))
   (lc (dq (b9 rfl (b9 (bE (e0 3 _ rfl)) (b9 rfl (b9 rfl (b9 (bE (e0 9 _ rfl)) rfl)))))) (lc (tL (je λv hv=>by
   obtain ⟨i,hi,rfl⟩:=List.mem_map.mp hv
   exact bE (fi i (w.opn i hi)))) (lc rfl (lc rfl (lc (congrArg (λz=>some (OK.inst fH z)) (e0 12 _ rfl)) (lc (dq (b9 (bE (e0 0 _ rfl)) (b9 (bE (e0 6 _ rfl)) (b9 rfl (b9 rfl (b9 rfl (b9 (bE (e0 10 _ rfl)) rfl))))))) (lc (congrArg (λz=>some (OK.inst ae z)) (e0 14 _ rfl)) (lc (dq (b9 (bE (e0 11 _ rfl)) rfl)) rfl))))))))))))))
  have s2:K.sob2 A'=K.sob2 A:=by
   have c:∀b,K.box=some b→A' .cells=A .cells:=λb e=>e0 20 (.list (b.cells.map V.int)) (by
    show ((K.sob1 A++K.sob2 A)[15+5]?).join=_
    unfold KS.sob2
    rw [e];rfl)
   unfold KS.sob2
   rw [hl,hw]
   refine lc rfl (lc rfl (lc rfl (lc rfl (lc ?_ (lc rfl rfl)))))
   cases e:K.box with
   |none=>rfl
   |some b=>exact congrArg (λz=>some (OK.list [.ref z,.int b.k,.int b.s])) (c b e)
  show ((K.sob A')[n]?.join)=(K.sob A)[n]?.join
  unfold KS.sob
  rw [s1,s2]
end
section
noncomputable def l5 (A:Id→Addr):List (Id×Addr)→Id→Addr
 |[],y=>A y
 |(x,a)::r,y=>if y=x then a else l5 A r y
variable {W:Wd}{A A':Id→Addr}{K K':KS}{X X₀ h:H}{L:List (Id×Addr×OK)}
theorem bY {x:Id}{a:Addr}{r:List (Id×Addr)}:l5 A ((x,a)::r) x=a:=if_pos rfl
theorem aN {x y:Id}{a:Addr}{r:List (Id×Addr)}(n:y≠x):l5 A ((x,a)::r) y=l5 A r y:=if_neg n
theorem Is.grow (I:Is W A K X h)(B:Bs X₀ X L)(oa:∀y,K.ob A' y=K.ob A y)(ag:∀y,K.ob A y≠none→A' y=A y)(hk:∀y,(∀p∈L,p.1≠y)→K'.ob A' y=K.ob A' y)(h0:∀p∈L,K.ob A p.1=none)
  (hn:∀p∈L,K'.ob A' p.1=some p.2.2∧K'.at A' p.1=p.2.1) (hp:K'.proc=K.proc) (ho:K'.openA=K.openA) (hw:K'.world=K.world) (wf:K'.Wf):Is W A' K' X₀ h:=by
 have far:∀y,K.ob A y≠none→∀p∈L,p.1≠y:=λy hy p m e=>hy (e▸h0 p m)
 refine I.adopt B (λy hy=> ?_) (λy o hy ho=> ?_) (λi hi=>by rw [hp]) (λw e=>I.told w (hw▸e)) wf
 ·have hy:K.ob A y≠none:=λe=>hy (congrArg (Option.map OK.o) e)
  refine ⟨congrArg (Option.map OK.o) ((hk y (far y hy)).trans (oa y)),?_⟩
  cases y with
  |regs i=>show (K'.proc i).regs=_;rw [hp];rfl
  |st n=>
   show (if n=8 then K'.openA else if n=18 then K'.world.elim 0 (·.toldA) else A' (.st n))=if n=8 then K.openA else if n=18 then K.world.elim 0 (·.toldA) else A (.st n)
   rw [ho,hw,ag _ hy]
  |_=>exact ag _ hy
 ·by_cases m:∀p∈L,p.1≠y
  ·have e:K.ob A y=some o:=(oa y).symm.trans ((hk y m).symm.trans ho)
   unfold KS.obj at hy
   rw [e] at hy;cases hy
  ·obtain ⟨p,q⟩:=Classical.not_forall.mp m
   obtain ⟨mp,q⟩:=Classical.not_imp.mp q
   have e:=Decidable.not_not.mp q
   subst e
   obtain ⟨a,b⟩:=hn p mp
   rw [b,←Option.some.inj (a.symm.trans ho)]
   exact mp
noncomputable def KS.addPipe (K:KS)(p:ac):KS:={K with np:=K.np+1,pipe:=upd K.pipe K.np p}
noncomputable def KS.addFile (K:KS)(f:fX):KS:={K with nf:=K.nf+1,file:=upd K.file K.nf f}
noncomputable def KS.addDesc (K:KS):KS:={K with nd:=K.nd+1,desc:=upd K.desc K.nd (List.replicate 6 none)}
noncomputable def KS.addRow (K:KS)(r:c6):KS:={K with nr:=K.nr+1,row:=upd K.row K.nr r}
structure oY (K:KS):Prop where
 on:K.on=true
 li:K.lists=none
 wo:K.world=none
 rows:∀i,i<K.nr→CF (K.row i)
theorem Gl {α:Type}{i n:Nat}{a b c:α}(e:i≠n)(q:a=b):(if i<n+1 then a else c)=if i<n then b else c:=by
 rw [q]
 by_cases l:i<n
 ·rw [if_pos l,if_pos (Nat.lt_succ_of_lt l)]
 ·rw [if_neg l,if_neg λz=>(Nat.lt_succ_iff_lt_or_eq.mp z).elim l e]
theorem f1 {α:Type}{P:α→Prop}{a:α}{l:List α}(h:P a)(t:∀x∈l,P x):∀x∈a::l,P x:=List.forall_mem_cons.mpr ⟨h,t⟩
theorem f0 {α:Type}{P:α→Prop}:∀x∈([]:List α),P x:=λx h=>absurd h List.not_mem_nil
theorem uo {α:Type}{n:Nat}{a:α}:(if n<n then some a else none)=none:=if_neg (Nat.lt_irrefl n)
theorem HW {α:Type}{n:Nat}{a c:α}:(if n<n+1 then a else c)=a:=if_pos (Nat.lt_succ_self n)
theorem iT {i n:Nat}(h:i<n+1)(e:i≠n):i<n:=Nat.lt_of_le_of_ne (Nat.le_of_lt_succ h) e
theorem KS.Wf.addPipe {p:ac}(w:K.Wf)(hp:p.ring.length=p.size∧0<p.size∧p.size≤4):(K.addPipe p).Wf:=
 ⟨λi hi=>Nat.lt_succ_of_lt (w.fpipe i hi),w.slot,w.six,w.par,w.files,w.fst,λi hi=>Nat.lt_succ_of_lt (w.tab i hi),w.tabN,w.opn,λi hi=>cz (λp:ac=>p.ring.length=p.size∧0<p.size∧p.size≤4) (λ_=>hp) λe=>w.ring i (iT hi e),w.rowp⟩
theorem Is.addPipe {p:ac}{a d l:Addr}(I:Is W A K X h)(P:oY K)(hp:p.ring.length=p.size∧0<p.size∧p.size≤4)(hA:A'=l5 A [(.pipe K.np,a),(.pipeD K.np,d),(.ring K.np,l)])
  (B:Bs X₀ X [(.pipe K.np,a,.inst bQ d),(.pipeD K.np,d,.attrs (dT A [(rR,.int K.np),(eC,.int p.size),(u7,.adr l),(iC,.int p.rc),(hO,.int p.wc),(ju,.bool p.ro),(iD,.bool p.wo)])),(.ring K.np,l,.barr p.ring)]):Is W A' (K.addPipe p) X₀ h:=by
 have a1:A' (.pipe K.np)=a:=hA▸bY
 have a2:A' (.pipeD K.np)=d:=hA▸(aN (by nofun)).trans bY
 have a3:A' (.ring K.np)=l:=hA▸(aN (by nofun)).trans ((aN (by nofun)).trans bY)
 have ag:∀y,y≠ .pipe K.np→y≠ .pipeD K.np→y≠ .ring K.np→A' y=A y:=λy h1 h2 h3=>hA▸(aN h1).trans ((aN h2).trans (aN h3))
 have ag':∀y,K.ob A y≠none→A' y=A y:=λy hy=>ag y (λe=>hy (e▸uo)) (λe=>hy (e▸uo)) (λe=>hy (e▸uo))
 refine I.grow B (v8 P.on I.wf P.li P.wo P.rows ag') ag' (λy hy=> ?_) (f1 uo (f1 uo (f1 uo f0))) (f1 ⟨?_,a1⟩ (f1 ⟨?_,a2⟩ (f1 ⟨?_,a3⟩ f0))) rfl rfl rfl (I.wf.addPipe hp)
 ·have n1:=hy _ (.head _)
  have n2:=hy _ (.tail _ (.head _))
  have n3:=hy _ (.tail _ (.tail _ (.head _)))
  cases y with
  |pipe i=>exact Gl (λe=>n1 (by rw [e])) rfl
  |pipeD i=>
   have e:i≠K.np:=λe=>n2 (by rw [e])
   exact Gl e (by show some (OK.attrs (dT A' (oJ i (upd K.pipe K.np p i))))=_;rw [av e])
  |ring i=>
   have e:i≠K.np:=λe=>n3 (by rw [e])
   exact Gl e (by show some (OK.barr (upd K.pipe K.np p i).ring)=_;rw [av e])
  |_=>rfl
 ·exact HW.trans (congrArg (λz=>some (OK.inst bQ z)) a2)
 ·refine HW.trans ?_
  show some (OK.attrs (dT A' (oJ K.np (upd K.pipe K.np p K.np))))=_
  rw [aj]
  refine dq ?_
  unfold oJ
  show _=dT A [_,_,_,_,_,_,_]
  exact lc rfl (lc rfl (lc (congrArg (λz=>(u7,V.ref z)) a3) rfl))
 ·refine HW.trans ?_
  show some (OK.barr (upd K.pipe K.np p K.np).ring)=_
  rw [aj]
theorem KS.Wf.addFile {f:fX}(w:K.Wf)(hf:f.pipe<K.np):(K.addFile f).Wf:=
 ⟨λi hi=>cz (λp:fX=>p.pipe<K.np) (λ_=>hf) λe=>w.fpipe i (iT hi e),λi hi f q=>Nat.lt_succ_of_lt (w.slot i hi f q),w.six,w.par,w.files,w.fst,w.tab,w.tabN,λi hi=>Nat.lt_succ_of_lt (w.opn i hi),w.ring,w.rowp⟩
theorem Is.addFile {f:fX}{a d:Addr}{kv:KV}(I:Is W A K X h)(P:oY K)(hf:f.pipe<K.np)(hA:A'=l5 A [(.file K.nf,a),(.fileD K.nf,d)])(hk:dT A kv=dT A (vh f))
  (B:Bs X₀ X [(.file K.nf,a,.inst aY d),(.fileD K.nf,d,.attrs (dT A kv))]):Is W A' (K.addFile f) X₀ h:=by
 have a1:A' (.file K.nf)=a:=hA▸bY
 have a2:A' (.fileD K.nf)=d:=hA▸(aN (by nofun)).trans bY
 have ag:∀y,y≠ .file K.nf→y≠ .fileD K.nf→A' y=A y:=λy h1 h2=>hA▸(aN h1).trans (aN h2)
 have ag':∀y,K.ob A y≠none→A' y=A y:=λy hy=>ag y (λe=>hy (e▸uo)) (λe=>hy (e▸uo))
 refine I.grow B (v8 P.on I.wf P.li P.wo P.rows ag') ag' (λy hy=> ?_) (f1 uo (f1 uo f0)) (f1 ⟨?_,a1⟩ (f1 ⟨?_,a2⟩ f0)) rfl rfl rfl (I.wf.addFile hf)
 ·have n1:=hy _ (.head _)
  have n2:=hy _ (.tail _ (.head _))
  cases y with
  |file i=>exact Gl (λe=>n1 (by rw [e])) rfl
  |fileD i=>
   have e:i≠K.nf:=λe=>n2 (by rw [e])
   exact Gl e (by show some (OK.attrs (dT A' (vh (upd K.file K.nf f i))))=_;rw [av e])
  |_=>rfl
 ·exact HW.trans (congrArg (λz=>some (OK.inst aY z)) a2)
 ·refine HW.trans ?_
  show some (OK.attrs (dT A' (vh (upd K.file K.nf f K.nf))))=_
  rw [aj,hk]
  exact dq (b9 rfl (b9 rfl (b9 rfl (b9 rfl (b9 rfl (b9 (bE (ag _ nofun nofun)) rfl))))))
theorem KS.Wf.addDesc (w:K.Wf):K.addDesc.Wf:=
 ⟨w.fpipe,λi hi=>cz (λl:List (Option Nat)=>∀f,some f∈l→f<K.nf) (λ_ f q=>nomatch (List.mem_replicate.mp q).2) λe=>w.slot i (iT hi e),λi hi=>cz (λl:List (Option Nat)=>l.length=6) (λ_=>rfl) λe=>w.six i (iT hi e),w.par,λi hi d q=>Nat.lt_succ_of_lt (w.files i hi d q),w.fst,w.tab,w.tabN,w.opn,w.ring,w.rowp⟩
theorem Is.addDesc {a d l:Addr}(I:Is W A K X h)(P:oY K)(hA:A'=l5 A [(.desc K.nd,a),(.descD K.nd,d),(.slots K.nd,l)])
  (B:Bs X₀ X [(.desc K.nd,a,.inst am d),(.descD K.nd,d,.attrs (dT A [(mN,.int 6),(oR,.adr l)])),(.slots K.nd,l,.list (List.replicate 6 .none))]):Is W A' K.addDesc X₀ h:=by
 have a1:A' (.desc K.nd)=a:=hA▸bY
 have a2:A' (.descD K.nd)=d:=hA▸(aN (by nofun)).trans bY
 have a3:A' (.slots K.nd)=l:=hA▸(aN (by nofun)).trans ((aN (by nofun)).trans bY)
 have ag:∀y,y≠ .desc K.nd→y≠ .descD K.nd→y≠ .slots K.nd→A' y=A y:=λy h1 h2 h3=>hA▸(aN h1).trans ((aN h2).trans (aN h3))
 have ag':∀y,K.ob A y≠none→A' y=A y:=λy hy=>ag y (λe=>hy (e▸uo)) (λe=>hy (e▸uo)) (λe=>hy (e▸uo))
 refine I.grow B (v8 P.on I.wf P.li P.wo P.rows ag') ag' (λy hy=> ?_) (f1 uo (f1 uo (f1 uo f0))) (f1 ⟨?_,a1⟩ (f1 ⟨?_,a2⟩ (f1 ⟨?_,a3⟩ f0))) rfl rfl rfl I.wf.addDesc
 ·have n1:=hy _ (.head _)
  have n2:=hy _ (.tail _ (.head _))
  have n3:=hy _ (.tail _ (.tail _ (.head _)))
  cases y with
  |desc i=>exact Gl (λe=>n1 (by rw [e])) rfl
  |descD i=>exact Gl (λe=>n2 (by rw [e])) rfl
  |slots i=>
   have e:i≠K.nd:=λe=>n3 (by rw [e])
   exact Gl e (by show some (OK.list (dL A' ((upd K.desc K.nd (List.replicate 6 none) i).map (eY .file))))=_;rw [av e];rfl)
  |_=>rfl
 ·exact HW.trans (congrArg (λz=>some (OK.inst am z)) a2)
 ·refine HW.trans (dq ?_)
  show _=dT A [_,_]
  exact lc rfl (lc (congrArg (λz=>(oR,V.ref z)) a3) rfl)
 ·refine HW.trans ?_
  show some (OK.list (dL A' ((upd K.desc K.nd (List.replicate 6 none) K.nd).map (eY .file))))=_
  rw [aj];rfl
theorem Is.addRow {a:Addr}{r:c6}(I:Is W A K X h)(P:oY K)(hr:r.proc<6)(hn:CF r)(hA:A'=l5 A [(.row K.nr,a)])(B:Bs X₀ X [(.row K.nr,a,.attrs (dT A (mw r)))]):Is W A' (K.addRow r) X₀ h:=by
 have a1:A' (.row K.nr)=a:=hA▸bY
 have ag:∀y,y≠ .row K.nr→A' y=A y:=λy h1=>hA▸aN h1
 have ag':∀y,K.ob A y≠none→A' y=A y:=λy hy=>ag y (λe=>hy (e▸uo))
 have w:=I.wf
 refine I.grow B (v8 P.on I.wf P.li P.wo P.rows ag') ag' (λy hy=> ?_) (f1 uo f0) (f1 ⟨?_,a1⟩ f0) rfl rfl rfl ⟨w.fpipe,w.slot,w.six,w.par,w.files,w.fst,w.tab,w.tabN,w.opn,w.ring,λi hi=>cz (λp:c6=>p.proc<6) (λ_=>hr) λe=>w.rowp i (iT hi e)⟩
 ·have n1:=hy _ (.head _)
  cases y with
  |row i=>
   have e:i≠K.nr:=λe=>n1 (by rw [e])
   exact Gl e (by show some (OK.attrs (dT A' (mw (upd K.row K.nr r i))))=_;rw [av e])
  |st n=>
   show (KS.sob _ A')[n]?.join=(KS.sob _ A')[n]?.join
   have e:(K.addRow r).sob A'=K.sob A':=by
    unfold KS.sob KS.sob2
    show (if K.on=true then _ else _)++(Option.map _ K.lists::Option.map _ K.lists::_)=_++(Option.map _ K.lists::Option.map _ K.lists::_)
    rw [P.li];rfl
   rw [e]
  |_=>rfl
 ·refine HW.trans ?_
  show some (OK.attrs (dT A' (mw (upd K.row K.nr r K.nr))))=_
  rw [aj]
  exact dq (Ik hn (ag _ nofun))
end
section
noncomputable def fresh (K:KS):Id→Bool
 | .pipe i| .pipeD i| .ring i=>Nat.ble K.np i
 | .file i| .fileD i=>Nat.ble K.nf i
 | .desc i| .descD i| .slots i=>Nat.ble K.nd i
 | .row i=>Nat.ble K.nr i
 |_=>false
noncomputable def Ag (K:KS)(A A':Id→Addr):Prop:=∀y,fresh K y=false→A' y=A y
structure Up (K K':KS):Prop where
 p:K.np≤K'.np
 f:K.nf≤K'.nf
 d:K.nd≤K'.nd
 r:K.nr≤K'.nr
variable {W:Wd}{A A' A'':Id→Addr}{K K' K'':KS}{X h:H}{R:SV VI}{n m:Nat}
theorem Up.rfl':Up K K:=⟨Nat.le_refl _,Nat.le_refl _,Nat.le_refl _,Nat.le_refl _⟩
theorem Up.trans (a:Up K K')(b:Up K' K''):Up K K'':=⟨Nat.le_trans a.p b.p,Nat.le_trans a.f b.f,Nat.le_trans a.d b.d,Nat.le_trans a.r b.r⟩
theorem pn {a b:Nat}(h:b<a):Nat.ble a b=false:=by
 cases q:Nat.ble a b with
 |false=>rfl
 |true=>exact absurd (Nat.le_of_ble_eq_true q) (Nat.not_le.mpr h)
theorem LQ {a b:Nat}(e:Nat.ble a b=false):b<a:=Nat.not_le.mp λh=>by rw [Nat.ble_eq_true_of_le h] at e;cases e
theorem nb {b:Bool}(h:(!b)=true):b=false:=by cases b;rfl;cases h
theorem rQ {a b i:Nat}(h:a≤b)(e:Nat.ble a i=false):Nat.ble b i=false:=pn (Nat.lt_of_lt_of_le (LQ e) h)
theorem Up.fr (u:Up K K'):∀y,fresh K y=false→fresh K' y=false
 | .pipe _,e| .pipeD _,e| .ring _,e=>rQ u.p e
 | .file _,e| .fileD _,e=>rQ u.f e
 | .desc _,e| .descD _,e| .slots _,e=>rQ u.d e
 | .row _,e=>rQ u.r e
 | .proc _,_| .procD _,_| .regs _,_| .st _,_=>rfl
theorem Ag.trans (a:Ag K A A')(b:Ag K' A' A'')(u:Up K K'):Ag K A A'':=λy e=>(b y (u.fr y e)).trans (a y e)
theorem Ag.rfl':Ag K A A:=λ_ _=>rfl
noncomputable def lY (K:KS):VI→Bool
 | .ref x=> !fresh K x
 |_=>true
theorem yQ (g:Ag K A A'){v:VI}(h:lY K v=true):den A' v=den A v:=by
 cases v with
 |ref x=>exact congrArg V.ref (g x (nb h))
 |_=>rfl
theorem fK (g:Ag K A A'):∀{l:KV},(l.all λq=>lY K q.2)=true→dT A' l=dT A l
 |[],_=>rfl
 |(k,v)::l,h=>b9 (yQ g (an h).1) (fK g (an h).2)
theorem vO (g:Ag K A A'):∀{l:List VI},l.all (lY K)=true→dL A' l=dL A l
 |[],_=>rfl
 |v::l,h=>lc (yQ g (an h).1) (vO g (an h).2)
structure Ad (W:Wd)(A:Id→Addr)(K:KS)(X:H)(u:VI)(A':Id→Addr)(K':KS)(X':H)(u':VI):Prop where
 i:∀⦃h⦄,Is W A K X h→Is W A' K' X' h
 u:den A u=den A' u'
theorem Dg {f:Addr}{us:List VI}{X':H}(k:GC W n f us A K X λA₁ K₁ X₁ u=>∃A' K' X' u',Ad W A₁ K₁ X₁ u A' K' X' u'∧R A' K' X' u'):GC W n f us A K X R:=λh Q I q=>
 k I λA₁ K₁ X₁ u h' I' z=>z.elim λA' z=>z.elim λK' z=>z.elim λX' z=>z.elim λu' z=>z.1.u▸q A' K' X' u' h' (z.1.i I') z.2
theorem zv {c:Cn}{l:List Stmt}{ρ ρ':KV}{X':H}{SR:oz}(i:∀⦃h⦄,Is c.W A K X h→Is c.W A' K' X' h)(e:dT A' ρ'=dT A ρ)(k:GS c l ρ' A' K' X' SR):GS c l ρ A K X SR:=λB env h Q o I q=>e▸k o (i I) q
theorem MR {a d l:Addr}:Ag K A (l5 A [(.pipe K.np,a),(.pipeD K.np,d),(.ring K.np,l)]):=λy e=>
 (aN λq=>by rw [q] at e;exact absurd (e.symm.trans (Nat.ble_eq_true_of_le (Nat.le_refl _))) nofun).trans ((aN λq=>by rw [q] at e;exact absurd (e.symm.trans (Nat.ble_eq_true_of_le (Nat.le_refl _))) nofun).trans (aN λq=>by rw [q] at e;exact absurd (e.symm.trans (Nat.ble_eq_true_of_le (Nat.le_refl _))) nofun))
theorem LP {a d l:Addr}:Ag K A (l5 A [(.desc K.nd,a),(.descD K.nd,d),(.slots K.nd,l)]):=λy e=>
 (aN λq=>by rw [q] at e;exact absurd (e.symm.trans (Nat.ble_eq_true_of_le (Nat.le_refl _))) nofun).trans ((aN λq=>by rw [q] at e;exact absurd (e.symm.trans (Nat.ble_eq_true_of_le (Nat.le_refl _))) nofun).trans (aN λq=>by rw [q] at e;exact absurd (e.symm.trans (Nat.ble_eq_true_of_le (Nat.le_refl _))) nofun))
theorem BY {a d:Addr}:Ag K A (l5 A [(.file K.nf,a),(.fileD K.nf,d)]):=λy e=>
 (aN λq=>by rw [q] at e;exact absurd (e.symm.trans (Nat.ble_eq_true_of_le (Nat.le_refl _))) nofun).trans (aN λq=>by rw [q] at e;exact absurd (e.symm.trans (Nat.ble_eq_true_of_le (Nat.le_refl _))) nofun)
theorem IH {a:Addr}:Ag K A (l5 A [(.row K.nr,a)]):=λy e=>aN λq=>by rw [q] at e;exact absurd (e.symm.trans (Nat.ble_eq_true_of_le (Nat.le_refl _))) nofun
theorem An {s:Nat}(P:oY K)(hs:1≤s)(hs':s≤4)(k:∀A',Ag K A A'→R A' (K.addPipe ⟨s,0,0,List.replicate s 0,true,true⟩) X (.ref (.pipe K.np))):GC W (n+2) bQ [.int K.np,.int s] A K X R:=
 Dg (X':=X) (AE (.pipe K.np) (.pipeD K.np) (.ring K.np) hs hs' λX' a d l B=>⟨l5 A [(.pipe K.np,a),(.pipeD K.np,d),(.ring K.np,l)],_,X,.ref (.pipe K.np),⟨λh I=>I.addPipe (p:=⟨s,0,0,List.replicate s 0,true,true⟩) P ⟨List.length_replicate,hs,hs'⟩ rfl B,(congrArg V.ref bY).symm⟩,k _ MR⟩)
theorem rC (P:oY K)(k:∀A',Ag K A A'→R A' K.addDesc X (.ref (.desc K.nd))):GC W (n+2) am [.int 6] A K X R:=
 Dg (X':=X) (mW (.desc K.nd) (.descD K.nd) (.slots K.nd) λX' a d l B=>⟨l5 A [(.desc K.nd,a),(.descD K.nd,d),(.slots K.nd,l)],_,X,.ref (.desc K.nd),⟨λh I=>I.addDesc P rfl B,(congrArg V.ref bY).symm⟩,k _ LP⟩)
theorem Nf {d i f:Nat}(hd:d<K.nd)(hf:f<K.nf)(hi:i<6)(hs:(K.desc d).getD i none=none)(hb:∀j,j<i→((K.desc d).getD j none).isNone=false)(k:R A (K.setDesc d ((K.desc d).set i (some f))) X (.int i)):GC W (n+1) bO [.ref (.desc d),.ref (.file f)] A K X R:=by
 refine aH mf rfl rfl (dh λw=>xi (sr:= .range 6) (N:=6) (rho:=λy=>("self",.ref (.desc d))::("file",.ref (.file f))::y) (y0:=[]) (λj=>j≤i) rfl (CC rfl lC rfl (cR (by ac_rfl) ⟨6,rfl,by decide,rfl,rfl,rfl,rfl⟩)) rfl (λh I=>trivial) (Nat.zero_le _) (λj=> .int j) (λj hj RV r=>jq r) (λj y hj le=> ?_) λy le=>absurd le (Nat.not_le.mpr hi))
 have six:=w.six d hd
 have at_:(K.slotsI d)[(j:Int).toNat]?=some (eY .file ((K.desc d).getD j none)):=by
  unfold KS.slotsI
  rw [Int.toNat_natCast,List.getElem?_map,List.getElem?_eq_getElem (by rw [six];exact hj),cF (by rw [six];exact hj)];rfl
 refine dQ rfl (fO (t:=((K.desc d).getD j none).isNone) (b8 (aO (by ac_rfl) (cw (aP ..) rfl rfl rfl) rfl (iU (m6 hd) (Int.natCast_nonneg _) at_)) (by ac_rfl) rfl (gF (u4 _))) (λz=> ?_) λz=>ar (ar ⟨⟨rfl,rfl⟩,rfl,Nat.lt_of_le_of_ne le λe=> ?_,aU "number" (.int j) y,rfl⟩))
 ·have e:j=i:=Nat.le_antisymm le (Nat.le_of_not_lt λq=>by rw [hb j (Nat.lt_of_le_of_ne le λe=>by subst e;exact absurd q (Nat.lt_irrefl _))] at z;cases z)
  subst e
  exact tO rfl (by ac_rfl) (by ac_rfl) (cw (aP ..) rfl rfl rfl) (qx (o:=some f) hd hj rfl (λg e=>by cases e;exact hf) (bX (cw (aP ..) rfl rfl rfl) k))
 ·subst e;rw [hs] at z;cases z
noncomputable def KS.opnd (K:KS)(f:Nat):KS:={K with opn:=K.opn++[f]}
theorem KJ {j f:Nat}(on:K.on=true)(hf:f<K.nf)(hl:K.opn.length≤10)(r:R A (K.opnd f) X .none):GK W j (.builtin "list.append") [.adr K.openA,.ref (.file f)] A K X R:=λh I=>
 ⟨λ_ _=>⟨_,.inr (.inl rfl),aI⟩,λB env vars vs Q ro e q=>two (P:=λvs=>EW W B env vars (call (.builtin "list.append") vs []) h Q) e λv w ev ew=>by
  rw [ah ev]
  have z:(dL A (K.opn.map λi=> .ref (.file i))).length≤90000:=by
   rw [show (dL A (K.opn.map λi=> .ref (.file i))).length=K.opn.length from (List.length_map ..).trans (List.length_map ..)];exact Nat.le_trans hl (by decide)
  refine EW.lift ((mM (Q:=λz h'=>er z= .none∧Is W A (K.opnd f) X h') (I.st on (n:=8) rfl) z ⟨rfl,?_⟩).mono λz h' ⟨e,I'⟩=>q A (K.opnd f) X .none z h' e I' r)
  have e:dL A (K.opn.map λi=> .ref (.file i))++[er w]=dL A ((K.opn++[f]).map λi=> .ref (.file i)):=by
   rw [ew];unfold dL;rw [List.map_append,List.map_append];rfl
  rw [e]
  refine I.setSt (m:=8) (K':=K.opnd f) (o:= .list (dL A (K.opn.map λi=> .ref (.file i)))) (o':= .list (dL A ((K.opn++[f]).map λi=> .ref (.file i)))) (by unfold KS.sob;rw [if_pos on];rfl) (by unfold KS.sob;rw [if_pos on,show (K.opnd f).on=true from on];rfl) (λy hy=> ?_) (λ_=>rfl) (λ_ _=>rfl) (λw e p hp=>I.told w e p hp) {I.wf with opn:=λi hi=> ?_}
  ·cases y with
   |st n=>exact absurd rfl (hy n)
   |_=>rfl
  ·rcases List.mem_append.mp hi with q|q
   ·exact I.wf.opn i q
   ·cases List.mem_singleton.mp q;exact hf⟩
theorem Gw {f:Nat}(on:K.on=true)(hf:f<K.nf)(hl:K.opn.length+1≤10)(k:R A (K.opnd f) X (.ref (.file f))):GC W (n+2) cm [.ref .ft,.ref (.file f)] A K X R:=
 aH lq rfl rfl (dw rfl (cR (iz (by ac_rfl) rfl (aJ f7 (ma on) rfl) rfl rfl (by and_intros) (i5 f5 (nM on (Int.ofNat_le.mpr hl)))) ⟨rfl,dw rfl (aG (by ac_rfl) rfl (I3 (oN on)) rfl rfl (by and_intros) (KJ on hf (Nat.le_of_succ_le hl) ⟨rfl,bX (by ac_rfl) k⟩))⟩))
end
section
variable {W:Wd}{A A' A'':Id→Addr}{K K' K'':KS}{X h:H}{R:SV VI}{n m:Nat}
theorem Du {c:Cn}{l:List Expr}{ρ:KV}{us us':List VI}(k:Ct c l ρ A K X us)(e:us=us'):Ct c l ρ A K X us':=e▸k
theorem I6 {c:Cn}{x:Expr}{ρ:KV}{u u':VI}(k:GV c x ρ A K X u)(e:u=u'):GV c x ρ A K X u':=e▸k
noncomputable def KS.wMade (K:KS)(m:Nat):KS:={K with made:=m}
noncomputable def KS.madeP (K:KS)(s:Nat):KS:=((K.addPipe ⟨s,0,0,List.replicate s 0,true,true⟩).wTab (K.tab++[K.np])).wMade (K.np+1)
theorem uA (i:Int)(x:V):∀l:List (Int×V),(∀p∈l,p.1≠i)→Ar i x l=l++[(i,x)]
 |[],_=>rfl
 |(k,v)::r,h=>by
  show (if i=k then (k,x)::r else (k,v)::Ar i x r)=_
  rw [if_neg λe=>h _ (.head _) e.symm,uA i x r λp hp=>h p (.tail _ hp)];rfl
theorem Ji {i:Nat}{T:KS→H→Prop}(on:K.on=true)(hi:i<K.np)(hn:∀j∈K.tab,j≠i)(hl:K.tab.length≤800)(r:T (K.wTab (K.tab++[i])) X):GI W (.ref .ptP) (.int i) (.ref (.pipe i)) A K X T:=λB h o z w Q I eo ez ew q=>by
 rw [ah eo]
 refine FO (I.st on (n:=5) rfl) (by rw [List.length_map];exact hl) ez ?_
 rw [uA _ _ _ λp hp=>by
  obtain ⟨j,hj,e⟩:=List.mem_map.mp hp
  rw [←e]
  exact λe=>hn j hj (Int.ofNat.inj e),ew]
 have e:(K.tab.map λ(i:Nat)=>((i:Int),V.ref (A (.pipe i))))++[((i:Int),den A (.ref (.pipe i)))]=(K.tab++[i]).map λ(i:Nat)=>((i:Int),V.ref (A (.pipe i))):=by rw [List.map_append];rfl
 rw [e]
 refine q _ _ _ (I.setTabL on (λj hj=> ?_) ?_) r
 ·rcases List.mem_append.mp hj with q|q
  ·exact I.wf.tab j q
  ·cases List.mem_singleton.mp q;exact hi
 ·rw [List.nodup_append]
  exact ⟨I.wf.tabN,List.nodup_cons.mpr ⟨List.not_mem_nil,List.nodup_nil⟩,λa ha b hb e=>hn a ha (e.trans (List.mem_singleton.mp hb))⟩
theorem H1 {m:Nat}{v:VI}{T:KS→H→Prop}(on:K.on=true)(hv:v= .int m)(r:T (K.wMade m) X):GT W (.ref .pt) s8 v A K X T:=
 iH (BC on) rfl rfl λh I=>⟨K.wMade m,X,by
  subst hv
  refine I.setSt (m:=4) (K':=K.wMade m) (o:= .attrs (dT A (LE K.psize K.made))) (o':= .attrs (dT A (LE K.psize m))) (by unfold KS.sob;rw [if_pos on];rfl) (by unfold KS.sob;rw [if_pos on,show (K.wMade m).on=true from on];rfl) (λy hy=> ?_) (λ_=>rfl) (λ_ _=>rfl) (λw e p hp=>I.told w e p hp) {I.wf with}
  cases y with
  |st n=>exact absurd rfl (hy n)
  |_=>rfl,r⟩
theorem Lh {s:Nat}(P:oY K)(hs:K.psize=s)(s1:1≤s)(s4:s≤4)(hm:K.made=K.np)(tl:K.tab.length≤800)(k:∀A',Ag K A A'→R A' (K.madeP s) X (.ref (.pipe K.np))):GC W (n+3) cQ [.ref .pt] A K X R:=by
 have on:=P.on
 refine aH mC rfl rfl (dh λw=>cE rfl rfl (f8 rfl JM rfl (Du (by and_intros) (by rw [hs,hm])) (aM L8 (An P s1 s4 λA' ag=>⟨fK ag rfl,?_⟩))))
 have on:(K.addPipe ⟨s,0,0,List.replicate s 0,true,true⟩).on=true:=P.on
 have e:((K.addPipe ⟨s,0,0,List.replicate s 0,true,true⟩).made:Int)=(K.np:Int):=congrArg Int.ofNat hm
 refine tO rfl (by ac_rfl) (by ac_rfl) (I6 (by ac_rfl) (congrArg VI.int e)) (Ji on (Nat.lt_succ_self _) (λj hj=>Nat.ne_of_lt (w.tab j hj)) tl ?_)
 exact rk (by ac_rfl) (BC on) rfl (by ac_rfl) mX (H1 (m:=K.np+1) on (by show VI.int (((K.addPipe ⟨s,0,0,List.replicate s 0,true,true⟩).made:Int)+1)=_;rw [e];rfl) (bX (by ac_rfl) (k A' ag)))
end
section
variable {W:Wd}{A A' A'':Id→Addr}{K K' K'':KS}{X h:H}{R:SV VI}{n m:Nat}
noncomputable def KS.filed (K:KS)(p:Nat)(b:Bool):KS:=(K.addFile ⟨b,!b,1,p⟩).opnd K.nf
noncomputable def KS.filedN (K:KS)(p:Nat):Nat→KS
 |0=>K
 |i+1=>(K.filedN p i).filed p (i==0)
structure Pp (K:KS)(p i:Nat)(K':KS):Prop where
 nf:K'.nf=K.nf+i
 np:K'.np=K.np
 op:K'.opn.length=K.opn.length+i
 pre:oY K'
 up:Up K K'
theorem p9 (P:oY K)(p:Nat):∀i,Pp K p i (K.filedN p i)
 |0=>⟨rfl,rfl,rfl,P,.rfl'⟩
 |i+1=>by
  have I:=p9 P p i
  exact ⟨congrArg (· +1) I.nf,I.np,List.length_append.trans (congrArg (· +1) I.op),⟨I.pre.on,I.pre.li,I.pre.wo,I.pre.rows⟩,I.up.trans ⟨Nat.le_refl _,Nat.le_succ _,Nat.le_refl _,Nat.le_refl _⟩⟩
theorem aA {n:Str}{v:VI}{l:KV}(h1:lY K v=true)(h2:(l.all λq=>lY K q.2)=true):(((n,v)::l).all λq=>lY K q.2)=true:=by
 show (lY K v&&l.all λq=>lY K q.2)=true
 rw [h1,h2];rfl
theorem dJ {n:Str}{v:VI}(h1:lY K v=true):∀{l:KV},(l.all λq=>lY K q.2)=true→((aU n v l).all λq=>lY K q.2)=true
 |[],_=>aA h1 rfl
 |(k,w)::l,h=>by
  show ((if n=k then (k,v)::l else (k,w)::aU n v l).all λq=>lY K q.2)=true
  split
  ·exact aA h1 (an h).2
  ·exact aA (an h).1 (dJ h1 (an h).2)
theorem J3 (u:Up K K'){v:VI}(h:lY K v=true):lY K' v=true:=by
 cases v with
 |ref x=>show (!fresh K' x)=true;rw [u.fr x (nb h)];rfl
 |_=>rfl
theorem pZ (u:Up K K'):∀{l:KV},(l.all λq=>lY K q.2)=true→(l.all λq=>lY K' q.2)=true
 |[],_=>rfl
 |_::_,h=>aA (J3 u (an h).1) (pZ u (an h).2)
theorem KY {n:Str}{v:VI}{l l':KV}(e:den A' v=den A v)(t:dT A' l'=dT A l):dT A' ((n,v)::l')=dT A ((n,v)::l):=by
 show (n,den A' v)::dT A' l'=(n,den A v)::dT A l
 rw [e,t]
theorem G8 {n:Str}{u u':VI}{z:KV}(e:den A' u'=den A u)(t:dT A' z=dT A z):dT A' (aU n u' z)=dT A (aU n u z):=by
 rw [←db,←db,e,t]
theorem Dm {i:Nat}(h:i<K.nf):lY K (.ref (.file i))=true:=by
 show (!Nat.ble K.nf i)=true
 rw [pn h];rfl
theorem KP {i:Nat}(h:i<K.np):lY K (.ref (.pipe i))=true:=by
 show (!Nat.ble K.np i)=true
 rw [pn h];rfl
theorem LM {l:List Nat}{f:Nat→VI}(h:∀j∈l,lY K (f j)=true):(l.map f).all (lY K)=true:=by
 rw [List.all_eq_true]
 intro v hv
 obtain ⟨j,hj,rfl⟩:=List.mem_map.mp hv
 exact h j hj
noncomputable def pW (f i:Nat):List VI:=(List.range i).map λj=> .ref (.file (f+j))
structure PC (A₁:Id→Addr)(K₁:KS)(X:H)(p:Nat)(e d:Addr)(i:Nat)(A:Id→Addr)(K:KS)(X₂:H)(ρ:KV):Prop where
 ag:Ag K₁ A₁ A
 k:K=K₁.filedN p i
 x:X₂ e=some (.list (dL A (pW K₁.nf i)))
 t:X₂ d=some (.tup [.bool true,.bool false])
 sb:ml X X₂
 xe:X e=none
 rho:∃y:KV,ρ=(("self",.ref .ft)::("pipe",.ref (.pipe p))::("ends",.adr e)::y:KV)∧(y.all λq=>lY K q.2)=true
theorem Ki {i:Nat}(h:i<2):([VI.bool true,VI.bool false]:List VI)[i]?=some (.bool (i==0)):=by
 cases i with
 |zero=>rfl
 |succ i=>cases i with
  |zero=>rfl
  |succ i=>exact absurd h (Nat.not_lt.mpr (Nat.le_add_left 2 i))
theorem Ho (f i:Nat):pW f (i+1)=pW f i++[.ref (.file (f+i))]:=by
 unfold pW;rw [List.range_succ,List.map_append];rfl
theorem CS {f i:Nat}(h:f+i≤K.nf):(pW f i).all (lY K)=true:=LM λj hj=>Dm (Nat.lt_of_lt_of_le (Nat.add_lt_add_left (List.mem_range.mp hj) f) h)
noncomputable def KS.opened (K:KS)(s:Nat):KS:=(K.madeP s).filedN K.np 2
theorem vP {s:Nat}(P:oY K):oY (K.madeP s):=⟨P.on,P.li,P.wo,P.rows⟩
theorem zj {s:Nat}:Up K (K.madeP s):=⟨Nat.le_succ _,Nat.le_refl _,Nat.le_refl _,Nat.le_refl _⟩
theorem uz {s:Nat}(P:oY K)(hs:K.psize=s)(s1:1≤s)(s4:s≤4)(hm:K.made=K.np)(tl:K.tab.length≤800)(ho:K.opn.length+2≤10)
  (k:∀A' c,Ag K A A'→X c=none→R A' (K.opened s) (X.put c (.tup (dL A' [.ref (.file K.nf),.ref (.file (K.nf+1))]))) (.adr c)):GC W (n+4) bG [.ref .ft] A K X R:=by
 have on:=P.on
 refine aH iZ rfl rfl (dw rfl (cR (iz (by ac_rfl) rfl (aJ f7 (ma on) rfl) rfl rfl (by and_intros) (i5 f5 (nM (q:=2) on (Int.ofNat_le.mpr ho)))) ⟨rfl,cE rfl rfl (aG (by ac_rfl) rfl (aJ mP (BC on) rfl) rfl rfl (by and_intros) (aM mZ (Lh P hs s1 s4 hm tl λA1 ag1=>⟨fK ag1 rfl,?_⟩)))⟩))
 have P1:=vP (s:=s) P
 have up1:=zj (K:=K) (s:=s)
 have o1:K.np<(K.madeP s).np∧(K.madeP s).nf=K.nf∧(K.madeP s).opn=K.opn:=⟨Nat.lt_succ_self _,rfl,rfl⟩
 unfold KS.opened at k
 generalize K.madeP s=K1 at*
 refine bq λzq=> ?_
 obtain ⟨hp,enf,eop⟩:=o1
 apply zq;clear zq
 generalize K.np=p at*
 refine cE rfl rfl (gk (gg (us:=[]) aK ⟨Nat.zero_le _,λe he=>⟨rfl,lh (NT (us:=[.bool true,.bool false]) (by and_intros) (by decide) λd hd=>⟨rfl,PC A1 K1 X p e d,⟨.rfl',rfl,aE (H.put_same ..) hd,H.put_same ..,(ai he).trans (ai hd),he,[],rfl,rfl⟩,λi A₂ K₂ X₂ ρ' hi V=> ?_,λA₂ K₂ X₂ ρ' V=> ?_⟩)⟩⟩))
 ·have hi:i<2:=hi
  obtain ⟨ag,rfl,hx,ht,sb,xe,y,rfl,hy⟩:=V
  have F:=p9 P1 p i
  refine ⟨λh I=>(I.oth d _ ht).1,Jz (x:= .bool (i==0)) (Ki hi) ⟨rfl,dQ rfl (cE rfl rfl (f8 rfl xw rfl (aw (by ac_rfl) rfl (aw (cw (aP ..) rfl rfl rfl) rfl (aw (DP (cw (aP ..) rfl rfl rfl)) rfl aK))) (aM za (qQ λa dd nw=>⟨rfl,?_⟩))))⟩⟩
  refine aC rfl (by ac_rfl) (cw (aP ..) rfl rfl rfl) (ak (fJ · ⟨true,true,0,0⟩) rfl nw (Nat.le_refl 8) rfl λ_=> ?_)
  generalize hK2:K1.filedN p i=K2 at*
  have hp2:p<K2.np:=F.np▸hp
  have ed:dT (l5 A₂ [(.file K2.nf,a),(.fileD K2.nf,dd)]) (("self",.ref .ft)::("pipe",.ref (.pipe p))::("ends",.adr e)::aU "file" (.ref (.file K2.nf)) (aU "readable" (.bool (i==0)) y))=dT A₂ (("self",.ref .ft)::("pipe",.ref (.pipe p))::("ends",.adr e)::aU "file" (.adr a) (aU "readable" (.bool (i==0)) y)):=
   KY rfl (KY (yQ BY (KP hp2)) (KY rfl (G8 (congrArg V.ref bY) (fK BY (dJ rfl hy)))))
  refine zv (A':=l5 A₂ [(.file K2.nf,a),(.fileD K2.nf,dd)]) (K':=K2.addFile ⟨i==0,!(i==0),1,p⟩) (X':=X₂) (ρ':=("self",.ref .ft)::("pipe",.ref (.pipe p))::("ends",.adr e)::aU "file" (.ref (.file K2.nf)) (aU "readable" (.bool (i==0)) y)) (λh I=>I.addFile (f:=⟨i==0,!(i==0),1,p⟩) F.pre hp2 rfl rfl (Bs.nil.mk' nw _ _)) ed ?_
  have ag3:=BY (K:=K2) (A:=A₂) (a:=a) (d:=dd)
  generalize l5 A₂ [(.file K2.nf,a),(.fileD K2.nf,dd)]=A₃ at ag3
  have on3:(K2.addFile ⟨i==0,!(i==0),1,p⟩).on=true:=F.pre.on
  have hx3:X₂ e=some (.list (dL A₃ (pW K1.nf i))):=by rw [vO ag3 (CS (Nat.le_of_eq F.nf.symm))];exact hx
  refine dw rfl (zn (by ac_rfl) rfl (I3 (bR hx3)) rfl rfl (bS (aG (by ac_rfl) rfl (aJ m5 (ma on3) rfl) rfl rfl (aw (cw (aP ..) rfl rfl rfl) rfl aK) (aM lB (Gw on3 (Nat.lt_succ_self _) ?_ ⟨rfl,Do hx3 ?_ ⟨rfl,ar ⟨ag.trans ag3 F.up,?_,?_,?_,?_,xe,_,rfl,?_⟩⟩⟩))) rfl))
  ·show K2.opn.length+1≤10
   rw [F.op,eop]
   exact Nat.le_trans (Nat.add_le_add_left (Nat.succ_le_of_lt hi) K.opn.length) ho
  ·unfold pW
   rw [List.length_map,List.length_range];exact Nat.le_trans (Nat.le_of_lt hi) (by decide)
  ·show _=(K1.filedN p i).filed p (i==0)
   rw [hK2];rfl
  ·rw [H.put_same,Ho,F.nf]
  ·rw [H.put_ne λq=>by rw [q,hx] at ht;cases ht];exact ht
  ·exact λc o q=>by rw [H.put_ne λz=>by rw [z,xe] at q;cases q];exact sb c o q
  ·exact dJ (Dm (Nat.lt_succ_self K2.nf)) (dJ rfl (pZ (K:=K2) (K':=K2.filed p (i==0)) ⟨Nat.le_refl _,Nat.le_succ _,Nat.le_refl _,Nat.le_refl _⟩ hy))
 ·refine bq λzq=> ?_
  obtain ⟨ag,ek,hx,ht,sb,xe,y,rfl,hy⟩:=V
  apply zq;clear zq
  have ek:K₂=K1.filedN p 2:=ek
  have hx:X₂ e=some (.list (dL A₂ [.ref (.file K1.nf),.ref (.file (K1.nf+1))])):=hx
  subst ek
  refine ⟨λh I=>(I.oth d _ ht).1,fL (kN (l0 (gg (us:=[.ref (.file K1.nf),.ref (.file (K1.nf+1))]) (aw (aO (by ac_rfl) (by ac_rfl) rfl (iU (bR hx) (by decide) rfl)) rfl (aw (aO (by ac_rfl) (by ac_rfl) rfl (iU (bR hx) (by decide) rfl)) rfl aK)) ⟨Nat.le_of_ble_eq_true rfl,λc hc=>⟨rfl,X.put c _,m8 sb,?_⟩⟩)))⟩
  have xc:X c=none:=by
   cases q:X c with
   |none=>rfl
   |some o=>rw [sb c o q] at hc;cases hc
  have k:=k A₂ c (ag1.trans ag up1) xc
  rw [enf]
  exact k
end
section
variable {W:Wd}{A A' A'':Id→Addr}{K K' K'':KS}{X h:H}{R:SV VI}{n m:Nat}
structure yH (l:List (Option Nat))(i:Nat):Prop where
 h:i<6
 s:l.getD i none=none
 b:∀j,j<i→(l.getD j none).isNone=false
theorem IR {d i f:Nat}(hd:d<K.nd)(hf:f<K.nf)(F:yH (K.desc d) i)(k:R A (K.setDesc d ((K.desc d).set i (some f))) X (.int i)):GC W (n+1) bO [.ref (.desc d),.ref (.file f)] A K X R:=Nf hd hf F.h F.s F.b k
theorem jA {c:Cn}{ρ:KV}{e:Expr}{q:Pos}{p dd:Nat}(on:K.on=true)(hp:p<6)(hd:(K.proc p).files=some dd)(k:GV c e ρ A K X (.ref (.proc p)))(h0:gx e=false):GV c (.Attribute e "files" q) ρ A K X (.ref (.desc dd)):=
 bU k h0 (bB on hp rfl) (show some (eY .desc (K.proc p).files)=_ by rw [hd];rfl)
theorem jh {d:Nat}{l:List (Option Nat)}:(K.setDesc d l).desc d=l:=aj ..
theorem ol {d:Nat}{l l':List (Option Nat)}:(K.setDesc d l).setDesc d l'=K.setDesc d l':=congrArg (λf=>{K with desc:=f}) (oQ ..)
theorem BG {s:Nat}(P:oY K):Up K (K.opened s):=zj.trans (p9 (vP P) K.np 2).up
theorem Er (s:Nat):(K.opened s).on=K.on∧(K.opened s).nf=K.nf+2∧(K.opened s).nd=K.nd∧(K.opened s).desc=K.desc∧(K.opened s).proc=K.proc:=⟨rfl,rfl,rfl,rfl,rfl⟩
theorem KL {p dd i j s:Nat}(P:oY K)(hp:p<6)(hd:(K.proc p).files=some dd)(hfree:2≤(K.frees dd).length)(fi:yH (K.desc dd) i)(fj:yH ((K.desc dd).set i (some K.nf)) j)
  (hs:K.psize=s) (s1:1≤s) (s4:s≤4) (hm:K.made=K.np) (tl:K.tab.length≤800) (ho:K.opn.length+2≤10)
  (k:∀A' c,Ag K A A'→X c=none→R A' ((K.opened s).setDesc dd (((K.desc dd).set i (some K.nf)).set j (some (K.nf+1)))) (X.put c (.tup (dL A' [.int i,.int j]))) (.adr c)):
  GC W (n+5) bu [.ref .calls,.ref (.proc p)] A K X R:=by
 have on:=P.on
 refine aH k7 rfl rfl (dh λw=> ?_)
 have hdn:=w.files p hp dd hd
 refine da (ap (b8 (iz (jA on hp hd (by ac_rfl) rfl) rfl (aJ kU (fD hdn) rfl) rfl rfl (by and_intros) (i5 kW (Jo hdn))) (by ac_rfl) rfl iW) (decide_eq_false (Int.not_lt.mpr (Int.ofNat_le.mpr hfree)))) ?_
 refine fL (C8 rfl (λ_=>rfl) (aG (by ac_rfl) rfl (aJ iY (ma on) rfl) rfl rfl (by and_intros) (aM j7 (uz P hs s1 s4 hm tl ho λA' c ag hc=>⟨fK ag rfl,_,g5 (H.put_same ..),?_⟩))))
 refine bq λzq=> ?_
 obtain ⟨eon,enf,end',ede,epr⟩:=Er (K:=K) s
 apply zq;clear zq
 have up:=BG (s:=s) P
 generalize K.opened s=K2 at*
 have on2:K2.on=true:=eon.trans on
 have hd2:dd<K2.nd:=end'▸hdn
 have hd':(K2.proc p).files=some dd:=epr▸hd
 refine dS rfl rfl (λ_=>⟨rfl,rfl⟩) (dQ rfl ⟨rfl,dS rfl rfl (λ_=>⟨rfl,rfl⟩) (dQ rfl ⟨rfl,jf (mj (ai hc) ?_)⟩)⟩)
 rw [←ede] at fi fj
 refine kN (l0 (bL (aG (jA on2 hp hd' (by ac_rfl) rfl) rfl (aJ gR (fD hd2) rfl) rfl rfl (by and_intros) (aM gT (IR hd2 (by rw [enf];exact Nat.lt_succ_of_lt (Nat.lt_succ_self _)) fi ⟨rfl,bS (aG (jA on2 hp hd' (by ac_rfl) rfl) rfl (aJ gR (fD hd2) rfl) rfl rfl (by and_intros) (aM gT (IR hd2 (by show K.nf+1<K2.nf;rw [enf];exact Nat.lt_succ_self _) (by rw [jh];exact fj) ⟨rfl,Nat.le_of_ble_eq_true rfl,λc hc=>⟨rfl,X.put c _,λ_ _ q=>q,?_⟩⟩))) rfl⟩))) rfl (af rfl λ_=>rfl)))
 rw [ol,jh,ede]
 exact k A' c ag hc
end
section
variable {W:Wd}{A A' A'':Id→Addr}{K K' K'':KS}{X h:H}{R:SV VI}{n m:Nat}
structure D5 (K:KS)(i:Nat):Prop where
 h:i<6
 s:(K.proc i).state= .unused
 b:∀j,j<i→(K.proc j).state≠ .unused
theorem sx {i:Nat}(on:K.on=true)(F:D5 K i)(k:R A K X (.ref (.proc i))):GC W (n+1) ci [.ref .table] A K X R:=by
 refine aH kA rfl rfl (xi (sr:= .list (A .places) (dL A ((List.range 6).map λi=> .ref (.proc i)))) (N:=6) (rho:=λy=>("self",.ref .table)::y) (y0:=[]) (λj=>j≤i) rfl (iO rfl (by ac_rfl) rfl (ia on) ⟨rfl,rfl,rfl,rfl⟩) rfl (λh I=>mF on I) (Nat.zero_le _) (λj=> .ref (.proc j)) (λj hj RV r=>cG (gC hj) r) (λj y hj le=> ?_) λy le=>absurd le (Nat.not_le.mpr F.h))
 refine dQ rfl (fO (ap (b8 (bU (cw (aP ..) rfl rfl rfl) rfl (bB on hj rfl) rfl) (by ac_rfl) rfl pq) (PS.beq (K.proc j).state .unused)) (λz=> ?_) λz=>ar (ar ⟨⟨rfl,rfl⟩,rfl,Nat.lt_of_le_of_ne le λe=> ?_,aU "process" (.ref (.proc j)) y,rfl⟩))
 ·have e:j=i:=Nat.le_antisymm le (Nat.le_of_not_lt λq=>F.b j (Nat.lt_of_le_of_ne le λe=>by subst e;exact absurd q (Nat.lt_irrefl _)) (of_decide_eq_true z))
  subst e
  exact bX (cw (aP ..) rfl rfl rfl) k
 ·subst e;exact of_decide_eq_false z F.s
noncomputable def KS.newP (K:KS)(i:Nat)(r:Addr)(nm:Str):KS:=(K.setProc i ⟨K.nextPid,.fresh,none,none,nm,.none,0,0,r⟩).setTab (K.nextPid+1) (some (K.first.getD i))
theorem IN {i:Nat}{nm:Str}(on:K.on=true)(F:D5 K i)(k:∀r,R A (K.newP i r nm) X (.ref (.proc i))):GC W (n+2) fQ [.ref .table,.str nm] A K X R:=by
 have hi:=F.h
 refine aH uX rfl rfl (cE rfl rfl (aG (by ac_rfl) rfl (aJ kO (eZ on) rfl) rfl rfl (by and_intros) (aM kS (sx on F ⟨rfl,dw rfl (aG (by ac_rfl) rfl (aJ g9 (bB on hi rfl) rfl) rfl rfl aK (aM g6 (zI on hi λr=>⟨rfl,?_⟩)))⟩))))
 have on1:(K.setProc i (.empty r)).on=true:=on
 refine aC (u:= .int K.nextPid) rfl (by ac_rfl) (by ac_rfl) (cT (p':=(aa.empty r).wPid K.nextPid) on hi rfl rfl (.inl rfl) (.inl rfl) (.inl rfl) rfl ?_)
 have on2:(K.setProc i ((aa.empty r).wPid K.nextPid)).on=true:=on
 refine rk (by ac_rfl) (eZ on2) rfl (by ac_rfl) mX (v3 (np':=K.nextPid+1) (f':=K.first) on2 rfl rfl (λw=>w.fst) ?_)
 show GS _ _ _ A ((K.setTab (K.nextPid+1) K.first).setProc i _) X _
 refine aC rfl (by ac_rfl) (by ac_rfl) (cT (K:=K.setTab (K.nextPid+1) K.first) (p':=((aa.empty r).wPid K.nextPid).wState .fresh) on hi rfl rfl (.inl rfl) (.inl rfl) (.inl rfl) rfl ?_)
 refine aC rfl (by ac_rfl) (by ac_rfl) (cT (K:=K.setTab (K.nextPid+1) K.first) (p':=(((aa.empty r).wPid K.nextPid).wState .fresh).wName nm) on hi rfl rfl (.inl rfl) (.inl rfl) (.inl rfl) rfl ?_)
 have k:=k r
 have e0:((K.setTab (K.nextPid+1) K.first).setProc i ((((aa.empty r).wPid K.nextPid).wState .fresh).wName nm)).first=K.first:=rfl
 have e1:K.newP i r nm=((K.setTab (K.nextPid+1) K.first).setProc i ((((aa.empty r).wPid K.nextPid).wState .fresh).wName nm)).setTab (K.nextPid+1) (some (K.first.getD i)):=rfl
 have e2:((K.setTab (K.nextPid+1) K.first).setProc i ((((aa.empty r).wPid K.nextPid).wState .fresh).wName nm)).nextPid=K.nextPid+1:=rfl
 have on3:((K.setTab (K.nextPid+1) K.first).setProc i ((((aa.empty r).wPid K.nextPid).wState .fresh).wName nm)).on=true:=on
 rw [e1] at k
 have fin:∀{K3:KS},K3.setTab K3.nextPid K3.first=K3:=rfl
 generalize (K.setTab (K.nextPid+1) K.first).setProc i ((((aa.empty r).wPid K.nextPid).wState .fresh).wName nm)=K3 at*
 refine fO (b8 (by ac_rfl) (by ac_rfl) rfl (gF (u4 K3.first))) (λq=> ?_) λq=> ?_
 ·have e:K.first=none:=e0▸Option.isNone_iff_eq_none.mp q
  rw [e] at k
  exact aC rfl (by ac_rfl) (by ac_rfl) (v3 (np':=K.nextPid+1) (f':=some i) on3 rfl (by rw [e2];rfl) (λw p e=>by cases e;exact hi) (ar (bX (by ac_rfl) k)))
 ·have e:some (K.first.getD i)=K3.first:=by
   rw [e0] at q⊢
   cases z:K.first with
   |none=>rw [z] at q;cases q
   |some f=>rfl
  rw [e,←e2,fin] at k
  exact ar (bX (by ac_rfl) k)
end
section
variable {W:Wd}{A A' A'':Id→Addr}{K K' K'':KS}{X h:H}{R:SV VI}{n m:Nat}
theorem wB {l:List (Option Nat)}{j i f:Nat}(h:(i,f)∈held l j):i<j∧l[i]?=some (some f):=by
 unfold held at h
 refine bq λzq=> ?_
 obtain ⟨i',hi',e⟩:=List.mem_filterMap.mp h
 obtain ⟨f',ef,e⟩:=Option.map_eq_some_iff.mp e
 apply zq;clear zq
 cases e
 refine ⟨List.mem_range.mp hi',?_⟩
 rw [List.getD_eq_getElem?_getD] at ef
 cases q:l[i]? with
 |none=>rw [q] at ef;cases ef
 |some o=>rw [q] at ef;exact congrArg some ef
noncomputable def KS.shareStep (m:Nat)(K:KS)(q:Nat×Nat):KS:=(K.setFile q.2 ((K.file q.2).wHold ((K.file q.2).holders+1))).setDesc m ((K.desc m).set q.1 (some q.2))
noncomputable def KS.copyD (K:KS)(dd:Nat):KS:=(held (K.desc dd) 6).foldl (KS.shareStep K.nd) K.addDesc
structure PA (K K':KS):Prop where
 on:K'.on=K.on
 np:K'.np=K.np
 nf:K'.nf=K.nf
 nd:K'.nd=K.nd
 nr:K'.nr=K.nr
 proc:K'.proc=K.proc
theorem GF (m:Nat):∀(l:List (Nat×Nat))(K:KS),PA K (l.foldl (KS.shareStep m) K)
 |[],_=>⟨rfl,rfl,rfl,rfl,rfl,rfl⟩
 |q::l,K=>
  have s:=GF m l (K.shareStep m q)
  ⟨s.on,s.np,s.nf,s.nd,s.nr,s.proc⟩
theorem Kx {dd:Nat}(P:oY K)(hd:dd<K.nd)(k:∀A',Ag K A A'→R A' (K.copyD dd) X (.ref (.desc K.nd))):GC W (n+3) c8 [.ref (.desc dd),.ref .ft] A K X R:=by
 refine aH kR rfl rfl (dh λw=>cE rfl rfl (f8 rfl kj rfl (by and_intros) (aM ku (rC P λA1 ag=>⟨fK ag (aA (by show (!Nat.ble K.nd dd)=true;rw [pn hd];rfl) rfl),?_⟩))))
 have k:=k A1 ag
 unfold KS.copyD at k
 have o1:K.addDesc.on=true∧K.addDesc.nd=K.nd+1∧K.addDesc.nf=K.nf∧K.addDesc.desc dd=K.desc dd:=⟨P.on,rfl,rfl,av (Nat.ne_of_lt hd)⟩
 have hs:∀i f,(i,f)∈held (K.desc dd) 6→i<6∧f<K.nf:=λi f h=>⟨(wB h).1,w.slot dd hd f (List.mem_of_getElem? (wB h).2)⟩
 generalize K.addDesc=K1 at*
 refine bq λzq=> ?_
 obtain ⟨on,end',enf,ede⟩:=o1
 apply zq;clear zq
 have hd1:dd<K1.nd:=end'▸Nat.lt_succ_of_lt hd
 rw [←ede] at k hs
 rw [←enf] at hs
 have hm1:K.nd<K1.nd:=end'▸Nat.lt_succ_self _
 generalize K.nd=m at*
 generalize hH:held (K1.desc dd) 6=hl at*
 refine fL (lh (AJ rfl (aG (by ac_rfl) rfl (aJ eJ (fD hd1) rfl) rfl rfl aK (aM eG (nV hd1 λc ts X' sb hc tp=>⟨c,ts.map .adr,rfl,bR hc,rfl,?_⟩)))))
 rw [hH] at tp
 have len:ts.length=hl.length:=tp.len
 have sl:(gu.list c (dL A1 (ts.map .adr))).len=hl.length:=(List.length_map ..).trans ((List.length_map ..).trans len)
 refine ⟨λj A₂ K₂ X₂ ρ=>A₂=A1∧X₂=X'∧K₂=(hl.take j).foldl (KS.shareStep m) K1∧∃y:KV,(("self",.ref (.desc dd))::("table",.ref .ft)::("found",.ref (.desc m))::y:KV)=ρ,⟨rfl,rfl,rfl,[],rfl⟩,λj A₂ K₂ X₂ ρ hj ⟨e1,e2,e4,y,e3⟩=> ?_,λA₂ K₂ X₂ ρ ⟨e1,e2,e4,y,e3⟩=> ?_⟩
 ·subst A₂ X₂ e3
  rw [sl] at hj
  have ht:ts[j]?=some (ts[j]'(len▸hj)):=List.getElem?_eq_getElem _
  generalize ts[j]'(len▸hj)=t at ht
  refine bq λzq=> ?_
  obtain ⟨⟨i,f⟩,hq,tt⟩:=tp.at j t ht
  have hq':hl[j]=(i,f):=by rw [List.getElem?_eq_getElem hj] at hq;exact Option.some.inj hq
  have st:(hl.take (j+1)).foldl (KS.shareStep m) K1=K₂.shareStep m (i,f):=by rw [List.take_succ_eq_append_getElem hj,hq',List.foldl_append,←e4];rfl
  obtain ⟨i6,hf⟩:=hs i f (hq'▸List.getElem_mem hj)
  apply zq;clear zq
  have s:=GF m (hl.take j) K1
  rw [←e4] at s
  have on2:=s.on.trans on
  have hf2:f<K₂.nf:=s.nf▸hf
  have hm2:m<K₂.nd:=s.nd▸hm1
  refine ⟨λh I=>(I.oth c _ hc).1,cG (x:= .adr t) (by rw [List.getElem?_map,ht];rfl) ⟨rfl,Bd (g5 tt) (dS rfl rfl (λ_=>⟨rfl,rfl⟩) (dQ rfl ⟨rfl,dS rfl rfl (λ_=>⟨rfl,rfl⟩) (dQ rfl ⟨rfl,jf ?_⟩)⟩))⟩⟩
  refine DL rfl (aG (by ac_rfl) rfl (aJ lR (ma on2) rfl) rfl rfl (aw (cw (aP ..) rfl rfl rfl) rfl aK) (aM lV (HO hf2 ⟨rfl,bU (by ac_rfl) rfl (fD hm2) rfl,cw ((iN (by decide) _).trans (aP ..)) rfl rfl rfl,qx (o:=some f) hm2 i6 rfl (λg e=>by cases e;exact hf2) (ar ⟨rfl,rfl,?_,aU "file" (.ref (.file f)) (aU "number" (.int i) y),rfl⟩)⟩)))
  rw [st];rfl
 ·subst A₂ X₂ e3
  rw [sl,List.take_length] at e4
  subst e4
  exact ⟨λh I=>(I.oth c _ hc).1,bX (by ac_rfl) ⟨X,sb,k⟩⟩
end
section
variable {W:Wd}{A A' A'':Id→Addr}{K K' K'':KS}{X h:H}{R:SV VI}{n m:Nat}
theorem CN {h:H}{a:Addr}{o:O}(e:h a=some o):h.put a o=h:=by
 funext x;unfold H.put;split
 ·rename_i q;rw [q,e]
 ·rfl
theorem Iw:dL A (List.replicate 32 (.int 0))=List.replicate 32 (V.int 0):=rfl
theorem FN {i:Nat}(on:K.on=true)(hi:i<6):g8 W A K X (.adr (K.proc i).regs) (List.replicate 32 (.int 0)):=λh I=>⟨_,rfl,(I.get (.regs i) _ (cU ⟨on,hi⟩)).trans (congrArg (λl=>some (O.list l)) Iw.symm)⟩
theorem I0 {i:Nat}{T:KS→H→Prop}(on:K.on=true)(hi:i<6)(r:T K X):GI W (.adr (K.proc i).regs) (.int 10) (.int 0) A K X T:=λB h o z w Q I eo ez ew q=>by
 have g:h (K.proc i).regs=some (.list (List.replicate 32 (V.int 0))):=I.get (.regs i) _ (cU ⟨on,hi⟩)
 rw [ah eo]
 refine rY g (by decide) (by decide) ez ?_
 have e:(List.replicate 32 (V.int 0)).set (10:Int).toNat (er w)=List.replicate 32 (V.int 0):=by rw [ew];rfl
 rw [e,CN g]
 exact q K X h I r
theorem LU {i:Nat}{nm:Str}{v:VI}{p p':aa}{T:KS→H→Prop}(on:K.on=true)(hi:i<6)(hn:((lD i p).lookup nm).isSome=true)(hk:aU nm v (lD i p)=lD i p')(hc:p'.chan=p.chan)
  (hp:p'.parent=p.parent∨∀q,p'.parent=some q→q<6) (hf:p'.files=p.files∨∀d,p'.files=some d→d<K.nd) (hr:p'.regs=p.regs) (k:T (K.setProc i p') X):GT W (.ref (.proc i)) nm v A (K.setProc i p) X T:=
 eR (K:=K.setProc i p) on hi (aR ..) hn hk (.inl hc) hp hf hr (by rw [b7];exact k)
noncomputable def qz (K:KS)(s:PS)(p i:Nat)(f:Option Nat)(c:Addr):aa:=⟨K.nextPid,s,some p,f,(K.proc p).name,.none,0,0,c⟩
noncomputable def KS.fork0 (K:KS)(p i:Nat)(c:Addr):KS:=(K.setTab (K.nextPid+1) (some (K.first.getD i))).setProc i (qz K .fresh p i none c)
noncomputable def KS.forked (K:KS)(p i dd:Nat)(c:Addr):KS:=((K.fork0 p i c).copyD dd).setProc i (qz K .ready p i (some K.nd) c)
theorem oM (K:KS)(dd:Nat):(K.copyD dd).on=K.on∧(K.copyD dd).nd=K.nd+1∧(K.copyD dd).proc=K.proc:=by
 have s:=GF K.nd (held (K.desc dd) 6) K.addDesc
 exact ⟨s.on,s.nd,s.proc⟩
theorem Kw {p i dd:Nat}(P:oY K)(hp:p<6)(F:D5 K i)(np:p≠i)(hd:(K.proc p).files=some dd)(k:∀A' c,Ag K A A'→R A' (K.forked p i dd c) X (.ref (.proc i))):GC W (n+4) eW [.ref .table,.ref (.proc p),.ref .ft] A K X R:=by
 have on:=P.on
 have hi:=F.h
 refine aH ss rfl rfl (dh λw=>cE rfl rfl (aG (by ac_rfl) rfl (aJ nF (eZ on) rfl) rfl rfl (by and_intros) (aM nR (IN on F λr=>⟨rfl,?_⟩))))
 have hdn:=w.files p hp dd hd
 have ek:K.newP i r (K.proc p).name=(K.setTab (K.nextPid+1) (some (K.first.getD i))).setProc i ⟨K.nextPid,.fresh,none,none,(K.proc p).name,.none,0,0,r⟩:=rfl
 rw [ek]
 unfold KS.forked KS.fork0 at k
 have o1:(K.setTab (K.nextPid+1) (some (K.first.getD i))).proc p=K.proc p∧(K.setTab (K.nextPid+1) (some (K.first.getD i))).nd=K.nd∧oY (K.setTab (K.nextPid+1) (some (K.first.getD i)))∧∀A',Ag (K.setTab (K.nextPid+1) (some (K.first.getD i))) A A'→Ag K A A':=⟨rfl,rfl,⟨P.on,P.li,P.wo,P.rows⟩,λ_ h y=>h y⟩
 generalize K.setTab (K.nextPid+1) (some (K.first.getD i))=K1 at*
 refine bq λzq=> ?_
 obtain ⟨ep,end',P1,agK⟩:=o1
 apply zq;clear zq
 have on1:=P1.on
 have pp:∀q,(K1.setProc i q).proc p=K.proc p:=λq=>(av np).trans ep
 have op:∀q X,OI W A (K1.setProc i q) X (.ref (.proc p)) aB (A (.procD p)) (lD p (K.proc p)):=λq X=>bB on1 hp (pp q)
 have oi:∀q X,OI W A (K1.setProc i q) X (.ref (.proc i)) aB (A (.procD i)) (lD i q):=λq X=>bB on1 hi (aR ..)
 refine CU (aC rfl (CX (ap (b8 (bU (by ac_rfl) rfl (op _ _) rfl) (by ac_rfl) rfl (gF rfl)) rfl) (by ac_rfl)) (by ac_rfl) (cT on1 hi rfl rfl (.inl rfl) (.inl rfl) (.inl rfl) rfl (ar ?_)))
 have lr:=FN (W:=W) (A:=A) (X:=X) (K:=K1.setProc i ⟨K.nextPid,.fresh,none,none,(K.proc p).name,.none,0,0,r⟩) on1 hp
 rw [pp] at lr
 refine kh rfl (f8 rfl Jk rfl (aw (bU (by ac_rfl) rfl (op _ _) rfl) rfl aK) (Jn lr λc hc=>⟨rfl,by ac_rfl,zw (p':=⟨K.nextPid,.fresh,none,none,(K.proc p).name,.none,0,0,c⟩) on1 hi rfl (by rw [H.put_same,Iw]) (mj (zP hc) ?_)⟩))
 have k:=λA'=>k A' c
 refine tO rfl (by ac_rfl) (bU (by ac_rfl) rfl (oi _ _) rfl) (by ac_rfl) ?_
 have er:(K1.setProc i ⟨K.nextPid,.fresh,none,none,(K.proc p).name,.none,0,0,c⟩).proc i=⟨K.nextPid,.fresh,none,none,(K.proc p).name,.none,0,0,c⟩:=aR ..
 have ir:∀T:KS→H→Prop,T (K1.setProc i ⟨K.nextPid,.fresh,none,none,(K.proc p).name,.none,0,0,c⟩) X→GI W (.adr c) (.int 10) (.int 0) A (K1.setProc i ⟨K.nextPid,.fresh,none,none,(K.proc p).name,.none,0,0,c⟩) X T:=λT t=>by
  have:=I0 (W:=W) (A:=A) (X:=X) (K:=K1.setProc i ⟨K.nextPid,.fresh,none,none,(K.proc p).name,.none,0,0,c⟩) (i:=i) (T:=T) on1 hi t
  rw [er] at this
  exact this
 refine ir _ ?_
 refine aC rfl (bU (by ac_rfl) rfl (op _ _) rfl) (by ac_rfl) (cT on1 hi rfl rfl (.inl rfl) (.inl rfl) (.inl rfl) rfl ?_)
 refine aC rfl (by ac_rfl) (by ac_rfl) (LU (p':=qz K .fresh p i none c) on1 hi rfl rfl rfl (.inr λq e=>by cases e;exact hp) (.inl rfl) rfl ?_)
 have fl:∀{ρ:KV} {e:Expr} {pos:Pos} {n:Nat} {a b},GV (cn W n a b) e ρ A (K1.setProc i (qz K .fresh p i none c)) X (.ref (.proc p))→gx e=false→GV (cn W n a b) (.Attribute e "files" pos) ρ A (K1.setProc i (qz K .fresh p i none c)) X (.ref (.desc dd)):=λk h0=>jA (K:=K1.setProc i (qz K .fresh p i none c)) on1 hp ((congrArg aa.files (pp _)).trans hd) k h0
 have P2:oY (K1.setProc i (qz K .fresh p i none c)):=⟨P1.on,P1.li,P1.wo,P1.rows⟩
 have o2:=oM (K1.setProc i (qz K .fresh p i none c)) dd
 refine kh rfl (Iu (ap (b8 (fl (by ac_rfl) rfl) (by ac_rfl) rfl (gF rfl)) rfl) (aG (fl (by ac_rfl) rfl) rfl (aJ kL (fD (by show dd<K1.nd;rw [end'];exact hdn)) rfl) rfl rfl (by and_intros) (aM l4 (Kx P2 (by show dd<K1.nd;rw [end'];exact hdn) λA' ag=>⟨fK ag rfl,by ac_rfl,?_⟩))))
 have k:=k A' (agK A' ag)
 have end2:(K1.setProc i (qz K .fresh p i none c)).nd=K.nd:=end'
 rw [end2] at*
 refine bq λzq=> ?_
 obtain ⟨on2',nd2,pr2⟩:=o2
 apply zq;clear zq
 have epp:((K1.setProc i (qz K .fresh p i none c)).copyD dd).proc p=K.proc p:=(congrFun pr2 p).trans (pp _)
 have epi:((K1.setProc i (qz K .fresh p i none c)).copyD dd).proc i=qz K .fresh p i none c:=(congrFun pr2 i).trans (aR ..)
 have on3:((K1.setProc i (qz K .fresh p i none c)).copyD dd).on=true:=on2'.trans on1
 generalize (K1.setProc i (qz K .fresh p i none c)).copyD dd=K3 at*
 refine eR (p':=qz K .fresh p i (some K.nd) c) on3 hi epi rfl rfl (.inl rfl) (.inl rfl) (.inr λd e=>by cases e;rw [nd2];show K.nd<K1.nd+1;rw [end'];exact Nat.lt_succ_self _) rfl ?_
 refine aC rfl (bU (by ac_rfl) rfl (bB (K:=K3.setProc i _) on3 hp ((av np).trans epp)) rfl) (by ac_rfl) (cT on3 hi rfl rfl (.inl rfl) (.inl rfl) (.inl rfl) rfl ?_)
 have on4:(K3.setProc i (qz K .fresh p i (some K.nd) c)).on=true:=on3
 refine dw rfl (aG (by ac_rfl) rfl (aJ hZ (eZ on4) rfl) rfl rfl (by and_intros) (aM hM (rN on4 hi ⟨rfl,?_⟩)))
 rw [aR,b7]
 exact bX (by ac_rfl) k
end
section
variable {W:Wd}{A A' A'':Id→Addr}{K K' K'':KS}{X h:H}{R:SV VI}{n m:Nat}
theorem Ig {p i dd:Nat}(P:oY K)(hp:p<6)(F:D5 K i)(np:p≠i)(hd:(K.proc p).files=some dd)(k:∀A' c,Ag K A A'→R A' (K.forked p i dd c) X (.int K.nextPid)):GC W (n+5) bV [.ref .calls,.ref (.proc p)] A K X R:=by
 have on:=P.on
 refine aH jY rfl rfl (cE rfl rfl (aG (by ac_rfl) rfl (aJ sO (eZ on) rfl) rfl rfl (by and_intros) (aM s7 (Kw P hp F np hd λA' c ag=>⟨fK ag rfl,?_⟩))))
 have k:=k A' c ag
 have on1:(K.forked p i dd c).on=true:=(oM ..).1.trans on
 have o:∀X,OI W A' (K.forked p i dd c) X (.ref (.proc i)) aB (A' (.procD i)) (lD i (qz K .ready p i (some K.nd) c)):=λX=>bB on1 F.h (aR ..)
 exact da (ap (b8 (bU (by ac_rfl) rfl (o X) rfl) (by ac_rfl) rfl (gc rfl)) rfl) (bX (bU (by ac_rfl) rfl (o X) rfl) k)
theorem r9:∀(us l:KV),mY (dT A us) (dT A l)=dT A (GX l us)
 |[],_=>rfl
 |(n,v)::us,l=>by
  show mY (dT A us) (fC n (den A v) (dT A l))=dT A (GX (aU n v l) us)
  rw [db];exact r9 us _
theorem O5 {u:VI}{d:Addr}{kv:List (Str×V)}(hu:den A u= .ref d)(hd:X d=some (.attrs kv)):Hx W A K X u "update" (.builtin "dict.update"):=λB h o pl Q I e q=>by
 rw [ah (e.trans hu)] at q⊢
 exact mo (I.oth d _ hd).1 q
theorem LX {j:Nat}{d o:Addr}{kv more:KV}(hd:X d=some (.attrs (dT A kv)))(ho:X o=some (.attrs (dT A more)))(ne:d≠o)(hz:kv.length+more.length≤800)(r:R A K (X.put d (.attrs (dT A (GX kv more)))) .none):GK W j (.builtin "dict.update") [.adr d,.adr o] A K X R:=λh I=>
 ⟨λ_ _=>⟨_,.inr (.inl rfl),aI⟩,λB env vars vs Q ro e q=>two (P:=λvs=>EW W B env vars (call (.builtin "dict.update") vs []) h Q) e λv w ev ew=>by
  rw [ah ev,ah ew]
  refine EW.lift ((AX (Q:=λz h'=>z= .none∧Is W A K (X.put d (.attrs (dT A (GX kv more)))) h') ne (I.oth d _ hd).1 (I.oth o _ ho).1 ?_ ⟨rfl,?_⟩).mono λz h' ⟨e,I'⟩=>q A K _ .none z h' e I' r)
  ·rw [show (dT A kv).length=kv.length from List.length_map ..,show (dT A more).length=more.length from List.length_map ..];exact hz
  ·rw [r9];exact I.side hd nofun⟩
noncomputable def oU (d p:Nat)(L:List (Nat×Nat))(K0:KS):Prop:=∀l1 i f l2 K1,L=l1++(i,f)::l2→bM d l1 K0 K1→(K1.proc p).files=some d∧i<6∧(K1.desc d)[i]?=some (some f)∧1≤(K1.file f).holders∧K1.opn.length≤1000
theorem vu {sc:Scope}{who lst:Str} {p1 p2 p3 p4 p5 p6 q1 q2 q:Pos}{l:List Stmt}{SR:oz}{rho:KV→KV}{y0 ρ:KV}{p d:Nat}{sa:Addr}{L:List (Nat×Nat)}(er:rho y0=ρ)(on:K.on=true)(hp:p<6)(hX:X sa=some (.list (dL A (L.map λq=> .int q.1))))(ok:oU d p L K)
  (hs:∀y u,aU "number" u (rho y)=rho (aU "number" u y)) (lk:∀y,(rho y).lookup ("calls":Str)=some (.ref .calls)) (lw:∀y,(rho y).lookup who=some (.ref (.proc p))) (ll:(rho y0).lookup lst=some (.adr sa))
  (k1:H2 (sc.names.lookup ("calls":Str))=true) (k2:H2 (sc.names.lookup who)=true) (k3:H2 (sc.names.lookup lst)=true) (k4:H2 (sc.names.lookup ("number":Str))=true) (k5:Fy true (sc.names.lookup ("number":Str))=true)
  (n1:(who==("__classdict__":Str))=false) (n2:(who==("__debug__":Str))=false) (n3:(lst==("__classdict__":Str))=false) (n4:(lst==("__debug__":Str))=false) (hq:(p2.endLine==p5.line)=true)
  (fin:∀K1 y,bM d L K K1→GS ⟨W,n+5,sc,true⟩ l (rho y) A K1 X SR):
  GS ⟨W,n+5,sc,true⟩ (.For (.Name "number" q1) (.Name lst q2) [.Expr (.Call (.Attribute (.Name "calls" p1) "close" p2) [.Name who p3,.Name "number" p4] [] p5) p6] [] q::l) ρ A K X SR:=by
 subst er
 have sl:(gu.list sa (dL A (L.map λq=> .int q.1))).len=L.length:=(List.length_map ..).trans (List.length_map ..)
 refine lh (iO (a:=sa) rfl (cw ll k3 n3 n4) rfl (bR hX) ⟨rfl,λj A₂ K₂ X₂ ρ=>A₂=A∧X₂=X∧bM d (L.take j) K K₂∧∃y:KV,rho y=ρ,⟨rfl,rfl,.nil,y0,rfl⟩,λj A₂ K₂ X₂ ρ hj ⟨e1,e2,cl,y,e3⟩=> ?_,λA₂ K₂ X₂ ρ ⟨e1,e2,cl,y,e3⟩=> ?_⟩)
 ·subst A₂ X₂ e3
  rw [sl] at hj
  refine bq λzq=> ?_
  obtain ⟨⟨i,f⟩,hq'⟩:∃q,L[j]=q:=⟨_,rfl⟩
  apply zq;clear zq
  have sp:L=L.take j++(i,f)::L.drop (j+1):=by rw [←hq',←List.drop_eq_getElem_cons hj,List.take_append_drop]
  have st:L.take (j+1)=L.take j++[(i,f)]:=by rw [List.take_succ_eq_append_getElem hj,hq']
  have ⟨q1,q2,q3,q4,q5⟩:=ok _ i f _ K₂ sp cl
  have on2:K₂.on=true:=cl.on.trans on
  refine ⟨λh I=>(I.oth sa _ hX).1,cG (x:= .int i) (by rw [List.getElem?_map,List.getElem?_eq_getElem hj,hq'];rfl) ⟨rfl,dQ k5 ?_⟩⟩
  rw [hs]
  exact dw rfl (aG (cw (lk _) k1 rfl rfl) rfl (aJ dC (j4 on2) rfl) hq rfl (aw (cw (lw _) k2 n1 n2) rfl (aw (cw (by rw [←hs];exact aP ..) k4 rfl rfl) rfl aK)) (aM dy (tU on2 hp q1 q2 q3 q4 q5 λc=>⟨rfl,ar ⟨rfl,rfl,by rw [st];exact .snoc cl,_,rfl⟩⟩)))
 ·subst A₂ X₂ e3
  rw [sl,List.take_length] at cl
  exact ⟨λh I=>(I.oth sa _ hX).1,fin K₂ y cl⟩
end
section
variable {W:Wd}{A A' A'':Id→Addr}{K K' K'':KS}{X h:H}{R:SV VI}{n m:Nat}
theorem rI {p:Nat→Bool}{i:Nat}:∀{l:List Nat},(∀z∈l,p z=true→z=i)→i∈l→p i=true→(l.filter p)[0]?=some i
 |[],_,m,_=>nomatch m
 |z::l,h,m,q=>by
  rw [List.filter_cons]
  split
  ·rename_i e;rw [h z (.head _) e];rfl
  ·rename_i e
   rcases List.mem_cons.mp m with e1|m
   ·subst e1;exact absurd q e
   ·exact rI (λz hz=>h z (.tail _ hz)) m q
theorem nT {p i dd:Nat}{c:Addr}(j:Nat):(K.forked p i dd c).proc j=if j=i then qz K .ready p i (some K.nd) c else K.proc j:=by
 show upd ((K.fork0 p i c).copyD dd).proc i _ j=_
 by_cases e:j=i
 ·rw [if_pos e,e,aj]
 ·rw [if_neg e,av e,(oM (K.fork0 p i c) dd).2.2]
  exact av e
theorem Gv {p i dd:Nat}{sh gn rw:Addr}{shut gone:List (Nat×Nat)}{rkv:KV}(P:oY K)(hp:p<6)(F:D5 K i)(np:p≠i)(hd:(K.proc p).files=some dd)(hu:∀j,j<6→(K.proc j).state≠ .unused→(K.proc j).pid≠K.nextPid)
  (hsh:X sh=some (.list (dL A (shut.map λq=> .int q.1)))) (hgn:X gn=some (.list (dL A (gone.map λq=> .int q.1)))) (hrw:X rw=some (.attrs (dT A rkv))) (hrl:rkv.length≤700) (hro:(rkv.all λq=>lY K q.2)=true)
  (ok1:∀c,oU K.nd i shut (K.forked p i dd c)) (ok2:∀c K2,bM K.nd shut (K.forked p i dd c) K2→oU dd p gone K2)
  (k:∀A' c K2 K3,Ag K A A'→bM K.nd shut (K.forked p i dd c) K2→bM dd gone K2 K3→R A' K3 (X.put rw (.attrs (dT A' (GX rkv [(fh,.ref (.proc i)),(rh,.int K.nextPid),(jz,.bytes []),(fP,.int 0)])))) (.adr rw)):
  GC W (n+6) dN [.ref .calls,.ref (.proc p),.adr sh,.adr gn,.adr rw] A K X R:=by
 have on:=P.on
 have hi:=F.h
 refine aH u9 rfl rfl (cE rfl rfl (aG (by ac_rfl) rfl (aJ jT (j4 on) rfl) rfl rfl (by and_intros) (aM jZ (Ig P hp F np hd λA' c ag=>⟨fK ag rfl,?_⟩))))
 have k:=k A' c
 have ok1:=ok1 c
 have ok2:=ok2 c
 have on1:(K.forked p i dd c).on=true:=(oM ..).1.trans on
 have fp:∀j,(K.forked p i dd c).proc j=if j=i then qz K .ready p i (some K.nd) c else K.proc j:=nT
 generalize K.forked p i dd c=K1 at*
 have pid:∀z∈K1.there,((K1.proc z).pid==K.nextPid)=true→z=i:=λz hz e=>Decidable.byContradiction λq=>by
  obtain ⟨z6,zs⟩:=List.mem_filter.mp hz
  have zs:=of_decide_eq_true zs
  rw [fp,if_neg q] at zs e
  exact hu z (List.mem_range.mp z6) zs (eq_of_beq e)
 have it:i∈K1.there:=List.mem_filter.mpr ⟨List.mem_range.mpr hi,decide_eq_true (by rw [fp,if_pos rfl];nofun)⟩
 have ip:((K1.proc i).pid==K.nextPid)=true:=by rw [fp,if_pos rfl];exact beq_self_eq_true _
 have t6:∀j,j<K1.there.length→K1.there.getD j 0<6:=λj hj=>by rw [cF hj];exact List.mem_range.mp (List.mem_filter.mp (List.getElem_mem hj)).1
 have tl:K1.there.length≤6:=Nat.le_trans (List.length_filter_le ..) (Nat.le_of_eq List.length_range)
 refine fL (cE rfl rfl (Mu (fF (by kernel_rfl) (AJ rfl (aG (by ac_rfl) rfl (aJ nZ (eZ on1) rfl) rfl rfl aK (aM o9 (IL on1 λc0 hc0=>⟨c0,procs K1.there,rfl,bR (H.put_same ..),rfl,λacc hacc=> ?_⟩))))) rfl))
 have xc0:∀ys,((X.put c0 (.list (dL A' (procs K1.there)))).put acc (.list ys)) c0=some (.list (dL A' (procs K1.there))):=λys=>aE (H.put_same ..) hacc
 refine pM (N:=K1.there.length) (λj=>(K1.proc (K1.there.getD j 0)).pid==K.nextPid) (λj=> .ref (.proc (K1.there.getD j 0))) (λj=> .ref (.proc (K1.there.getD j 0))) ((List.length_map ..).trans (List.length_map ..)) (Nat.le_trans tl (by decide)) (λys h I=>(I.oth c0 _ (xc0 _)).1) (λj Z hj RV r=>cG ?_ r) rfl rfl (λj ys hj=> ?_) (λj ys hj q=>aL rfl rfl rfl rfl) ?_
 ·unfold procs
  rw [List.getElem?_map,List.getElem?_eq_getElem hj,cF hj];rfl
 ·exact b8 (bU (aL rfl rfl rfl rfl) rfl (bB on1 (t6 j hj) rfl) rfl) (aL rfl rfl rfl rfl) rfl iu
 rw [pG K1.there (λz=>(K1.proc z).pid==K.nextPid) λz=>VI.ref (.proc z)]
 have hx:((X.put c0 (.list (dL A' (procs K1.there)))).put acc (.list (dL A' ((K1.there.filter λz=>(K1.proc z).pid==K.nextPid).map λz=>VI.ref (.proc z))))) acc=some (.list (dL A' ((K1.there.filter λz=>(K1.proc z).pid==K.nextPid).map λz=>VI.ref (.proc z)))):=H.put_same ..
 have sb:ml X ((X.put c0 (.list (dL A' (procs K1.there)))).put acc (.list (dL A' ((K1.there.filter λz=>(K1.proc z).pid==K.nextPid).map λz=>VI.ref (.proc z))))):=(ai hc0).trans (ai hacc)
 generalize (X.put c0 (.list (dL A' (procs K1.there)))).put acc (.list (dL A' ((K1.there.filter λz=>(K1.proc z).pid==K.nextPid).map λz=>VI.ref (.proc z))))=Y at hx sb
 refine ⟨rfl,.mk (.int 0) (.ref (.proc i)) (by ac_rfl) (iU (bR hx) (Int.le_refl 0) ?_) ⟨rfl,mj sb ?_⟩⟩
 ·show (List.map _ _)[0]?=_
  rw [List.getElem?_map,rI (λz hz q=>pid z hz q) it ip];rfl
 have aS:∀{L:List (Nat×Nat)},dL A' (L.map λq=>VI.int q.1)=dL A (L.map λq=>VI.int q.1):=λ{L}=>List.map_congr_left λv hv=>by
  obtain ⟨q,hq,rfl⟩:=List.mem_map.mp hv;rfl
 rw [←aS] at hsh hgn
 rw [←fK ag hro] at hrw
 refine vu (rho:=λy=>("calls",.ref .calls)::("first",.ref (.proc p))::("shut",.adr sh)::("gone",.adr gn)::("row",.adr rw)::("pid",.int K.nextPid)::("child",.ref (.proc i))::y) (y0:=[]) rfl on1 hi hsh ok1 (λ_ _=>rfl) (λ_=>rfl) (λ_=>rfl) rfl rfl rfl rfl rfl rfl rfl rfl rfl rfl rfl λK2 y2 cl2=> ?_
 refine vu (rho:=λy=>("calls",.ref .calls)::("first",.ref (.proc p))::("shut",.adr sh)::("gone",.adr gn)::("row",.adr rw)::("pid",.int K.nextPid)::("child",.ref (.proc i))::y) (y0:=y2) rfl (cl2.on.trans on1) hp hgn (ok2 K2 cl2) (λ_ _=>rfl) (λ_=>rfl) (λ_=>rfl) rfl rfl rfl rfl rfl rfl rfl rfl rfl rfl rfl λK3 y3 cl3=> ?_
 refine dw rfl (zn (by ac_rfl) rfl (O5 rfl hrw) rfl rfl (bS (Ej rfl rfl (λe he=>j2 (by ac_rfl) (j2 (by ac_rfl) (j2 (by ac_rfl) (j2 (by ac_rfl) (DN ⟨rfl,rfl,rfl,rfl,H.put_same ..,Nat.le_of_ble_eq_true rfl,rfl,LX (kv:=rkv) (more:=GX [] [(fh,.ref (.proc i)),(rh,.int K.nextPid),(jz,.bytes []),(fP,.int 0)]) ?_ (H.put_same ..) (λq=> ?_) (Nat.le_trans (Nat.add_le_add_right hrl 4) (by decide)) ⟨rfl,bX (by ac_rfl) ⟨X.put rw _,?_,k K2 K3 ag cl2 cl3⟩⟩⟩))))) ⟨rfl,rfl⟩) rfl))
 ·rw [H.put_put];exact aE hrw he
 ·rw [q,he] at hrw;cases hrw
 ·rw [H.put_put];exact m8 (ai he)
end
@[simp] theorem z0 (p:aa)(x:Int):p.wPid x={p with pid:=x}:=rfl
@[simp] theorem z1 (p:aa)(x:PS):p.wState x={p with state:=x}:=rfl
@[simp] theorem z2 (p:aa)(x:Option Nat):p.wParent x={p with parent:=x}:=rfl
@[simp] theorem z3 (p:aa)(x:Option Nat):p.wFiles x={p with files:=x}:=rfl
@[simp] theorem z4 (p:aa)(x:Str):p.wName x={p with name:=x}:=rfl
@[simp] theorem z5 (p:aa)(x:Ch):p.wChan x={p with chan:=x}:=rfl
@[simp] theorem z6 (p:aa)(x:Int):p.wStat x={p with status:=x}:=rfl
@[simp] theorem z7 (p:aa)(x:Int):p.wProg x={p with progress:=x}:=rfl
@[simp] theorem z8 (p:aa)(x:Addr):p.wRegs x={p with regs:=x}:=rfl
@[simp] theorem z9 (p:ac)(x:Bool):p.wRo x={p with ro:=x}:=rfl
@[simp] theorem PY (p:ac)(x:Bool):p.wWo x={p with wo:=x}:=rfl
@[simp] theorem PU (p:ac)(x:Nat):p.wRc x={p with rc:=x}:=rfl
@[simp] theorem PP (p:ac)(x:Nat):p.wWc x={p with wc:=x}:=rfl
@[simp] theorem PW (p:ac)(x:List UInt8):p.wRing x={p with ring:=x}:=rfl
@[simp] theorem PX (p:c6)(x:Int):p.wPass x={p with passed:=x}:=rfl
@[simp] theorem PT (p:c6)(x:List UInt8):p.wRest x={p with rest:=x}:=rfl
@[simp] theorem PL (p:c6)(x:List UInt8):p.wLeft x={p with left:=x}:=rfl
@[simp] theorem PO (p:fX)(x:Int):p.wHold x={p with holders:=x}:=rfl
@[simp] theorem PM (p:ao)(x:List UInt8):p.wOut x={p with out:=x}:=rfl
@[simp] theorem PN (p:ao):p.wIs={p with isOut:=true}:=rfl
@[simp] theorem PJ (p:ao)(q:Addr×Int×Int)(e:Addr):p.wTold q e={p with told:=p.told++[q],toldA:=e}:=rfl
@[simp] theorem PV (p:aa):p.rdy={p with state:= .ready,chan:= .none}:=rfl
@[simp] theorem PQ (p:aa)(x:Int):p.dead x={p with state:= .zombie,chan:= .none,status:=x}:=rfl
@[simp] theorem PK (r:Addr):aa.empty r=⟨0,.unused,none,none,ec,.none,0,0,r⟩:=rfl
noncomputable def KS.src (K:KS)(T:List UInt8):Nat→Nat
 |0=>T.length - (K.row 0).left.length
 |j+1=>(K.pipe j).rc
structure jb (T:List UInt8)(p:ac):Prop where
 le:p.rc≤p.wc
 fit:p.wc≤p.rc+p.size
 top:p.wc≤T.length
 sz:1≤p.size∧p.size≤4
 rl:p.ring.length=p.size
 at_:∀j,p.rc≤j→j<p.wc→p.ring.getD (j % p.size) 0=T.getD j 0
structure uE (m:Nat)(r:c6)(i:Nat):Prop where
 proc:r.proc=if i=m+1 then 0 else i+1
 lst:r.last=decide (i=m+1)
 pid:i≤m→r.pid=i+2
 out:r.out=if i=m+1 then .none else .int (if i=0 then 1 else 2)
 inn:r.inn=if i=0 then .none else .int ((i - 1) % 2:Nat)
 size:∃s:Nat,r.size=s∧1≤s∧s≤4
structure Cr (T:List UInt8)(wc src:Nat)(i:Nat)(r:c6)(g:Int)(b:Nat):Prop where
 left:r.left=if i=0 then T.drop src else []
 pas:r.passed=b
 prog:g=wc - b
 le:b≤wc∧wc≤src∧src≤T.length
 rest:r.rest=(T.drop b).take (src - b)
 full:wc=src→b=src
structure Ab (L:Nat)(e t:Nat)(K:KS)(i:Nat):Prop where
 gone:i<t→(K.proc (i+1)).state= .unused
 here:t≤i→(K.proc (i+1)).pid=i+2∧(K.proc (i+1)).parent=some 0∧(K.proc (i+1)).files=some (i+1)
 dead:i<e→(K.pipe i).wc=L∧(t≤i→(K.proc (i+1)).state= .zombie∧(K.proc (i+1)).status=L)
 live:e≤i→(K.proc (i+1)).state= .ready∨((K.proc (i+1)).state= .sleeping∧∃a,(K.proc (i+1)).chan= .pipe a i 1∧(K.pipe i).wc=(K.pipe i).rc+(K.pipe i).size)∨
  ((K.proc (i+1)).state= .sleeping∧∃a j,i=j+1∧(K.proc (i+1)).chan= .pipe a j 0∧(K.pipe j).wc=(K.pipe j).rc∧e≤j)
noncomputable def hB (i:Nat):List (Option Nat):=if i=0 then [none,some 1,none,none,none,none] else if (i - 1) % 2=0 then [some (2*(i - 1)),none,some (2*i+1),none,none,none] else [none,some (2*(i - 1)),some (2*i+1),none,none,none]
structure eg (T:List UInt8)(m e t:Nat)(K:KS)(w:ao):Prop where
 m3:m≤3
 em:e≤m+1
 tm:t≤e
 tl:1≤T.length∧T.length≤9
 np:K.np=m+1
 nf:K.nf=2*(m+1)
 nd:K.nd=m+2
 nr:K.nr=m+2
 fst:K.first=some 0
 wor:K.world=some w
 lis:K.lists=some (List.range (m+1))
 io:w.isOut=true→e=m+1∧(K.pipe m).rc=T.length
 nio:w.isOut=false→t=0
 told:w.told.map (·.2)=(List.range t).map λ(i:Nat)=>((i:Int)+2,(T.length:Int))
 out:w.out=T.take (K.pipe m).rc
 pp:∀i,i≤m→jb T (K.pipe i)
 wo:∀i,i≤m→(K.pipe i).wo=decide (e≤i)
 ro:∀i,i≤m→(K.pipe i).ro=if i=m then !w.isOut else decide (e≤i+1)
 fr:∀i,i≤m→(K.file (2*i)).rd=true∧(K.file (2*i)).wr=false∧(K.file (2*i)).pipe=i∧((K.pipe i).ro=true→(K.file (2*i)).holders=1)
 fw:∀i,i≤m→(K.file (2*i+1)).rd=false∧(K.file (2*i+1)).wr=true∧(K.file (2*i+1)).pipe=i∧(e≤i→(K.file (2*i+1)).holders=1)
 opl:K.opn.length≤1000
 opn:∀i,i≤m→(2*i∈K.opn→(K.pipe i).ro=true)∧(2*i+1∈K.opn→(K.pipe i).wo=true)
 tab:∀i∈K.tab,(K.pipe i).ro=true∨(K.pipe i).wo=true
 rs:∀i,i≤m+1→uE m (K.row i) i
 rd:∀i,i≤m→∃b,Cr T (K.pipe i).wc (K.src T i) i (K.row i) (K.proc (i+1)).progress b
 rl:(K.row (m+1)).left=[]∧(K.row (m+1)).rest=[]
 ds:∀i,i≤m→e≤i→K.desc (i+1)=hB i
 d0:w.isOut=false→(K.desc 0)[m % 2]?=some (some (2*m))
 pr:∀i,i≤m→Ab T.length e t K i
 p0:(K.proc 0).pid=1∧(K.proc 0).parent=none∧(K.proc 0).files=some 0∧((K.proc 0).state= .ready∨(w.isOut=false∧(K.proc 0).state= .sleeping∧∃a,(K.proc 0).chan= .pipe a m 0∧(K.pipe m).wc=(K.pipe m).rc∧e≤m))
 un:∀j,m+2≤j→j<6→(K.proc j).state= .unused
theorem Hl (l:List UInt8):∀p:ac,p.rc≤p.wc→p.wc - p.rc+l.length≤p.size→p.ring.length=p.size→0<p.size→
  ∀j,p.rc≤j→j<p.wc+l.length→(p.push l).ring.getD (j % p.size) 0=if j<p.wc then p.ring.getD (j % p.size) 0 else l.getD (j - p.wc) 0:=by
 induction l with
 |nil=>intro p _ _ _ _ j h1 h2;simp at h2;rw [if_pos h2];rfl
 |cons b r ih=>
  intro p h1 h2 h3 h4 j h5 h6
  simp only [List.length_cons] at h2 h6
  have e:(p.push (b::r))=(p.push1 b).push r:=rfl
  rw [e]
  have:=ih (p.push1 b) (by simp [ac.push1];exact Nat.le_succ_of_le h1) (by simp [ac.push1];lia) (by simp [ac.push1];lia) h4 j h5 (by simp [ac.push1];exact Nat.lt_of_lt_of_le h6 (Nat.le_of_eq (Nat.add_right_comm _ _ 1)))
  rw [show (p.push1 b).size=p.size from rfl] at this
  rw [this]
  have w1:(p.push1 b).wc=p.wc+1:=rfl
  have r1:(p.push1 b).ring=p.ring.set (p.wc % p.size) b:=rfl
  rw [w1,r1]
  by_cases c:j<p.wc
  ·rw [if_pos (by exact Nat.lt_succ_of_lt c),if_pos c]
   have ne:p.wc % p.size≠j % p.size:=by
    intro q
    have d:p.wc - j<p.size:=by lia
    have:(p.wc - j) % p.size=0:=by
     have:=Nat.sub_mod_eq_zero_of_mod_eq q
     exact this
    rw [Nat.mod_eq_of_lt d] at this
    exact Nat.ne_of_gt (Nat.sub_pos_of_lt c) this
   simp only [List.getD_eq_getElem?_getD]
   rw [List.getElem?_set_ne ne]
  ·by_cases c2:j=p.wc
   ·subst c2
    have lt:p.wc % p.size<p.ring.length:=by rw [h3];exact Nat.mod_lt _ h4
    simp [List.getD_eq_getElem?_getD,List.getElem?_set_self lt]
   ·rw [if_neg (by exact λz=>c2 (Nat.le_antisymm (Nat.le_of_lt_succ z) (Nat.not_lt.mp c))),if_neg c]
    have:j - p.wc=(j - (p.wc+1))+1:=by exact (Nat.sub_add_cancel (Nat.sub_pos_of_lt (Nat.lt_of_le_of_ne (Nat.not_lt.mp c) (Ne.symm c2)))).symm
    rw [this];rfl
theorem Ka {T:List UInt8}{p:ac}(I:jb T p){t:Nat}(h:p.rc+t≤p.wc):p.got t=(T.drop p.rc).take t:=by
 have tp:=I.top
 apply List.ext_getElem
 ·simp [ac.got];exact (Nat.min_eq_left (Nat.le_sub_of_add_le' (Nat.le_trans h tp))).symm
 ·intro i h1 h2
  simp only [ac.got,List.length_map,List.length_range] at h1
  have:=I.at_ (p.rc+i) (by lia) (by exact Nat.lt_of_lt_of_le (Nat.add_lt_add_left h1 _) h)
  simp only [ac.got,List.getElem_map,List.getElem_range,List.getElem_take,List.getElem_drop,ac.at_]
  rw [this,List.getD_eq_getElem?_getD,List.getElem?_eq_getElem (by exact Nat.lt_of_lt_of_le (Nat.add_lt_add_left h1 _) (Nat.le_trans h tp))];rfl
theorem jb.push {T:List UInt8}{p:ac}(I:jb T p){t:Nat}(h1:p.wc+t≤p.rc+p.size)(h2:p.wc+t≤T.length):jb T (p.push ((T.drop p.wc).take t)):=by
 have len:((T.drop p.wc).take t).length=t:=by simp;exact Nat.min_eq_left (Nat.le_sub_of_add_le' h2)
 obtain ⟨a,b,c,d,e,f⟩:=mJ ((T.drop p.wc).take t) p
 rw [len] at f
 have i1:=I.le
 refine ⟨by lia,by lia,by lia,by rw [a];exact I.sz,by rw [a,b];exact I.rl,λj hj hj'=> ?_⟩
 rw [a]
 have:=Hl ((T.drop p.wc).take t) p I.le (by lia) I.rl (by have:=I.sz;lia) j (by exact Nat.le_trans (Nat.le_of_eq c.symm) hj) (by lia)
 rw [this]
 split
 ·exact I.at_ j (by exact Nat.le_trans (Nat.le_of_eq c.symm) hj) ‹_›
 ·have lt:j - p.wc<t:=by lia
  simp only [List.getD_eq_getElem?_getD,List.getElem?_take,lt,if_true,List.getElem?_drop]
  rw [show p.wc+(j - p.wc)=j by lia]
theorem jb.drop {T:List UInt8}{p:ac}(I:jb T p){t:Nat}(h1:p.rc+t≤p.wc):jb T (p.drop t):=by
 have:=I.fit
 refine ⟨h1,?_,I.top,I.sz,I.rl,λj hj hj'=>I.at_ j (Nat.le_trans (Nat.le_add_right _ _) hj) hj'⟩
 show p.wc≤p.rc+t+p.size;lia
noncomputable def rdy (p:aa):Nat:=if p.state= .ready then 1 else 0
noncomputable def KS.nrdy (K:KS):Nat:=rdy (K.proc 0)+rdy (K.proc 1)+rdy (K.proc 2)+rdy (K.proc 3)+rdy (K.proc 4)+rdy (K.proc 5)
noncomputable def oW (L m:Nat)(p:Nat→ac)(i:Nat):Nat:=if i≤m then (L - (p i).wc)+(L - (p i).rc) else 0
noncomputable def KS.moves (K:KS)(L m:Nat):Nat:=oW L m K.pipe 0+oW L m K.pipe 1+oW L m K.pipe 2+oW L m K.pipe 3
noncomputable def jW (L m e t:Nat)(K:KS)(w:ao):Nat:=2*K.moves L m+K.nrdy+2*(m+1 - e)+(if w.isOut=true then 0 else 2)+(m+1 - t)
section
variable {T:List UInt8}{m e t:Nat}{K:KS}{w:ao}(V:eg T m e t K w)
include V
theorem eg.sleeps {j:Nat}(hj:j<6)(hs:(K.proc j).state= .sleeping):
  (j=0∧w.isOut=false∧∃a,(K.proc j).chan= .pipe a m 0∧(K.pipe m).wc=(K.pipe m).rc∧e≤m)∨
  (∃i,j=i+1∧i≤m∧e≤i∧∃a,(K.proc j).chan= .pipe a i 1∧(K.pipe i).wc=(K.pipe i).rc+(K.pipe i).size)∨
  (∃i,j=i+2∧i+1≤m∧e≤i∧∃a,(K.proc j).chan= .pipe a i 0∧(K.pipe i).wc=(K.pipe i).rc):=by
 match j with
 |0=>
  refine bq λzq=> ?_
  rcases V.p0.2.2.2 with q|⟨q1,q2,a,q3,q4,q5⟩
  ·apply zq;clear zq
   rw [q] at hs;cases hs
  ·apply zq;clear zq
   exact .inl ⟨rfl,q1,a,q3,q4,q5⟩
 |i+1=>
  by_cases hi:i≤m
  ·have P:=V.pr i hi
   by_cases he:e≤i
   ·refine bq λzq=> ?_
    rcases P.live he with q|⟨q,a,q1,q2⟩|⟨q,a,j,rfl,q1,q2,q3⟩
    ·apply zq;clear zq
     rw [q] at hs;cases hs
    ·apply zq;clear zq
     exact .inr (.inl ⟨i,rfl,hi,he,a,q1,q2⟩)
    ·apply zq;clear zq
     exact .inr (.inr ⟨j,rfl,hi,q3,a,q1,q2⟩)
   ·by_cases ht:i<t
    ·rw [P.gone ht] at hs;cases hs
    ·rw [((P.dead (by exact Nat.not_le.mp he)).2 (by exact Nat.not_lt.mp ht)).1] at hs;cases hs
  ·rw [V.un (i+1) (by exact Nat.succ_le_succ (Nat.not_le.mp hi)) hj] at hs;cases hs
theorem eg.wakeR {i j:Nat}(hi:i≤m)(hj:j<6):((K.proc j).wake (.pipe 0 i 0)=K.proc j∧((K.proc j).state= .sleeping→∀a,(K.proc j).chan≠ .pipe a i 0))∨
  (j=(if i=m then 0 else i+2)∧(K.proc j).state= .sleeping∧(K.pipe i).wc=(K.pipe i).rc∧e≤i∧(K.proc j).wake (.pipe 0 i 0)=(K.proc j).rdy):=by
 by_cases hs:(K.proc j).state= .sleeping
 ·refine bq λzq=> ?_
  rcases V.sleeps hj hs with ⟨rfl,q1,a,q2,q3,q4⟩|⟨i',rfl,q1,q2,a,q3,q4⟩|⟨i',rfl,q1,q2,a,q3,q4⟩
  ·apply zq;clear zq
   by_cases h:i=m
   ·subst h
    refine .inr ⟨by simp,hs,q3,q4,?_⟩
    unfold aa.wake;rw [if_pos ⟨hs,by rw [q2];simp [Ch.same]⟩]
   ·refine .inl ⟨?_,λ_ b hb=>h ?_⟩
    ·unfold aa.wake;rw [if_neg];rw [q2];simp [Ch.same];intro _ x;exact absurd x.symm h
    ·rw [q2] at hb;cases hb;rfl
  ·apply zq;clear zq
   refine .inl ⟨?_,λ_ b hb=> ?_⟩
   ·unfold aa.wake;rw [if_neg];rw [q3];simp [Ch.same]
   ·rw [q3] at hb;cases hb
  ·apply zq;clear zq
   by_cases h:i=i'
   ·subst h
    refine .inr ⟨by rw [if_neg (by exact Nat.ne_of_lt q1)],hs,q4,q2,?_⟩
    unfold aa.wake;rw [if_pos ⟨hs,by rw [q3];simp [Ch.same]⟩]
   ·refine .inl ⟨?_,λ_ b hb=>h ?_⟩
    ·unfold aa.wake;rw [if_neg];rw [q3];simp [Ch.same];intro _ x;exact absurd x.symm h
    ·rw [q3] at hb;cases hb;rfl
 ·exact .inl ⟨by unfold aa.wake;rw [if_neg λx=>hs x.1],λx=>absurd x hs⟩
theorem eg.wakeW {i j:Nat}(hi:i≤m)(hj:j<6):((K.proc j).wake (.pipe 0 i 1)=K.proc j∧((K.proc j).state= .sleeping→∀a,(K.proc j).chan≠ .pipe a i 1))∨
  (j=i+1∧(K.proc j).state= .sleeping∧(K.pipe i).wc=(K.pipe i).rc+(K.pipe i).size∧e≤i∧(K.proc j).wake (.pipe 0 i 1)=(K.proc j).rdy):=by
 by_cases hs:(K.proc j).state= .sleeping
 ·refine bq λzq=> ?_
  rcases V.sleeps hj hs with ⟨rfl,q1,a,q2,q3,q4⟩|⟨i',rfl,q1,q2,a,q3,q4⟩|⟨i',rfl,q1,q2,a,q3,q4⟩
  ·apply zq;clear zq
   refine .inl ⟨?_,λ_ b hb=> ?_⟩
   ·unfold aa.wake;rw [if_neg];rw [q2];simp [Ch.same]
   ·rw [q2] at hb;cases hb
  ·apply zq;clear zq
   by_cases h:i=i'
   ·subst h
    refine .inr ⟨rfl,hs,q4,q2,?_⟩
    unfold aa.wake;rw [if_pos ⟨hs,by rw [q3];simp [Ch.same]⟩]
   ·refine .inl ⟨?_,λ_ b hb=>h ?_⟩
    ·unfold aa.wake;rw [if_neg];rw [q3];simp [Ch.same];intro _ x;exact absurd x.symm h
    ·rw [q3] at hb;cases hb;rfl
  ·apply zq;clear zq
   refine .inl ⟨?_,λ_ b hb=> ?_⟩
   ·unfold aa.wake;rw [if_neg];rw [q3];simp [Ch.same]
   ·rw [q3] at hb;cases hb
 ·exact .inl ⟨by unfold aa.wake;rw [if_neg λx=>hs x.1],λx=>absurd x hs⟩
theorem eg.wakeC {j:Nat}{p:Int}(hj:j<6):(K.proc j).wake (.child 0 p)=K.proc j:=by
 by_cases hs:(K.proc j).state= .sleeping
 ·unfold aa.wake;rw [if_neg]
  refine bq λzq=> ?_
  rcases V.sleeps hj hs with ⟨rfl,q1,a,q2,q3,q4⟩|⟨i',rfl,q1,q2,a,q3,q4⟩|⟨i',rfl,q1,q2,a,q3,q4⟩
  ·apply zq;clear zq
   rw [q2];simp [Ch.same]
  ·apply zq;clear zq
   rw [q3];simp [Ch.same]
  ·apply zq;clear zq
   rw [q3];simp [Ch.same]
 ·unfold aa.wake;rw [if_neg λx=>hs x.1]
theorem eg.awake (h:t<m+1):∃r,r≤m+1∧(K.proc (K.row r).proc).state= .ready:=by
 by_cases hr:∃r,r≤m+1∧(K.proc (K.row r).proc).state= .ready
 ·exact hr
 ·exfalso
  have nr:∀j,j≤m+1→(K.proc j).state≠ .ready:=λj hj q=>by
   refine hr ⟨if j=0 then m+1 else j - 1,by split<;>lia,?_⟩
   have:=(V.rs (if j=0 then m+1 else j - 1) (by split<;>lia)).proc
   by_cases h0:j=0
   ·subst h0;simp at this;simp [this];exact q
   ·simp only [h0,if_false] at this⊢
    rw [if_neg (by exact Nat.ne_of_lt (Nat.lt_succ_of_le (Nat.sub_le_of_le_add hj)))] at this
    rw [this,show j - 1+1=j by exact Nat.sub_add_cancel (Nat.pos_of_ne_zero h0)];exact q
  have key:∀d i,i≤m→i=d→e≤i→(K.pipe i).wc=(K.pipe i).rc→False:=by
   intro d
   induction d with
   |zero=>
    intro i hi e0 he hq
    subst e0
    rcases (V.pr 0 hi).live he with q|⟨q,a,q1,q2⟩|⟨q,a,j,x,q1,q2,q3⟩
    ·exact nr 1 (by lia) q
    ·have:=(V.pp 0 hi).sz;lia
    ·lia
   |succ d ih=>
    intro i hi e0 he hq
    subst e0
    rcases (V.pr (d+1) hi).live he with q|⟨q,a,q1,q2⟩|⟨q,a,j,x,q1,q2,q3⟩
    ·exact nr (d+1+1) (by exact Nat.succ_le_succ hi) q
    ·have:=(V.pp (d+1) hi).sz;lia
    ·obtain rfl:d=j:=by exact Nat.succ.inj x
     exact ih d (by exact Nat.le_of_succ_le hi) rfl q3 q2
  rcases V.p0.2.2.2 with q|⟨q1,q2,a,q3,q4,q5⟩
  ·exact nr 0 (by lia) q
  ·exact key m m (Nat.le_refl _) rfl q5 q4
end
theorem Di {n a b:Nat}(e:n=min a b)(h:n≠a):n=b:=by
 rw [Nat.min_def] at e;split at e
 ·exact absurd e h
 ·exact e
theorem we {w r z:Nat}(a:r≤w)(b:w≤r+z):w+(z - (w - r))=r+z:=
 (congrArg (· +(z - (w - r))) (Nat.add_sub_of_le a).symm).trans ((Nat.add_assoc ..).trans (congrArg _ (Nat.add_sub_of_le (Nat.sub_le_of_le_add (Nat.add_comm r z▸b)))))
theorem MP {w n L:Nat}(h:w+n≤L):L - (w+n)+n=L - w:=by rw [Nat.sub_add_eq,Nat.sub_add_cancel (Nat.le_sub_of_add_le' h)]
theorem zC {p:ac}(h:p.wc≤p.rc+p.size):p.fill≤p.size:=Nat.sub_le_of_le_add (Nat.add_comm _ _▸h)
theorem zE {p:ac}(h:p.rc≤p.wc)(e:p.fill=0):p.wc=p.rc:=Nat.le_antisymm (Nat.le_of_sub_eq_zero e) h
theorem Gs {α:Type}(l:List α)(n:Nat):l.drop (l.length - (l.length - n))=l.drop n:=by
 by_cases h:n≤l.length
 ·rw [Nat.sub_sub_self h]
 ·have h:=Nat.le_of_not_le h
  rw [Nat.sub_eq_zero_of_le h,Nat.sub_zero,List.drop_length,List.drop_of_length_le h]
theorem GO {α:Type}(l:List α)(n:Nat):l.take (l.length - (l.length - n))=l.take n:=by
 by_cases h:n≤l.length
 ·rw [Nat.sub_sub_self h]
 ·have h:=Nat.le_of_not_le h
  rw [Nat.sub_eq_zero_of_le h,Nat.sub_zero,List.take_length,List.take_of_length_le h]
noncomputable def mH (u:Nat→Nat):Nat→Nat
 |0=>u 0
 |n+1=>mH u n+u (n+1)
theorem Ey {u v:Nat→Nat}:∀n,(∀j,j≤n→u j≤v j)→mH u n≤mH v n
 |0,h=>h 0 (Nat.le_refl 0)
 |n+1,h=>Nat.add_le_add (Ey n λj q=>h j (Nat.le_succ_of_le q)) (h _ (Nat.le_refl _))
theorem oG (u v:Nat→Nat):∀n,mH (λj=>u j+v j) n=mH u n+mH v n
 |0=>rfl
 |n+1=>(congrArg (· +_) (oG u v n)).trans (Nat.add_add_add_comm ..)
theorem tW (a d:Nat):∀n,mH (λj=>if j=a then d else 0) n=if a≤n then d else 0
 |0=>by show (if 0=a then d else 0)=_;split<;>split<;>lia
 |n+1=>by show mH _ n+(if n+1=a then d else 0)=_;rw [tW a d n];split<;>split<;>split<;>lia
theorem Gh {c:Prop} [Decidable c] (d:Nat):(if c then d else 0)≤d:=by split;exact Nat.le_refl d;exact Nat.zero_le d
theorem lZ {K K2:KS}{a x d:Nat}{c:Prop} [Decidable c] (ha:a<6)(h:∀j,j<6→j≠a→rdy (K2.proc j)≤rdy (K.proc j)+if j=x∧c then 1 else 0)(h0:rdy (K2.proc a)+d≤rdy (K.proc a)):K2.nrdy+d≤K.nrdy+if c then 1 else 0:=by
 have k:mH (λj=>rdy (K2.proc j)+if j=a then d else 0) 5≤mH (λj=>rdy (K.proc j)+if j=x then (if c then 1 else 0) else 0) 5:=Ey 5 λj hj=>by
  by_cases e:j=a
  ·rw [if_pos e,e];exact Nat.le_trans h0 (Nat.le_add_right _ _)
  ·rw [if_neg e];refine Nat.le_trans (h j (Nat.lt_succ_of_le hj) e) (Nat.add_le_add_left ?_ _)
   by_cases q:j=x
   ·rw [if_pos q];by_cases r:c
    ·rw [if_pos r,if_pos ⟨q,r⟩];exact Nat.le_refl _
    ·rw [if_neg λz=>r z.2];exact Nat.zero_le _
   ·rw [if_neg λz=>q z.1];exact Nat.zero_le _
 rw [oG,oG,tW,tW,if_pos (Nat.le_of_lt_succ ha)] at k
 exact Nat.le_trans k (Nat.add_le_add_left (Gh _) _)
theorem gM {α:Type}{β:Sort _}(f:α→β){i j:Nat}{x:α}{g:Nat→α}(e:f x=f (g i)):f (if j=i then x else g j)=f (g j):=by
 split
 ·next q=>rw [q];exact e
 ·rfl
theorem tv {α:Type}{β:Sort _}(f:α→β){i j:Nat}{c:Prop} [Decidable c] {x y:α}{g:Nat→α}(e:f x=f (g i))(e2:f y=f (g j)):f (if j=i then x else if c then y else g j)=f (g j):=by
 split
 ·next q=>rw [q];exact e
 ·split
  ·exact e2
  ·rfl
theorem A8 {α:Type}{β:Sort _}(f:α→β){i j:Nat}{x:α}{g:Nat→α}{y:β}(e:f x=y):f (if j=i then x else g j)=if j=i then y else f (g j):=by
 split
 ·exact e
 ·rfl
theorem zB {α:Type}(p:Nat→α→Prop){i j:Nat}{x:α}{g:Nat→α}(e:p i x)(h:p j (g j)):p j (if j=i then x else g j):=by
 split
 ·next q=>rw [q];exact e
 ·exact h
theorem Ab.kept {L e e2 t j:Nat}{K K2:KS}(P:Ab L e t K j)(q1:K2.proc (j+1)=K.proc (j+1))(dd:j<e2→j<e)(ee:e2≤j→e≤j)(d:j<e→(K2.pipe j).wc=(K.pipe j).wc)
  (a1:∀a,(K.proc (j+1)).state= .sleeping→(K.proc (j+1)).chan= .pipe a j 1→(K.pipe j).wc=(K.pipe j).rc+(K.pipe j).size→(K2.pipe j).wc=(K2.pipe j).rc+(K2.pipe j).size)
  (a2:∀a k,j=k+1→(K.proc (j+1)).state= .sleeping→(K.proc (j+1)).chan= .pipe a k 0→(K.pipe k).wc=(K.pipe k).rc→e≤k→e2≤j→(K2.pipe k).wc=(K2.pipe k).rc∧e2≤k):Ab L e2 t K2 j:=
 ⟨λx=>by rw [q1];exact P.gone x,λx=>by rw [q1];exact P.here x,λx=>by rw [q1,d (dd x)];exact P.dead (dd x),λx=>by
  rw [q1]
  rcases P.live (ee x) with z|⟨z,a,z1,z2⟩|⟨z,a,k,z1,z2,z3,z4⟩
  ·exact .inl z
  ·exact .inr (.inl ⟨z,a,z1,a1 a z z1 z2⟩)
  ·exact .inr (.inr ⟨z,a,k,z1,z2,a2 a k z1 z z2 z3 z4 x⟩)⟩
theorem Go {a b x y z:Nat}(h:a<b):a+x+y+z<b+x+y+z:=Nat.add_lt_add_right (Nat.add_lt_add_right (Nat.add_lt_add_right h _) _) _
theorem DV {M M' n N N':Nat}(n0:0<n)(mv:M'+n=M)(nr:N'≤N+1):2*M'+N'<2*M+N:=
 Nat.lt_of_le_of_lt (Nat.le_trans (Nat.add_le_add_left nr _) (Nat.le_of_eq (Nat.add_right_comm (2*M') N 1))) (Nat.add_lt_add_right (Nat.lt_of_lt_of_le (Nat.lt_succ_self (2*M'+1)) (Nat.mul_le_mul_left 2 (Nat.le_trans (Nat.add_le_add_left n0 M') (Nat.le_of_eq mv)))) N)
theorem vz {K K2:KS}{L m i n:Nat}(hi:i≤m)(m3:m≤3)(mv:∀j,oW L m K2.pipe j+(if j=i then n else 0)=oW L m K.pipe j):K2.moves L m+n=K.moves L m:=by
 have a0:mH _ 3=mH _ 3:=congrArg (mH · 3) (funext mv)
 rw [oG,tW,if_pos (Nat.le_trans hi m3)] at a0
 exact a0
section
variable {T:List UInt8}{m e t:Nat}{K:KS}{w:ao}(V:eg T m e t K w)
include V
theorem eg.src_le {i:Nat}(hi:i≤m):(K.pipe i).wc≤K.src T i∧K.src T i≤T.length:=by
 obtain ⟨b,D⟩:=V.rd i hi
 exact D.le.2
theorem eg.write {i n b':Nat}{p':aa}{r':c6}{K1:KS}(hi:i≤m)(he:e≤i)(hr:(K.proc (i+1)).state= .ready)
  (fit:(K.pipe i).wc+n≤(K.pipe i).rc+(K.pipe i).size) (hs:(K.pipe i).wc+n≤K.src T i)
  (hK:K1=(K.setPipe i ((K.pipe i).push ((T.drop (K.pipe i).wc).take n))).wake (.pipe 0 i 0))
  (p1:p'.pid=(K.proc (i+1)).pid∧p'.parent=(K.proc (i+1)).parent∧p'.files=(K.proc (i+1)).files)
  (p2:(p'.state= .ready∧0<n)∨(p'.state= .sleeping∧∃a,p'.chan= .pipe a i 1∧(K.pipe i).wc+n=(K.pipe i).rc+(K.pipe i).size))
  (rS:uE m r' i) (rL:r'.left=(K.row i).left) (rD:Cr T ((K.pipe i).wc+n) (K.src T i) i r' p'.progress b'):
  eg T m e t ((K1.setProc (i+1) p').setRow i r') w∧jW T.length m e t ((K1.setProc (i+1) p').setRow i r') w<jW T.length m e t K w:=by
 have m3:=V.m3
 have sl:=V.src_le hi
 have PI:=(V.pp i hi).push fit (by lia)
 have len:((T.drop (K.pipe i).wc).take n).length=n:=by rw [List.length_take,List.length_drop];exact Nat.min_eq_left (Nat.le_sub_of_add_le' (Nat.le_trans hs sl.2))
 refine bq λzq=> ?_
 obtain ⟨k1,k2,k3,k4,k5,k6⟩:=mJ ((T.drop (K.pipe i).wc).take n) (K.pipe i)
 apply zq;clear zq
 rw [len] at k6
 generalize (K.pipe i).push ((T.drop (K.pipe i).wc).take n)=P at hK PI k1 k2 k3 k4 k5 k6
 subst hK
 let K2:=(((K.setPipe i P).wake (.pipe 0 i 0)).setProc (i+1) p').setRow i r'
 show eg T m e t K2 w∧jW T.length m e t K2 w<jW T.length m e t K w
 have pipe:∀j,K2.pipe j=if j=i then P else K.pipe j:=λj=>rfl
 have proc:∀j,K2.proc j=if j=i+1 then p' else if j<6 then (K.proc j).wake (.pipe 0 i 0) else K.proc j:=λj=>rfl
 have row:∀j,K2.row j=if j=i then r' else K.row j:=λj=>rfl
 have src:∀j,K2.src T j=K.src T j:=λj=>by
  cases j with
  |zero=>exact (congrArg (λx:c6=>T.length - x.left.length) (row 0)).trans (gM (λx:c6=>T.length - x.left.length) (congrArg (T.length - ·.length) rL))
  |succ j=>exact (congrArg ac.rc (pipe j)).trans (gM ac.rc k3)
 have prc:∀j,(K2.pipe j).rc=(K.pipe j).rc∧(K2.pipe j).ro=(K.pipe j).ro∧(K2.pipe j).wo=(K.pipe j).wo∧(K2.pipe j).size=(K.pipe j).size∧(K2.pipe j).wc=if j=i then (K.pipe i).wc+n else (K.pipe j).wc:=λj=>by
  rw [pipe];exact ⟨gM ac.rc k3,gM ac.ro k4,gM ac.wo k5,gM ac.size k1,A8 ac.wc k6⟩
 have szi:=(V.pp i hi).sz
 have roi:=V.ro i hi
 have oproc:∀j,j<6→j≠i+1→K2.proc j=K.proc j∧((K.proc j).state= .sleeping→∀a,(K.proc j).chan≠ .pipe a i 0)∨
   (j=(if i=m then 0 else i+2)∧0<n∧(K.proc j).state= .sleeping∧K2.proc j=(K.proc j).rdy):=λj hj hne=>by
  rw [proc,if_neg hne,if_pos hj]
  refine bq λzq=> ?_
  rcases V.wakeR hi hj with ⟨q1,q2⟩|⟨q1,q2,q3,q4,q5⟩
  ·apply zq;clear zq
   exact .inl ⟨q1,q2⟩
  ·apply zq;clear zq
   refine .inr ⟨q1,?_,q2,q5⟩
   rcases p2 with ⟨_,z⟩|⟨_,a,_,z⟩
   ·exact z
   ·lia
 have self:K2.proc (i+1)=p':=by rw [proc,if_pos rfl]
 constructor
 ·refine ⟨m3,V.em,V.tm,V.tl,V.np,V.nf,V.nd,V.nr,V.fst,V.wor,V.lis,?_,V.nio,V.told,?_,?_,?_,?_,?_,V.fw,V.opl,?_,?_,?_,?_,?_,V.ds,V.d0,?_,?_,?_⟩
  ·rw [(prc m).1];exact V.io
  ·rw [(prc m).1];exact V.out
  ·intro j hj;rw [pipe];exact zB (λ_=>jb T) PI (V.pp j hj)
  ·intro j hj;rw [(prc j).2.2.1];exact V.wo j hj
  ·intro j hj;rw [(prc j).2.1];exact V.ro j hj
  ·intro j hj;rw [(prc j).2.1];exact V.fr j hj
  ·intro j hj;rw [(prc j).2.1,(prc j).2.2.1];exact V.opn j hj
  ·intro j hj;rw [(prc j).2.1,(prc j).2.2.1];exact V.tab j hj
  ·intro j hj;rw [row];exact zB (λj x=>uE m x j) rS (V.rs j hj)
  ·intro j hj
   rw [src,(prc j).2.2.2.2,row]
   by_cases q:j=i
   ·rw [if_pos q,if_pos q,q,self];exact ⟨b',rD⟩
   ·rw [if_neg q,if_neg q]
    have:(K2.proc (j+1)).progress=(K.proc (j+1)).progress:=by
     rcases oproc (j+1) (by lia) (by lia) with ⟨q1,_⟩|⟨_,_,_,q1⟩<;>(rw [q1];try rfl)
    rw [this];exact V.rd j hj
  ·rw [row,if_neg (by lia)];exact V.rl
  ·intro j hj
   have P:=V.pr j hj
   by_cases q:j=i
   ·rw [q] at P⊢
    refine ⟨λx=>by have:=V.tm;lia,λ_=>by rw [self,p1.1,p1.2.1,p1.2.2];exact P.here (by have:=V.tm;lia),λx=>by lia,λ_=> ?_⟩
    rw [self,(prc i).1,(prc i).2.2.2.1,(prc i).2.2.2.2,if_pos rfl]
    refine bq λzq=> ?_
    rcases p2 with ⟨z,_⟩|⟨z,a,z1,z2⟩
    ·apply zq;clear zq
     exact .inl z
    ·apply zq;clear zq
     exact .inr (.inl ⟨z,a,z1,z2⟩)
   ·rcases oproc (j+1) (by lia) (by lia) with ⟨q1,q2⟩|⟨q0,qn,qs,q1⟩
    ·exact P.kept q1 id id (λ_=>by rw [(prc j).2.2.2.2,if_neg q]) (λa z z1 z2=>by rw [(prc j).1,(prc j).2.2.2.1,(prc j).2.2.2.2,if_neg q];exact z2) λa k _ z z2 z3 z4 _=>⟨by rw [(prc k).1,(prc k).2.2.2.2,if_neg (λx:k=i=>q2 z a (by rw [←x];exact z2))];exact z3,z4⟩
    ·have ej:j=i+1:=by split at q0<;>lia
     refine ⟨λx=>by have:=V.tm;lia,λx=> ?_,λx=>by lia,λx=> ?_⟩
     ·rw [q1];exact P.here x
     ·rw [q1];exact .inl rfl
  ·refine bq λzq=> ?_
   obtain ⟨z1,z2,z3,z4⟩:=V.p0
   rcases oproc 0 (by lia) (by lia) with ⟨q1,q2⟩|⟨q0,qn,qs,q1⟩
   ·apply zq;clear zq
    rw [q1]
    refine ⟨z1,z2,z3,?_⟩
    refine bq λzq=> ?_
    rcases z4 with z|⟨y1,y2,a,y3,y4,y5⟩
    ·apply zq;clear zq
     exact .inl z
    ·apply zq;clear zq
     refine .inr ⟨y1,y2,a,y3,?_,y5⟩
     rw [(prc m).1,(prc m).2.2.2.2,if_neg (λx:m=i=>q2 y2 a (by rw [←x];exact y3))];exact y4
   ·apply zq;clear zq
    rw [q1];exact ⟨z1,z2,z3,.inl rfl⟩
  ·intro j h1 h2
   refine bq λzq=> ?_
   rcases oproc j h2 (by lia) with ⟨q1,q2⟩|⟨q0,qn,qs,q1⟩
   ·apply zq;clear zq
    rw [q1];exact V.un j h1 h2
   ·apply zq;clear zq
    rw [V.un j h1 h2] at qs;cases qs
 ·have mv:∀j,oW T.length m K2.pipe j+(if j=i then n else 0)=oW T.length m K.pipe j:=λj=>by
   unfold oW
   rw [(prc j).1,(prc j).2.2.2.2]
   by_cases q:j=i
   ·rw [q,if_pos rfl,if_pos rfl,if_pos hi,if_pos hi,Nat.add_right_comm,MP (Nat.le_trans hs sl.2)]
   ·rw [if_neg q,if_neg q];rfl
  have moves:=vz hi m3 mv
  have rd1:rdy (K.proc (i+1))=1:=if_pos hr
  have rd2:rdy (K2.proc (i+1))+(if n=0 then 1 else 0)≤1:=by
   rw [self];unfold rdy
   refine bq λzq=> ?_
   rcases p2 with ⟨z1,z2⟩|⟨z,_⟩
   ·apply zq;clear zq
    rw [z1,if_pos rfl,if_neg (show ¬n=0 by lia)];exact Nat.le_refl _
   ·apply zq;clear zq
    rw [z,if_neg (by simp)];split<;>lia
  have rdo:∀j,j<6→j≠i+1→rdy (K2.proc j)≤rdy (K.proc j)+if j=(if i=m then 0 else i+2)∧0<n then 1 else 0:=λj hj hne=>by
   refine bq λzq=> ?_
   rcases oproc j hj hne with ⟨q1,q2⟩|⟨q0,qn,qs,q1⟩
   ·apply zq;clear zq
    rw [q1];lia
   ·apply zq;clear zq
    rw [if_pos ⟨q0,qn⟩];unfold rdy;split<;>split<;>lia
  generalize (if i=m then 0 else i+2)=x at rdo
  have nr:K2.nrdy+(if n=0 then 1 else 0)≤K.nrdy+if 0<n then 1 else 0:=by
   exact lZ (a:=i+1) (by lia) rdo (by lia)
  by_cases n0:n=0
  ·rw [if_pos n0,if_neg (Nat.not_lt.mpr (Nat.le_of_eq n0))] at nr
   rw [n0] at moves
   exact Go (Nat.lt_of_lt_of_le (Nat.add_lt_add_left nr _) (Nat.add_le_add_right (Nat.mul_le_mul_left 2 (Nat.le_of_eq moves)) _))
  ·rw [if_neg n0,if_pos (Nat.pos_of_ne_zero n0)] at nr
   exact Go (DV (Nat.pos_of_ne_zero n0) moves nr)
end
section
variable {T:List UInt8}{m e t:Nat}{K:KS}{w:ao}(V:eg T m e t K w)
include V
theorem eg.read {i n b':Nat}{r':c6}{w':ao}{K1:KS}(hi:i≤m)
  (fit:(K.pipe i).rc+n≤(K.pipe i).wc) (n0:0<n) (hq:e≤i+1) (ho:w.isOut=false)
  (hK:K1=(K.setPipe i ((K.pipe i).drop n)).wake (.pipe 0 i 1))
  (rdq:(K.proc (if i=m then 0 else i+2)).state= .ready)
  (rS:uE m r' (i+1))
  (cA:i<m→Cr T (K.pipe (i+1)).wc ((K.pipe i).rc+n) (i+1) r' (K.proc (i+2)).progress b'∧w'=w)
  (cB:i=m→r'=K.row (m+1)∧w'=w.wOut (T.take ((K.pipe m).rc+n))):
  eg T m e t ((K1.setRow (i+1) r').setWorld w') w'∧jW T.length m e t ((K1.setRow (i+1) r').setWorld w') w'<jW T.length m e t K w:=by
 have m3:=V.m3
 have PI:=(V.pp i hi).drop fit
 have k1:((K.pipe i).drop n).size=(K.pipe i).size:=rfl
 have k3:((K.pipe i).drop n).rc=(K.pipe i).rc+n:=rfl
 have k4:((K.pipe i).drop n).ro=(K.pipe i).ro:=rfl
 have k5:((K.pipe i).drop n).wo=(K.pipe i).wo:=rfl
 have k6:((K.pipe i).drop n).wc=(K.pipe i).wc:=rfl
 generalize (K.pipe i).drop n=P at hK PI k1 k3 k4 k5 k6
 subst hK
 let K2:=(((K.setPipe i P).wake (.pipe 0 i 1)).setRow (i+1) r').setWorld w'
 show eg T m e t K2 w'∧jW T.length m e t K2 w'<jW T.length m e t K w
 have wi:w'.isOut=w.isOut∧w'.told=w.told:=by
  by_cases q:i=m
  ·rw [(cB q).2];exact ⟨rfl,rfl⟩
  ·rw [(cA (by lia)).2];exact ⟨rfl,rfl⟩
 have pipe:∀j,K2.pipe j=if j=i then P else K.pipe j:=λj=>rfl
 have proc:∀j,K2.proc j=if j<6 then (K.proc j).wake (.pipe 0 i 1) else K.proc j:=λj=>rfl
 have row:∀j,K2.row j=if j=i+1 then r' else K.row j:=λj=>rfl
 have src:∀j,K2.src T j=if j=i+1 then (K.pipe i).rc+n else K.src T j:=λj=>by
  cases j with
  |zero=>exact (congrArg (λx:c6=>T.length - x.left.length) ((row 0).trans (if_neg (Ne.symm (Nat.succ_ne_zero i))))).trans (if_neg (Ne.symm (Nat.succ_ne_zero i))).symm
  |succ j=>exact ((congrArg ac.rc (pipe j)).trans (A8 ac.rc k3)).trans (ite_congr (propext Nat.succ_inj.symm) (λ_=>rfl) λ_=>rfl)
 have prc:∀j,(K2.pipe j).wc=(K.pipe j).wc∧(K2.pipe j).ro=(K.pipe j).ro∧(K2.pipe j).wo=(K.pipe j).wo∧(K2.pipe j).size=(K.pipe j).size∧(K2.pipe j).rc=if j=i then (K.pipe i).rc+n else (K.pipe j).rc:=λj=>by
  rw [pipe];exact ⟨gM ac.wc k6,gM ac.ro k4,gM ac.wo k5,gM ac.size k1,A8 ac.rc k3⟩
 have szi:=(V.pp i hi).sz
 have oproc:∀j,j<6→K2.proc j=K.proc j∧((K.proc j).state= .sleeping→∀a,(K.proc j).chan≠ .pipe a i 1)∨
   (j=i+1∧e≤i∧(K.proc j).state= .sleeping∧K2.proc j=(K.proc j).rdy):=λj hj=>by
  rw [proc,if_pos hj]
  refine bq λzq=> ?_
  rcases V.wakeW hi hj with ⟨q1,q2⟩|⟨q1,q2,q3,q4,q5⟩
  ·apply zq;clear zq
   exact .inl ⟨q1,q2⟩
  ·apply zq;clear zq
   exact .inr ⟨q1,q4,q2,q5⟩
 constructor
 ·refine ⟨m3,V.em,V.tm,V.tl,V.np,V.nf,V.nd,V.nr,V.fst,rfl,V.lis,?_,?_,?_,?_,?_,?_,?_,?_,V.fw,V.opl,?_,?_,?_,?_,?_,V.ds,?_,?_,?_,?_⟩
  ·rw [wi.1,ho];intro x;cases x
  ·rw [wi.1];exact V.nio
  ·rw [wi.2];exact V.told
  ·rw [(prc m).2.2.2.2]
   by_cases q:i=m
   ·rw [(cB q).2,if_pos q.symm,q];rfl
   ·rw [(cA (by lia)).2,if_neg (Ne.symm q)];exact V.out
  ·intro j hj;rw [pipe];exact zB (λ_=>jb T) PI (V.pp j hj)
  ·intro j hj;rw [(prc j).2.2.1];exact V.wo j hj
  ·intro j hj;rw [(prc j).2.1,wi.1];exact V.ro j hj
  ·intro j hj;rw [(prc j).2.1];exact V.fr j hj
  ·intro j hj;rw [(prc j).2.1,(prc j).2.2.1];exact V.opn j hj
  ·intro j hj;rw [(prc j).2.1,(prc j).2.2.1];exact V.tab j hj
  ·intro j hj;rw [row];exact zB (λj x=>uE m x j) rS (V.rs j hj)
  ·intro j hj
   rw [src,(prc j).1,row]
   have pg:(K2.proc (j+1)).progress=(K.proc (j+1)).progress:=by
    rcases oproc (j+1) (by lia) with ⟨q1,_⟩|⟨_,_,_,q1⟩<;>(rw [q1];try rfl)
   rw [pg]
   by_cases q:j=i+1
   ·rw [if_pos q,if_pos q,q];exact ⟨b',(cA (by lia)).1⟩
   ·rw [if_neg q,if_neg q];exact V.rd j hj
  ·rw [row];split
   ·rename_i q;rw [(cB (by lia)).1];exact V.rl
   ·exact V.rl
  ·rw [wi.1];exact V.d0
  ·intro j hj
   have P:=V.pr j hj
   rcases oproc (j+1) (by lia) with ⟨q1,q2⟩|⟨q0,qe,qs,q1⟩
   ·refine P.kept q1 id id (λ_=>(prc j).1) (λa z z1 z2=>by rw [(prc j).1,(prc j).2.2.2.1,(prc j).2.2.2.2,if_neg (λx:j=i=>q2 z a (by rw [←x];exact z1))];exact z2) λa k z1 z z2 z3 z4 _=>⟨?_,z4⟩
    by_cases y:k=i
    ·rw [if_neg (λx=>Nat.not_succ_le_self _ (Nat.le_trans (Nat.le_of_eq (z1.symm.trans rfl)) (Nat.le_trans hj (Nat.le_of_eq (x.symm.trans y.symm))))),←y,show k+2=j+1 from congrArg (· +1) z1.symm,z] at rdq;cases rdq
    ·rw [(prc k).1,(prc k).2.2.2.2,if_neg y];exact z3
   ·have:j=i:=by lia
    rw [this] at q1 P⊢
    refine ⟨λx=>by have:=V.tm;lia,λx=> ?_,λx=>by lia,λx=> ?_⟩
    ·rw [q1];exact P.here x
    ·rw [q1];exact .inl rfl
  ·refine bq λzq=> ?_
   obtain ⟨z1,z2,z3,z4⟩:=V.p0
   rcases oproc 0 (by lia) with ⟨q1,q2⟩|⟨q0,_⟩
   ·apply zq;clear zq
    rw [q1]
    refine ⟨z1,z2,z3,?_⟩
    refine bq λzq=> ?_
    rcases z4 with z|⟨y1,y2,a,y3,y4,y5⟩
    ·apply zq;clear zq
     exact .inl z
    ·apply zq;clear zq
     by_cases y:i=m
     ·rw [if_pos y,y2] at rdq;cases rdq
     ·refine .inr ⟨by rw [wi.1];exact y1,y2,a,y3,?_,y5⟩
      rw [(prc m).1,(prc m).2.2.2.2,if_neg (Ne.symm y)];exact y4
   ·apply zq;clear zq
    lia
  ·intro j h1 h2
   refine bq λzq=> ?_
   rcases oproc j h2 with ⟨q1,q2⟩|⟨q0,qn,qs,q1⟩
   ·apply zq;clear zq
    rw [q1];exact V.un j h1 h2
   ·apply zq;clear zq
    rw [V.un j h1 h2] at qs;cases qs
 ·have top:=(V.pp i hi).top
  have mv:∀j,oW T.length m K2.pipe j+(if j=i then n else 0)=oW T.length m K.pipe j:=λj=>by
   unfold oW
   rw [(prc j).1,(prc j).2.2.2.2]
   by_cases q:j=i
   ·rw [q,if_pos rfl,if_pos rfl,if_pos hi,if_pos hi,Nat.add_assoc,MP (Nat.le_trans fit top)]
   ·rw [if_neg q,if_neg q];rfl
  have moves:=vz hi m3 mv
  have rdo:∀j,j<6→rdy (K2.proc j)≤rdy (K.proc j)+if j=i+1∧True then 1 else 0:=λj hj=>by
   refine bq λzq=> ?_
   rcases oproc j hj with ⟨q1,q2⟩|⟨q0,qn,qs,q1⟩
   ·apply zq;clear zq
    rw [q1];lia
   ·apply zq;clear zq
    rw [if_pos ⟨q0,trivial⟩];unfold rdy;split<;>split<;>lia
  have ⟨a6,an⟩:(if i=m then 0 else i+2)<6∧(if i=m then 0 else i+2)≠i+1:=by split<;>lia
  generalize (if i=m then 0 else i+2)=a at a6 an
  have nr:=lZ (K:=K) (K2:=K2) (a:=a) (x:=i+1) (c:=True) (d:=0) a6 (λj hj _=>rdo j hj) (by
   have:=rdo a a6
   rw [if_neg (λq=>an q.1)] at this;lia)
  rw [if_pos trivial] at nr
  show 2*K2.moves T.length m+K2.nrdy+_+(if w'.isOut=true then 0 else 2)+_<_
  rw [wi.1]
  exact Go (DV n0 moves nr)
end
section
variable {T:List UInt8}{m e t:Nat}{K:KS}{w:ao}(V:eg T m e t K w)
include V
theorem eg.nap {i q:Nat}{a:Addr}(hi:i≤m)(he:e≤i)(hq:q=if i=m then 0 else i+2)(hr:(K.proc q).state= .ready)(hf:(K.pipe i).wc=(K.pipe i).rc):
  eg T m e t (K.setProc q (((K.proc q).wState .sleeping).wChan (.pipe a i 0))) w∧jW T.length m e t (K.setProc q (((K.proc q).wState .sleeping).wChan (.pipe a i 0))) w<jW T.length m e t K w:=by
 have m3:=V.m3
 have em:=V.em
 have ho:w.isOut=false:=by
  cases q:w.isOut with
  |false=>rfl
  |true=>have:=(V.io q).1;lia
 have q6:q<6:=by rw [hq];split<;>lia
 let K2:=K.setProc q (((K.proc q).wState .sleeping).wChan (.pipe a i 0))
 show eg T m e t K2 w∧jW T.length m e t K2 w<jW T.length m e t K w
 have proc:∀j,K2.proc j=if j=q then (((K.proc q).wState .sleeping).wChan (.pipe a i 0)) else K.proc j:=λj=>rfl
 constructor
 ·refine ⟨m3,V.em,V.tm,V.tl,V.np,V.nf,V.nd,V.nr,V.fst,V.wor,V.lis,V.io,V.nio,V.told,V.out,V.pp,V.wo,V.ro,V.fr,V.fw,V.opl,V.opn,V.tab,V.rs,?_,V.rl,V.ds,V.d0,?_,?_,?_⟩
  ·intro j hj
   have:(K2.proc (j+1)).progress=(K.proc (j+1)).progress:=by
    rw [proc];split
    ·rename_i x;rw [x];rfl
    ·rfl
   rw [this];cases j<;>exact V.rd _ hj
  ·intro j hj
   have P:=V.pr j hj
   by_cases x:j+1=q
   ·have e1:i≠m:=λy=>by rw [if_pos y] at hq;lia
    rw [if_neg e1] at hq
    have jt:t≤j:=by have:=V.tm;lia
    refine ⟨λy=>by lia,λ_=> ?_,λy=>by lia,λ_=> ?_⟩
    ·rw [proc,if_pos x];subst x;exact P.here jt
    ·rw [proc,if_pos x];exact .inr (.inr ⟨rfl,a,i,by lia,rfl,hf,he⟩)
   ·have:K2.proc (j+1)=K.proc (j+1):=by rw [proc,if_neg x]
    refine ⟨by rw [this];exact P.gone,by rw [this];exact P.here,by rw [this];exact P.dead,by rw [this];exact P.live⟩
  ·refine bq λzq=> ?_
   obtain ⟨z1,z2,z3,z4⟩:=V.p0
   apply zq;clear zq
   by_cases x:0=q
   ·rw [proc,if_pos x,←x]
    have e1:i=m:=by
     by_cases y:i=m
     ·exact y
     ·rw [if_neg y] at hq;lia
    exact ⟨z1,z2,z3,.inr ⟨ho,rfl,a,by rw [e1];rfl,by rw [←e1];exact hf,by lia⟩⟩
   ·rw [proc,if_neg x];exact V.p0
  ·intro j h1 h2
   rw [proc,if_neg (by rw [hq];split<;>lia)];exact V.un j h1 h2
 ·have nr:=lZ (K:=K) (K2:=K2) (a:=q) (x:=7) (c:=False) (d:=1) q6 (λj hj ne=>by rw [proc,if_neg ne];lia) (by
   rw [proc,if_pos rfl];unfold rdy;rw [if_neg (by simp),hr,if_pos rfl];lia)
  rw [if_neg id] at nr
  exact Go (Nat.add_lt_add_left nr _)
theorem eg.piece {s:Nat}(he:e=0)(hr:(K.row 0).rest=[])(hl:(K.row 0).left≠[])(hs:1≤s):
  eg T m e t (K.setRow 0 (((K.row 0).wRest ((K.row 0).left.take s)).wLeft ((K.row 0).left.drop s))) w∧
   jW T.length m e t (K.setRow 0 (((K.row 0).wRest ((K.row 0).left.take s)).wLeft ((K.row 0).left.drop s))) w=jW T.length m e t K w∧
   ((K.row 0).left.take s≠[]):=by
 have m3:=V.m3
 generalize hr':((((K.row 0).wRest ((K.row 0).left.take s)).wLeft ((K.row 0).left.drop s)):c6)=r'
 let K2:=K.setRow 0 r'
 show eg T m e t K2 w∧jW T.length m e t K2 w=jW T.length m e t K w∧_
 have row:∀j,K2.row j=if j=0 then r' else K.row j:=λj=>rfl
 have src0:K2.src T 0=T.length - ((K.row 0).left.drop s).length:=by show T.length - r'.left.length=_;rw [←hr'];rfl
 refine bq λzq=> ?_
 obtain ⟨b,D⟩:=V.rd 0 (by lia)
 apply zq;clear zq
 have dl:=D.left
 have ds:=D.le
 have drr:=D.rest
 rw [hr] at drr
 have dll:(K.row 0).left.length=T.length - K.src T 0:=by
  have:=congrArg List.length dl
  simpa using this
 have bs:b=K.src T 0:=by
  have:=congrArg List.length drr
  rw [List.length_take,List.length_drop] at this
  exact vy ds this
 refine ⟨?_,?_,?_⟩
 ·refine ⟨m3,V.em,V.tm,V.tl,V.np,V.nf,V.nd,V.nr,V.fst,V.wor,V.lis,V.io,V.nio,V.told,V.out,V.pp,V.wo,V.ro,V.fr,V.fw,V.opl,V.opn,V.tab,?_,?_,?_,V.ds,V.d0,λj hj=>⟨(V.pr j hj).gone,(V.pr j hj).here,(V.pr j hj).dead,(V.pr j hj).live⟩,V.p0,V.un⟩
  ·intro j hj
   rw [row];split
   ·rename_i x;rw [x]
    have:=V.rs 0 (Nat.zero_le _)
    rw [←hr'];exact ⟨this.proc,this.lst,this.pid,this.out,this.inn,this.size⟩
   ·exact V.rs j hj
  ·intro j hj
   cases j with
   |zero=>
    rw [src0,row,if_pos rfl,←hr']
    rw [List.length_drop,dll,Nat.sub_sub]
    have h5:K.src T 0≤T.length - (T.length - (K.src T 0+s)):=Nat.le_trans (Nat.le_of_eq (Nat.sub_sub_self ds.2.2).symm) (Nat.sub_le_sub_left (Nat.sub_le_sub_left (Nat.le_add_right _ s) _) _)
    refine ⟨b,?_,D.pas,D.prog,⟨ds.1,Nat.le_trans ds.2.1 h5,Nat.sub_le ..⟩,?_,λq=>Nat.le_antisymm (Nat.le_trans ds.1 (Nat.le_of_eq q)) (Nat.le_trans (Nat.le_of_eq q.symm) (Nat.le_trans ds.2.1 (Nat.le_of_eq bs.symm)))⟩
    ·show (K.row 0).left.drop s=_
     rw [if_pos rfl,dl,if_pos rfl,List.drop_drop,Gs]
    ·show (K.row 0).left.take s=_
     rw [dl,if_pos rfl,bs,Nat.sub_right_comm,←Nat.sub_sub,←List.length_drop,GO]
   |succ j=>rw [row,if_neg (Nat.succ_ne_zero j)];exact V.rd (j+1) hj
  ·rw [row,if_neg (Nat.succ_ne_zero m)];exact V.rl
 ·rfl
 ·exact λz=>(List.take_eq_nil_iff.mp z).elim (λe=>Nat.ne_of_gt hs e) hl
end
section
variable {T:List UInt8}{m e t:Nat}{K:KS}{w:ao}(V:eg T m e t K w)
include V
theorem eg.ends {K2:KS}(hi:e≤m)(hr:(K.proc (e+1)).state= .ready)(hd:(K.pipe e).wc=T.length)(hrest:(K.row e).rest=[])
  (proc:∀j,j<6→K2.proc j=if j=e+1 then (((K.proc (e+1)).wProg 0).dead T.length) else (K.proc j).wake (.pipe 0 e 0))
  (pipe:∀j,K2.pipe j=if j=e then ((K.pipe e).wWo false) else if j+1=e then ((K.pipe j).wRo false) else K.pipe j)
  (tab:∀j∈K2.tab,j∈K.tab∧j+1≠e)
  (opl:K2.opn.length≤K.opn.length) (opn:∀f∈K2.opn,f∈K.opn∧f≠2*e+1∧f+2≠2*e)
  (file:∀f,(K2.file f).rd=(K.file f).rd∧(K2.file f).wr=(K.file f).wr∧(K2.file f).pipe=(K.file f).pipe∧(f≠2*e+1→f+2≠2*e→(K2.file f).holders=(K.file f).holders))
  (desc:∀d,d≠e+1→K2.desc d=K.desc d) (row:K2.row=K.row)
  (oth:K2.np=K.np∧K2.nf=K.nf∧K2.nd=K.nd∧K2.nr=K.nr∧K2.first=K.first∧K2.world=K.world∧K2.lists=K.lists):
  eg T m (e+1) t K2 w∧jW T.length m (e+1) t K2 w<jW T.length m e t K w:=by
 have m3:=V.m3
 have ho:w.isOut=false:=by
  cases q:w.isOut with
  |false=>rfl
  |true=>have:=(V.io q).1;exact absurd (Nat.le_trans (Nat.le_of_eq this.symm) hi) (Nat.not_succ_le_self _)
 have t0:=V.nio ho
 refine bq λzq=> ?_
 obtain ⟨np,o1,o2,o3,o4,o5,o6⟩:=oth
 apply zq;clear zq
 have prc:∀j,(K2.pipe j).rc=(K.pipe j).rc∧(K2.pipe j).wc=(K.pipe j).wc∧(K2.pipe j).size=(K.pipe j).size∧(K2.pipe j).ring=(K.pipe j).ring:=λj=>by
  rw [pipe];exact ⟨tv ac.rc rfl rfl,tv ac.wc rfl rfl,tv ac.size rfl rfl,tv ac.ring rfl rfl⟩
 have pro:∀j,(K2.pipe j).ro=(if j+1=e then false else (K.pipe j).ro):=λj=>by
  rw [pipe];split
  ·next q=>rw [if_neg λz=>Nat.succ_ne_self _ (z.trans q.symm),q];rfl
  ·split<;>rfl
 have pwo:∀j,(K2.pipe j).wo=(if j=e then false else (K.pipe j).wo):=λj=>by
  rw [pipe];split
  ·rfl
  ·split<;>rfl
 have src:∀j,K2.src T j=K.src T j:=λj=>by
  cases j with
  |zero=>simp only [KS.src,row]
  |succ j=>exact (prc j).1
 have oproc:∀j,j<6→j≠e+1→K2.proc j=K.proc j∧((K.proc j).state= .sleeping→∀a,(K.proc j).chan≠ .pipe a e 0)∨
   (j=(if e=m then 0 else e+2)∧(K.proc j).state= .sleeping∧K2.proc j=(K.proc j).rdy):=λj hj hne=>by
  rw [proc j hj,if_neg hne]
  refine bq λzq=> ?_
  rcases V.wakeR hi hj with ⟨q1,q2⟩|⟨q1,q2,q3,q4,q5⟩
  ·apply zq;clear zq
   exact .inl ⟨q1,q2⟩
  ·apply zq;clear zq
   exact .inr ⟨q1,q2,q5⟩
 have self:K2.proc (e+1)=(((K.proc (e+1)).wProg 0).dead T.length):=by rw [proc _ (by exact p6 m3 hi),if_pos rfl]
 constructor
 ·refine ⟨m3,by exact Nat.succ_le_succ hi,by exact Nat.le_trans (Nat.le_of_eq t0) (Nat.zero_le _),V.tl,np.trans V.np,o1.trans V.nf,o2.trans V.nd,o3.trans V.nr,o4.trans V.fst,o5.trans V.wor,o6.trans V.lis,(by rw [ho];intro x;cases x),V.nio,V.told,by rw [(prc m).1];exact V.out,?_,?_,?_,?_,?_,by have:=V.opl;exact Nat.le_trans opl this,?_,?_,by rw [row];exact V.rs,?_,by rw [row];exact V.rl,?_,?_,?_,?_,?_⟩
  ·intro j hj
   have P:=V.pp j hj
   refine bq λzq=> ?_
   obtain ⟨a1,a2,a3,a4⟩:=prc j
   apply zq;clear zq
   exact ⟨by rw [a1,a2];exact P.le,by rw [a1,a2,a3];exact P.fit,by rw [a2];exact P.top,by rw [a3];exact P.sz,by rw [a3,a4];exact P.rl,by rw [a1,a2,a3,a4];exact P.at_⟩
  ·intro j hj
   rw [pwo,V.wo j hj]
   by_cases x:j=e
   ·rw [if_pos x,x];exact (decide_eq_false (Nat.not_succ_le_self _)).symm
   ·rw [if_neg x];rw [decide_eq_decide];exact ⟨λh=>Nat.lt_of_le_of_ne h (Ne.symm x),Nat.le_of_succ_le⟩
  ·intro j hj
   rw [pro,V.ro j hj,ho]
   by_cases x:j+1=e
   ·rw [if_pos x,if_neg (by exact Nat.ne_of_lt (Nat.le_trans (Nat.le_of_eq x) hi))];simp;exact Nat.le_of_eq x
   ·rw [if_neg x];split
    ·rfl
    ·rw [decide_eq_decide];exact ⟨λh=>Nat.lt_of_le_of_ne h (Ne.symm x),Nat.le_of_succ_le⟩
  ·intro j hj
   refine bq λzq=> ?_
   obtain ⟨a1,a2,a3,a4⟩:=V.fr j hj
   obtain ⟨b1,b2,b3,b4⟩:=file (2*j)
   apply zq;clear zq
   refine ⟨b1.trans a1,b2.trans a2,b3.trans a3,λx=> ?_⟩
   rw [pro] at x
   by_cases y:j+1=e
   ·rw [if_pos y] at x;cases x
   ·rw [if_neg y] at x;rw [b4 (by exact jp.symm) (by exact λz=>y (Nat.eq_of_mul_eq_mul_left Nat.two_pos z))];exact a4 x
  ·intro j hj
   refine bq λzq=> ?_
   obtain ⟨a1,a2,a3,a4⟩:=V.fw j hj
   obtain ⟨b1,b2,b3,b4⟩:=file (2*j+1)
   apply zq;clear zq
   refine ⟨b1.trans a1,b2.trans a2,b3.trans a3,λx=> ?_⟩
   rw [b4 (by exact λz=>Nat.ne_of_gt x (Nat.eq_of_mul_eq_mul_left Nat.two_pos (Nat.succ.inj z))) (by exact jp (a:=_+1))];exact a4 (by exact Nat.le_of_succ_le x)
  ·intro j hj
   refine bq λzq=> ?_
   obtain ⟨a1,a2⟩:=V.opn j hj
   apply zq;clear zq
   refine ⟨λx=> ?_,λx=> ?_⟩
   ·refine bq λzq=> ?_
    obtain ⟨y1,y2,y3⟩:=opn _ x
    apply zq;clear zq
    rw [pro,if_neg (by exact λz=>y3 (congrArg (2* ·) z))];exact a1 y1
   ·refine bq λzq=> ?_
    obtain ⟨y1,y2,y3⟩:=opn _ x
    apply zq;clear zq
    rw [pwo,if_neg (by lia)];exact a2 y1
  ·intro j hj
   refine bq λzq=> ?_
   obtain ⟨x1,x2⟩:=tab j hj
   apply zq;clear zq
   rw [pro,pwo,if_neg x2]
   by_cases y:j=e
   ·left
    rw [y,V.ro e hi,ho];split
    ·rfl
    ·exact decide_eq_true (Nat.le_succ _)
   ·rw [if_neg y];exact V.tab j x1
  ·intro j hj
   rw [src,(prc j).2.1,row]
   by_cases x:j=e
   ·rw [x]
    refine bq λzq=> ?_
    obtain ⟨b,D⟩:=V.rd e hi
    apply zq;clear zq
    have dr:=D.rest
    rw [hrest] at dr
    have:=congrArg List.length dr
    have dle:=D.le
    rw [List.length_take,List.length_drop] at this
    have pg:(K2.proc (e+1)).progress=0:=by rw [self];rfl
    rw [pg]
    have bw:b=(K.pipe e).wc:=by exact Nat.le_antisymm dle.1 (Nat.le_trans dle.2.1 (Nat.le_of_eq (vy dle this).symm))
    exact ⟨b,D.left,D.pas,by rw [bw];exact (Int.sub_self _).symm,D.le,D.rest,D.full⟩
   ·have pg:(K2.proc (j+1)).progress=(K.proc (j+1)).progress:=by
     rcases oproc (j+1) (by exact p6 m3 hj) (by exact λz=>x (Nat.succ.inj z)) with ⟨q1,_⟩|⟨_,_,q1⟩<;>(rw [q1];try rfl)
    rw [pg];exact V.rd j hj
  ·intro j hj hej;rw [desc _ (by exact Nat.ne_of_gt (Nat.succ_lt_succ hej))];exact V.ds j hj (by exact Nat.le_of_succ_le hej)
  ·rw [desc 0 (Nat.succ_ne_zero e).symm];exact V.d0
  ·intro j hj
   have P:=V.pr j hj
   by_cases x:j=e
   ·rw [x] at P⊢
    refine ⟨λy=>by exact absurd (Nat.lt_of_lt_of_le y (Nat.le_of_eq t0)) (Nat.not_lt_zero _),λy=>by rw [self];exact P.here y,λy=>⟨by rw [(prc e).2.1];exact hd,λ_=>by rw [self];exact ⟨rfl,rfl⟩⟩,λy=>by exact absurd y (Nat.not_succ_le_self _)⟩
   ·refine bq λzq=> ?_
    rcases oproc (j+1) (by exact p6 m3 hj) (by exact λz=>x (Nat.succ.inj z)) with ⟨q1,q2⟩|⟨q0,qs,q1⟩
    ·apply zq;clear zq
     exact P.kept q1 (λy=>Nat.lt_of_le_of_ne (Nat.le_of_lt_succ y) x) Nat.le_of_succ_le (λ_=>(prc j).2.1) (λa z z1 z2=>by rw [(prc j).1,(prc j).2.1,(prc j).2.2.1];exact z2) λa k z1 z z2 z3 z4 _=>⟨by rw [(prc k).1,(prc k).2.1];exact z3,Nat.lt_of_le_of_ne z4 λy=>q2 z a (by rw [y];exact z2)⟩
    ·apply zq;clear zq
     have ej:j=e+1:=by split at q0<;>lia
     refine ⟨λx=>by exact absurd (Nat.lt_of_lt_of_le x (Nat.le_of_eq t0)) (Nat.not_lt_zero _),λx=>by rw [q1];exact P.here x,λx=>by lia,λx=>by rw [q1];exact .inl rfl⟩
  ·refine bq λzq=> ?_
   obtain ⟨z1,z2,z3,z4⟩:=V.p0
   rcases oproc 0 (by decide) (Nat.succ_ne_zero e).symm with ⟨q1,q2⟩|⟨q0,qs,q1⟩
   ·apply zq;clear zq
    rw [q1]
    refine ⟨z1,z2,z3,?_⟩
    refine bq λzq=> ?_
    rcases z4 with z|⟨y1,y2,a,y3,y4,y5⟩
    ·apply zq;clear zq
     exact .inl z
    ·apply zq;clear zq
     refine .inr ⟨y1,y2,a,y3,by rw [(prc m).1,(prc m).2.1];exact y4,?_⟩
     have:m≠e:=λy=>q2 y2 a (by rw [←y];exact y3)
     exact Nat.lt_of_le_of_ne hi (Ne.symm this)
   ·apply zq;clear zq
    rw [q1];exact ⟨z1,z2,z3,.inl rfl⟩
  ·intro j h1 h2
   refine bq λzq=> ?_
   rcases oproc j h2 (by exact Nat.ne_of_gt (Nat.lt_of_lt_of_le (Nat.succ_lt_succ (Nat.lt_succ_of_le hi)) h1)) with ⟨q1,q2⟩|⟨q0,qs,q1⟩
   ·apply zq;clear zq
    rw [q1];exact V.un j h1 h2
   ·apply zq;clear zq
    rw [V.un j h1 h2] at qs;cases qs
 ·have mv:∀j,oW T.length m K2.pipe j=oW T.length m K.pipe j:=λj=>by unfold oW;rw [(prc j).1,(prc j).2.1]
  have moves:K2.moves T.length m=K.moves T.length m:=by unfold KS.moves;rw [mv,mv,mv,mv]
  have nr:=lZ (K:=K) (K2:=K2) (a:=e+1) (x:=if e=m then 0 else e+2) (c:=True) (d:=1) (by exact p6 m3 hi) (λj hj ne=>by
   rcases oproc j hj ne with ⟨q1,q2⟩|⟨q0,qs,q1⟩
   ·rw [q1];exact Nat.le_add_right ..
   ·rw [if_pos ⟨q0,trivial⟩];unfold rdy;split<;>split<;>lia) (by
   rw [self];unfold rdy;rw [if_neg (by simp),hr,if_pos rfl];lia)
  rw [if_pos trivial] at nr
  show 2*K2.moves T.length m+K2.nrdy+_+_+_<_
  rw [moves]
  exact Nat.add_lt_add_right (Nat.add_lt_add_right (Nat.add_lt_add_of_le_of_lt (Nat.add_le_add_left (Nat.le_of_succ_le_succ nr) _) (Nat.mul_lt_mul_of_pos_left (Nat.sub_lt_sub_left (Nat.lt_succ_of_le hi) (Nat.lt_succ_self e)) Nat.two_pos)) _) _
theorem eg.seen {K2:KS}(he:e=m+1)(ho:w.isOut=false)(hf:(K.pipe m).wc=(K.pipe m).rc)(hr:(K.proc 0).state= .ready)
  (proc:∀j,j<6→K2.proc j=K.proc j)
  (pipe:∀j,K2.pipe j=if j=m then ((K.pipe m).wRo false) else K.pipe j)
  (tab:∀j∈K2.tab,j∈K.tab∧j≠m)
  (opl:K2.opn.length≤K.opn.length) (opn:∀f∈K2.opn,f∈K.opn∧f≠2*m)
  (file:∀f,(K2.file f).rd=(K.file f).rd∧(K2.file f).wr=(K.file f).wr∧(K2.file f).pipe=(K.file f).pipe∧(f≠2*m→(K2.file f).holders=(K.file f).holders))
  (row:K2.row=K.row)
  (oth:K2.np=K.np∧K2.nf=K.nf∧K2.nd=K.nd∧K2.nr=K.nr∧K2.first=K.first∧K2.world=some w.wIs∧K2.lists=K.lists):
  eg T m e t K2 w.wIs∧jW T.length m e t K2 w.wIs<jW T.length m e t K w:=by
 have m3:=V.m3
 have t0:=V.nio ho
 refine bq λzq=> ?_
 obtain ⟨np,o1,o2,o3,o4,o5,o6⟩:=oth
 apply zq;clear zq
 have prc:∀j,(K2.pipe j).rc=(K.pipe j).rc∧(K2.pipe j).wc=(K.pipe j).wc∧(K2.pipe j).size=(K.pipe j).size∧(K2.pipe j).ring=(K.pipe j).ring∧(K2.pipe j).wo=(K.pipe j).wo:=λj=>by
  rw [pipe];exact ⟨gM ac.rc rfl,gM ac.wc rfl,gM ac.size rfl,gM ac.ring rfl,gM ac.wo rfl⟩
 have pro:∀j,(K2.pipe j).ro=(if j=m then false else (K.pipe j).ro):=λj=>by
  rw [pipe];exact A8 ac.ro rfl
 have src:∀j,K2.src T j=K.src T j:=λj=>by
  cases j with
  |zero=>simp only [KS.src,row]
  |succ j=>exact (prc j).1
 constructor
 ·refine ⟨m3,V.em,V.tm,V.tl,np.trans V.np,o1.trans V.nf,o2.trans V.nd,o3.trans V.nr,o4.trans V.fst,o5,o6.trans V.lis,?_,(λx=>by cases x),V.told,by rw [(prc m).1];exact V.out,?_,?_,?_,?_,?_,by have:=V.opl;exact Nat.le_trans opl this,?_,?_,by rw [row];exact V.rs,?_,by rw [row];exact V.rl,(λj hj hej=>by exact absurd (Nat.le_trans (Nat.le_of_eq he.symm) (Nat.le_trans hej hj)) (Nat.not_succ_le_self _)),(λx=>by cases x),?_,?_,?_⟩
  ·intro _
   refine ⟨he,?_⟩
   rw [(prc m).1,←hf];exact ((V.pr m (Nat.le_refl _)).dead (by exact Nat.le_of_eq he.symm)).1
  ·intro j hj
   have P:=V.pp j hj
   refine bq λzq=> ?_
   obtain ⟨a1,a2,a3,a4,a5⟩:=prc j
   apply zq;clear zq
   exact ⟨by rw [a1,a2];exact P.le,by rw [a1,a2,a3];exact P.fit,by rw [a2];exact P.top,by rw [a3];exact P.sz,by rw [a3,a4];exact P.rl,by rw [a1,a2,a3,a4];exact P.at_⟩
  ·intro j hj;rw [(prc j).2.2.2.2];exact V.wo j hj
  ·intro j hj;rw [pro];split
   ·rfl
   ·rw [V.ro j hj,if_neg ‹_›]
  ·intro j hj
   refine bq λzq=> ?_
   obtain ⟨a1,a2,a3,a4⟩:=V.fr j hj
   obtain ⟨b1,b2,b3,b4⟩:=file (2*j)
   apply zq;clear zq
   refine ⟨b1.trans a1,b2.trans a2,b3.trans a3,λx=> ?_⟩
   rw [pro] at x
   by_cases y:j=m
   ·rw [if_pos y] at x;cases x
   ·rw [if_neg y] at x;rw [b4 (by exact λz=>y (Nat.eq_of_mul_eq_mul_left Nat.two_pos z))];exact a4 x
  ·intro j hj
   refine bq λzq=> ?_
   obtain ⟨a1,a2,a3,a4⟩:=V.fw j hj
   obtain ⟨b1,b2,b3,b4⟩:=file (2*j+1)
   apply zq;clear zq
   exact ⟨b1.trans a1,b2.trans a2,b3.trans a3,λx=>by exact absurd (Nat.le_trans (Nat.le_of_eq he.symm) (Nat.le_trans x hj)) (Nat.not_succ_le_self _)⟩
  ·intro j hj
   obtain ⟨a1,a2⟩:=V.opn j hj
   refine ⟨λx=> ?_,λx=> ?_⟩
   ·refine bq λzq=> ?_
    obtain ⟨y1,y2⟩:=opn _ x
    apply zq;clear zq
    rw [pro,if_neg λz=>y2 (congrArg (2* ·) z)];exact a1 y1
   ·rw [(prc j).2.2.2.2];exact a2 (opn _ x).1
  ·intro j hj
   refine bq λzq=> ?_
   obtain ⟨x1,x2⟩:=tab j hj
   apply zq;clear zq
   rw [pro,if_neg x2,(prc j).2.2.2.2];exact V.tab j x1
  ·intro j hj
   rw [src,(prc j).2.1,row,proc _ (by exact p6 m3 hj)];exact V.rd j hj
  ·intro j hj
   have P:=V.pr j hj
   refine bq λzq=> ?_
   rcases P with ⟨a1,a2,a3,a4⟩
   apply zq;clear zq
   have e1:=proc (j+1) (by exact p6 m3 hj)
   exact ⟨by rw [e1];exact a1,by rw [e1];exact a2,by rw [e1,(prc j).2.1];exact a3,λx=>by exact absurd (Nat.le_trans (Nat.le_of_eq he.symm) (Nat.le_trans x hj)) (Nat.not_succ_le_self _)⟩
  ·refine bq λzq=> ?_
   obtain ⟨z1,z2,z3,z4⟩:=V.p0
   apply zq;clear zq
   rw [proc 0 (by decide)]
   exact ⟨z1,z2,z3,.inl hr⟩
  ·intro j h1 h2;rw [proc j h2];exact V.un j h1 h2
 ·have mv:∀j,oW T.length m K2.pipe j=oW T.length m K.pipe j:=λj=>by unfold oW;rw [(prc j).1,(prc j).2.1]
  have moves:K2.moves T.length m=K.moves T.length m:=by unfold KS.moves;rw [mv,mv,mv,mv]
  have nr:K2.nrdy=K.nrdy:=by unfold KS.nrdy;exact congr (congrArg _ (congr (congrArg _ (congr (congrArg _ (congr (congrArg _ (congr (congrArg _ (congrArg rdy (proc 0 (by decide)))) (congrArg rdy (proc 1 (by decide))))) (congrArg rdy (proc 2 (by decide))))) (congrArg rdy (proc 3 (by decide))))) (congrArg rdy (proc 4 (by decide))))) (congrArg rdy (proc 5 (by decide)))
  show 2*K2.moves T.length m+K2.nrdy+_+0+_<2*K.moves T.length m+K.nrdy+_+(if w.isOut=true then 0 else 2)+_
  rw [moves,nr,ho]
  exact Nat.add_lt_add_right (Nat.add_lt_add_left (by decide) _) _
theorem eg.tells {c dd rr:Addr}(ho:w.isOut=true)(ht:t<m+1):
  eg T m e (t+1) ((K.setProc (t+1) (.empty rr)).setWorld (w.wTold (c,(t:Int)+2,(T.length:Int)) dd)) (w.wTold (c,(t:Int)+2,(T.length:Int)) dd)∧jW T.length m e (t+1) ((K.setProc (t+1) (.empty rr)).setWorld (w.wTold (c,(t:Int)+2,(T.length:Int)) dd)) (w.wTold (c,(t:Int)+2,(T.length:Int)) dd)<jW T.length m e t K w:=by
 have m3:=V.m3
 have he:=(V.io ho).1
 let w2:=w.wTold (c,(t:Int)+2,(T.length:Int)) dd
 let K2:=(K.setProc (t+1) (.empty rr)).setWorld w2
 show eg T m e (t+1) K2 w2∧jW T.length m e (t+1) K2 w2<jW T.length m e t K w
 have proc:∀j,K2.proc j=if j=t+1 then aa.empty rr else K.proc j:=λj=>rfl
 have self:∀{j},j=t→K2.proc (j+1)=aa.empty rr:=λx=>if_pos (congrArg (· +1) x)
 have oth:∀{j},¬j=t→K2.proc (j+1)=K.proc (j+1):=λx=>if_neg λz=>x (Nat.succ.inj z)
 have last:∀{j},j≤m→¬e≤j:=λhj x=>Nat.not_succ_le_self _ (Nat.le_trans (Nat.le_of_eq he.symm) (Nat.le_trans x hj))
 constructor
 ·refine ⟨m3,V.em,Nat.le_trans ht (Nat.le_of_eq he.symm),V.tl,V.np,V.nf,V.nd,V.nr,V.fst,rfl,V.lis,V.io,λx=>absurd (ho.symm.trans x) nofun,?_,V.out,V.pp,V.wo,V.ro,V.fr,V.fw,V.opl,V.opn,V.tab,V.rs,?_,V.rl,V.ds,V.d0,?_,V.p0,λj h1 h2=> ?_⟩
  ·show (w.told++[(c,(t:Int)+2,(T.length:Int))]).map (·.2)=_
   rw [List.map_append,V.told,List.range_succ,List.map_append];rfl
  ·intro j hj
   refine bq λzq=> ?_
   obtain ⟨b,D⟩:=V.rd j hj
   refine zq ⟨b,?_⟩
   have D:Cr T (K2.pipe j).wc (K2.src T j) j (K2.row j) (K.proc (j+1)).progress b:=by cases j<;>exact D
   by_cases x:j=t
   ·rw [self x]
    have df:=D.full (Nat.le_antisymm D.le.2.1 (Nat.le_trans D.le.2.2 (Nat.le_of_eq ((V.pr j hj).dead (Nat.le_trans (Nat.succ_le_succ hj) (Nat.le_of_eq he.symm))).1.symm)))
    refine ⟨D.left,D.pas,?_,D.le,D.rest,D.full⟩
    show (0:Int)=_
    rw [df,Nat.le_antisymm D.le.2.1 (df▸D.le.1),Int.sub_self]
   ·rw [oth x];exact D
  ·intro j hj
   have P:=V.pr j hj
   by_cases x:j=t
   ·exact ⟨λ_=>by rw [self x];rfl,λy=>absurd (Nat.lt_of_lt_of_le (Nat.lt_succ_self t) (Nat.le_trans y (Nat.le_of_eq x))) (Nat.lt_irrefl _),λy=>⟨(P.dead y).1,λz=>absurd (Nat.le_trans z (Nat.le_of_eq x)) (Nat.not_succ_le_self _)⟩,λy=>absurd y (last hj)⟩
   ·exact ⟨λy=>by rw [oth x];exact P.gone (Nat.lt_of_le_of_ne (Nat.le_of_lt_succ y) x),λy=>by rw [oth x];exact P.here (Nat.le_of_succ_le y),λy=>⟨(P.dead y).1,λz=>by rw [oth x];exact (P.dead y).2 (Nat.le_of_succ_le z)⟩,λy=>absurd y (last hj)⟩
  ·rw [proc j,if_neg (Nat.ne_of_gt (Nat.lt_of_lt_of_le (Nat.succ_lt_succ ht) h1))];exact V.un j h1 h2
 ·have nr:=lZ (K:=K) (K2:=K2) (a:=t+1) (x:=7) (c:=False) (d:=0) (p6 m3 (Nat.le_of_lt_succ ht)) (λj hj ne=>by rw [proc j,if_neg ne];exact Nat.le_add_right ..) (by
   rw [proc _,if_pos rfl];exact Nat.zero_le _)
  rw [if_neg id] at nr
  exact Nat.add_lt_add_of_le_of_lt (Nat.add_le_add_right (Nat.add_le_add_right (Nat.add_le_add_left nr _) _) _) (Nat.sub_lt_sub_left ht (Nat.lt_succ_self t))
end
theorem Cs (f:Nat→Int)(j:Nat):((List.range (j+1)).map f).sum=((List.range j).map f).sum+f j:=by
 rw [List.range_succ,List.map_append,List.sum_append]
 exact congrArg _ (Int.add_zero _)
theorem eg.rowH {T:List UInt8}{m e t:Nat}{K:KS}{w:ao}(V:eg T m e t K w){i:Nat}(hi:i≤m):K.rowHeld i=(if i=0 then ((T.length - K.src T 0:Nat):Int) else 0)+K.src T i - (K.pipe i).wc:=by
 refine bq λzq=> ?_
 obtain ⟨b,D⟩:=V.rd i hi
 apply zq;clear zq
 have dl:=D.le
 have rl:(K.row i).rest.length=K.src T i - b:=by
  rw [D.rest,List.length_take,List.length_drop]
  exact Nat.min_eq_left (Nat.sub_le_sub_right dl.2.2 b)
 have ll:((K.row i).left.length:Int)=if i=0 then ((T.length - K.src T 0:Nat):Int) else 0:=by
  rw [D.left];split
  ·rename_i q;subst q;rw [List.length_drop]
  ·rfl
 have P:=V.pr i hi
 unfold KS.rowHeld
 rw [ll,rl,(V.rs i (Nat.le_succ_of_le hi)).proc,if_neg (Nat.ne_of_lt (Nat.lt_succ_of_le hi))]
 generalize (if i=0 then ((T.length - K.src T 0:Nat):Int) else 0)=l
 cases hr:(K.row i).rest with
 |nil=>
  rw [hr] at rl
  have rl:0=K.src T i - b:=rl
  rw [show (([]:List UInt8) !=[])=false from rfl,Bool.false_and,if_neg Bool.false_ne_true]
  lia
 |cons x r=>
  have ne:(K.pipe i).wc≠K.src T i:=λq=>by
   have:=D.rest
   rw [hr,D.full q,Nat.sub_self] at this;cases this
  have ei:e≤i:=Nat.le_of_not_lt λx=>by
   have:=(P.dead x).1;lia
  have al:(decide ((K.proc (i+1)).state≠ .unused)&&decide ((K.proc (i+1)).state≠ .zombie))=true:=by
   rcases P.live ei with q|⟨q,_⟩|⟨q,_⟩<;>rw [q]<;>rfl
  rw [al,show ((x::r) !=[])=true from rfl,Bool.true_and,if_pos rfl,D.prog]
  lia
theorem eg.held {T:List UInt8}{m e t:Nat}{K:KS}{w:ao}(V:eg T m e t K w):K.heldTo w (List.range (m+1)) K.nr=T.length:=by
 have last:K.rowHeld (m+1)=0:=by
  unfold KS.rowHeld
  rw [V.rl.1,V.rl.2];rfl
 have out:(w.out.length:Int)=(K.pipe m).rc:=by
  have P:=V.pp m (Nat.le_refl _)
  rw [V.out,List.length_take,Nat.min_eq_left (Nat.le_trans P.le P.top)]
 have key:∀j,j≤m→((List.range (j+1)).map K.waits).sum+((List.range (j+1)).map K.rowHeld).sum=T.length - ((K.pipe j).rc:Int):=λj=>by
  induction j with
  |zero=>
   intro h
   have sl:=(V.src_le h).2
   rw [Cs,Cs,V.rowH h,if_pos rfl]
   show 0+(((K.pipe 0).wc:Int) - (K.pipe 0).rc)+(0+_)=_
   lia
  |succ j ih=>
   intro h
   have ih:=ih (Nat.le_of_succ_le h)
   rw [Cs _ (j+1),Cs _ (j+1),V.rowH h,if_neg (Nat.succ_ne_zero j)]
   show _+(((K.pipe (j+1)).wc:Int) - (K.pipe (j+1)).rc)+(_+(0+((K.pipe j).rc:Int) - _))=_
   lia
 have k:=key m (Nat.le_refl m)
 unfold KS.heldTo
 rw [V.nr,Cs _ (m+1),last,out]
 lia
section
variable {K:KS}{d s f:Nat}{c:Addr}
theorem mm (j:Nat):(K.closeAt d s f c).proc j=if j<6 then ((K.proc j).wake (.pipe 0 (K.file f).pipe 0)).wake (.pipe 0 (K.file f).pipe 1) else K.proc j:=by
 unfold KS.closeAt KS.wakeP KS.wake KS.wakeTo KS.fc
 split<;>(simp only [KS.unopen,KS.decH,KS.shut,KS.setFile,KS.setPipe,KS.setDesc];split<;>rfl)
structure BV (K K':KS):Prop where
 np:K'.np=K.np
 nf:K'.nf=K.nf
 nd:K'.nd=K.nd
 nr:K'.nr=K.nr
 fst:K'.first=K.first
 wor:K'.world=K.world
 lis:K'.lists=K.lists
 row:K'.row=K.row
 box:K'.box=K.box
 pid:K'.nextPid=K.nextPid
 ps:K'.psize=K.psize
 made:K'.made=K.made
theorem BV.trans {K K' K'':KS}(a:BV K K')(b:BV K' K''):BV K K'':=⟨b.np.trans a.np,b.nf.trans a.nf,b.nd.trans a.nd,b.nr.trans a.nr,b.fst.trans a.fst,b.wor.trans a.wor,b.lis.trans a.lis,b.row.trans a.row,b.box.trans a.box,b.pid.trans a.pid,b.ps.trans a.ps,b.made.trans a.made⟩
theorem wR {ch:Ch}:BV K (K.wake ch):=⟨rfl,rfl,rfl,rfl,rfl,rfl,rfl,rfl,rfl,rfl,rfl,rfl⟩
theorem CH {l:List (Option Nat)}:BV K (K.setDesc d l):=⟨rfl,rfl,rfl,rfl,rfl,rfl,rfl,rfl,rfl,rfl,rfl,rfl⟩
theorem Dz {i:Nat}{x:Int}:BV K (K.shut i x):=⟨rfl,rfl,rfl,rfl,rfl,rfl,rfl,rfl,rfl,rfl,rfl,rfl⟩
theorem Ll:BV K (K.fc f c):=by
 unfold KS.fc
 split
 ·exact ⟨rfl,rfl,rfl,rfl,rfl,rfl,rfl,rfl,rfl,rfl,rfl,rfl⟩
 ·exact BV.trans (K':=(K.decH f).unopen f c) ⟨rfl,rfl,rfl,rfl,rfl,rfl,rfl,rfl,rfl,rfl,rfl,rfl⟩ Dz
theorem pQ:BV K (K.closeAt d s f c):=CH.trans (Ll.trans (wR.trans wR))
theorem tZ:(K.closeAt d s f c).desc=upd K.desc d ((K.desc d).set s none):=by
 unfold KS.closeAt KS.wakeP KS.wake KS.wakeTo KS.fc
 split<;>rfl
theorem oI:(K.closeAt d s f c).file=upd K.file f ((K.file f).wHold ((K.file f).holders - 1)):=by
 unfold KS.closeAt KS.wakeP KS.wake KS.wakeTo KS.fc
 split<;>rfl
theorem pV (h:(K.file f).holders=1):(K.closeAt d s f c).opn=K.opn.filter (λg=>decide (g≠f)):=by
 unfold KS.closeAt KS.wakeP KS.wake KS.wakeTo KS.fc
 rw [if_neg (show ¬1<((K.setDesc d ((K.desc d).set s none)).file f).holders by show ¬1<(K.file f).holders;lia)];rfl
theorem oH (h:(K.file f).holders=1):(K.closeAt d s f c).pipe=upd K.pipe (K.file f).pipe (if (K.file f).wr=true then {K.pipe (K.file f).pipe with wo:=false} else {K.pipe (K.file f).pipe with ro:=false}):=by
 unfold KS.closeAt KS.wakeP KS.wake KS.wakeTo KS.fc
 rw [if_neg (show ¬1<((K.setDesc d ((K.desc d).set s none)).file f).holders by show ¬1<(K.file f).holders;lia)]
 show (((K.setDesc d ((K.desc d).set s none)).decH f).unopen f c|>.shut (K.file f).pipe (if (K.file f).wr=true then 1 else 0)).pipe=_
 unfold KS.shut
 cases (K.file f).wr<;>rfl
theorem yo (h:(K.file f).holders=1):(K.closeAt d s f c).tab=if !(if (K.file f).wr=true then (K.pipe (K.file f).pipe).ro else false)&& !(if (K.file f).wr=true then false else (K.pipe (K.file f).pipe).wo) then K.tab.filter (λj=>decide (j≠(K.file f).pipe)) else K.tab:=by
 unfold KS.closeAt KS.wakeP KS.wake KS.wakeTo KS.fc
 rw [if_neg (show ¬1<((K.setDesc d ((K.desc d).set s none)).file f).holders by show ¬1<(K.file f).holders;lia)]
 show (((K.setDesc d ((K.desc d).set s none)).decH f).unopen f c|>.shut (K.file f).pipe (if (K.file f).wr=true then 1 else 0)).tab=_
 unfold KS.shut
 cases (K.file f).wr<;>rfl
end
theorem bM.inv0 {d:Nat}{l:List (Nat×Nat)}{K K1:KS}(h:bM d l K K1)(e:l=[]):K1=K:=by
 cases h with
 |nil=>rfl
 |snoc _=>simp at e
theorem bM.inv1 {d:Nat}{l l':List (Nat×Nat)}{i f:Nat}{K K1:KS}(h:bM d l K K1)(e:l=l'++[(i,f)]):∃K0 c,bM d l' K K0∧K1=K0.closeAt d i f c:=by
 cases h with
 |nil=>simp at e
 |snoc h'=>
  obtain ⟨e1,e2⟩:=List.append_inj' e rfl
  simp only [List.cons.injEq,Prod.mk.injEq,and_true] at e2
  obtain ⟨rfl,rfl⟩:=e2
  subst e1
  exact ⟨_,_,h',rfl⟩
theorem rB (i:Nat):held (hB i) 6=if i=0 then [(1,1)] else [((i - 1) % 2,2*(i - 1)),(2,2*i+1)]:=by
 unfold hB
 by_cases c:i=0
 ·rw [if_pos c,if_pos c];rfl
 ·rw [if_neg c,if_neg c]
  by_cases c2:(i - 1) % 2=0
  ·rw [if_pos c2,c2];rfl
  ·rw [if_neg c2,show (i - 1) % 2=1 by exact (Nat.mod_two_eq_zero_or_one _).resolve_left c2];rfl
theorem eB {p:aa}{ch:Ch}(h:p.state≠ .sleeping):p.wake ch=p:=by unfold aa.wake;rw [if_neg λx=>h x.1]
theorem rE (p:aa)(ch:Ch):(p.wake ch).pid=p.pid∧(p.wake ch).parent=p.parent∧(p.wake ch).files=p.files∧(p.wake ch).progress=p.progress∧(p.wake ch).status=p.status∧(p.wake ch).name=p.name:=by
 unfold aa.wake;split<;>exact ⟨rfl,rfl,rfl,rfl,rfl,rfl⟩
theorem rU {K:KS}{d s f:Nat}{c:Addr}(j:Nat):((K.closeAt d s f c).proc j).pid=(K.proc j).pid∧((K.closeAt d s f c).proc j).parent=(K.proc j).parent∧((K.closeAt d s f c).proc j).files=(K.proc j).files:=by
 rw [mm];split
 ·refine bq λzq=> ?_
  obtain ⟨a1,a2,a3,_⟩:=rE ((K.proc j).wake (.pipe 0 (K.file f).pipe 0)) (.pipe 0 (K.file f).pipe 1)
  obtain ⟨b1,b2,b3,_⟩:=rE (K.proc j) (.pipe 0 (K.file f).pipe 0)
  apply zq;clear zq
  exact ⟨a1.trans b1,a2.trans b2,a3.trans b3⟩
 ·exact ⟨rfl,rfl,rfl⟩
theorem qf {K:KS}{d s f:Nat}{c:Addr}(h:(K.file f).holders=1):(K.closeAt d s f c).opn.length≤K.opn.length:=by rw [pV h];exact List.length_filter_le ..
theorem pR {K:KS}{d s f:Nat}{c:Addr}(h:(K.file f).holders=1):∀j∈(K.closeAt d s f c).tab,j∈K.tab:=by
 intro j hj
 rw [yo h] at hj
 have key:∀(b:Bool) (p:Nat→Bool),(j∈if b=true then K.tab.filter p else K.tab)→j∈K.tab:=by
  intro b p x
  cases b
  ·exact x
  ·exact (List.mem_filter.mp x).1
 exact key _ _ hj
section
variable {T:List UInt8}{m e t:Nat}{K:KS}{w:ao}(V:eg T m e t K w)
include V
theorem eg.noKids {i:Nat}(hi:i≤m){K1:KS}(h:∀j,(K1.proc j).parent=(K.proc j).parent)(hs:∀j,j<6→(K.proc j).state= .unused→(K1.proc j).state= .unused):K1.kids (i+1)=[]:=by
 unfold KS.kids
 rw [List.filter_eq_nil_iff]
 intro j hj
 have j6:j<6:=by simpa using hj
 unfold KS.isKid
 rw [h j]
 match j with
 |0=>rw [V.p0.2.1];simp
 |j+1=>
  by_cases x:j≤m
  ·by_cases y:t≤j
   ·rw [((V.pr j x).here y).2.1];simp
   ·rw [hs _ j6 ((V.pr j x).gone (by exact Nat.not_le.mp y))];simp
  ·rw [hs _ j6 (V.un (j+1) (by exact Nat.succ_le_succ (Nat.not_le.mp x)) j6)];simp
theorem eg.endWake {i j:Nat}(hi:i≤m)(he:e=i)(hj:j<6)(hr:(K.proc (i+1)).state= .ready):
  ((K.proc j).wake (.pipe 0 i 0)).wake (.pipe 0 i 1)=(K.proc j).wake (.pipe 0 i 0)∧(∀i',i'+1=i→((K.proc j).wake (.pipe 0 i' 0)).wake (.pipe 0 i' 1)=K.proc j)∧∀p,((K.proc j).wake (.pipe 0 i 0)).wake (.child 0 p)=(K.proc j).wake (.pipe 0 i 0):=by
 refine ⟨?_,λi' hi'=> ?_,λp=> ?_⟩
 ·refine bq λzq=> ?_
  rcases V.wakeR hi hj with ⟨q,_⟩|⟨_,_,_,_,q⟩
  ·apply zq;clear zq
   rw [q]
   rcases V.wakeW hi hj with ⟨q,_⟩|⟨rfl,q,_⟩
   ·exact q
   ·rw [hr] at q;cases q
  ·apply zq;clear zq
   rw [q];exact eB (by simp)
 ·refine bq λzq=> ?_
  rcases V.wakeR (i:=i') (by exact Nat.le_of_succ_le (Nat.le_trans (Nat.le_of_eq hi') hi)) hj with ⟨q,_⟩|⟨_,_,_,q,_⟩
  ·apply zq;clear zq
   rw [q]
   rcases V.wakeW (i:=i') (by exact Nat.le_of_succ_le (Nat.le_trans (Nat.le_of_eq hi') hi)) hj with ⟨q,_⟩|⟨_,_,_,q,_⟩
   ·exact q
   ·lia
  ·apply zq;clear zq
   lia
 ·rcases V.wakeR hi hj with ⟨q,_⟩|⟨_,_,_,_,q⟩
  ·rw [q];exact V.wakeC hj
  ·rw [q];exact eB (by simp)
end
theorem iB {l:List Nat}{a f:Nat}(h:f∈l.filter (λg=>decide (g≠a))):f∈l∧f≠a:=⟨(List.mem_filter.mp h).1,of_decide_eq_true (List.mem_filter.mp h).2⟩
structure IO (K:KS)(i:Nat)(A:KS):Prop where
 proc:∀j,j<6→A.proc j=K.proc j
 par:∀j,(A.proc j).parent=(K.proc j).parent
 file:A.file=upd K.file (2*(i - 1)) ((K.file (2*(i - 1))).wHold ((K.file (2*(i - 1))).holders - 1))
 desc:A.desc=upd K.desc (i+1) ((K.desc (i+1)).set ((i - 1) % 2) none)
 pipe:A.pipe=upd K.pipe (i - 1) ((K.pipe (i - 1)).wRo false)
 tab:A.tab=K.tab.filter (λj=>decide (j≠i - 1))
 opn:A.opn=K.opn.filter (λg=>decide (g≠2*(i - 1)))
 oth:BV K A
structure KE (K:KS)(i:Nat)(B:KS):Prop where
 proc:∀j,j<6→B.proc j=(K.proc j).wake (.pipe 0 i 0)
 par:∀j,(B.proc j).parent=(K.proc j).parent
 pipe:∀j,B.pipe j=if j=i then ((K.pipe i).wWo false) else if j+1=i then ((K.pipe j).wRo false) else K.pipe j
 tab:∀j∈B.tab,j∈K.tab∧j+1≠i
 opl:B.opn.length≤K.opn.length
 opn:∀f∈B.opn,f∈K.opn∧f≠2*i+1∧f+2≠2*i
 file:∀f,(B.file f).rd=(K.file f).rd∧(B.file f).wr=(K.file f).wr∧(B.file f).pipe=(K.file f).pipe∧(f≠2*i+1→f+2≠2*i→(B.file f).holders=(K.file f).holders)
 desc:∀d,d≠i+1→B.desc d=K.desc d
 oth:BV K B
theorem zM {i:Nat}(c0:i≠0):(hB i)[(i - 1) % 2]?=some (some (2*(i - 1)))∧((hB i).set ((i - 1) % 2) none)[2]?=some (some (2*i+1)):=by
 unfold hB;rw [if_neg c0]
 by_cases y:(i - 1) % 2=0
 ·rw [if_pos y,y];exact ⟨rfl,rfl⟩
 ·rw [if_neg y,show (i - 1) % 2=1 by exact (Nat.mod_two_eq_zero_or_one _).resolve_left y];exact ⟨rfl,rfl⟩
section
variable {T:List UInt8}{m e t:Nat}{K:KS}{w:ao}(V:eg T m e t K w){i:Nat}(hi:i≤m)(he:e=i)(hr:(K.proc (i+1)).state= .ready)
include V hi he hr
theorem eg.shutA (c0:i≠0)(ho:w.isOut=false){c:Addr}:IO K i (K.closeAt (i+1) ((i - 1) % 2) (2*(i - 1)) c):=by
 have r:=V.fr (i - 1) (by exact Nat.le_trans (Nat.sub_le _ 1) hi)
 have r4:=r.2.2.2 (by rw [V.ro _ (by exact Nat.le_trans (Nat.sub_le _ 1) hi),if_neg (by exact Nat.ne_of_lt (Nat.lt_of_lt_of_le (Nat.sub_lt (Nat.pos_of_ne_zero c0) Nat.one_pos) hi))];exact decide_eq_true (by exact Nat.le_trans (Nat.le_of_eq he) (Nat.sub_le_iff_le_add.mp (Nat.le_refl _))))
 have wo1:(K.pipe (i - 1)).wo=false:=by rw [V.wo _ (by exact Nat.le_trans (Nat.sub_le _ 1) hi)];exact decide_eq_false (by exact λz=>Nat.not_le.mpr (Nat.sub_lt (Nat.pos_of_ne_zero c0) Nat.one_pos) (Nat.le_trans (Nat.le_of_eq he.symm) z))
 exact ⟨λj hj=>by rw [mm,if_pos hj,r.2.2.1];exact (V.endWake hi he hj hr).2.1 _ (by exact Nat.sub_add_cancel (Nat.pos_of_ne_zero c0)),
  λj=>(rU j).2.1,
  oI,
  tZ,
  by rw [oH r4,r.2.2.1,r.2.1];rfl,
  by rw [yo r4,r.2.1,r.2.2.1,wo1];rfl,
  pV r4,
  pQ⟩
theorem eg.shut1 {A:KS}(S:IO K i A)(c0:i≠0){c:Addr}:KE K i (A.closeAt (i+1) 2 (2*i+1) c):=by
 have w:=V.fw i hi
 rw [←show A.file (2*i+1)=K.file (2*i+1) by rw [S.file,av (by exact jp)]] at w
 have w4:=w.2.2.2 (Nat.le_of_eq he)
 exact ⟨λj hj=>by rw [mm,if_pos hj,S.proc j hj,w.2.2.1];exact (V.endWake hi he hj hr).1,
  λj=>(rU j).2.1.trans (S.par j),
  λj=>by
      rw [oH w4,w.2.2.1,if_pos w.2.1,S.pipe]
      by_cases x:j=i
      ·rw [x,aj,if_pos rfl,av (by exact Nat.ne_of_gt (Nat.sub_lt (Nat.pos_of_ne_zero c0) Nat.one_pos))];rfl
      ·rw [av x,if_neg x]
       by_cases y:j+1=i
       ·rw [if_pos y,show i - 1=j by exact (Nat.eq_sub_of_add_eq y).symm,aj]
       ·rw [if_neg y,av (by exact λz=>y (by rw [z];exact Nat.sub_add_cancel (Nat.pos_of_ne_zero c0)))],
  λj hj=>by
      have z:=pR w4 j hj
      rw [S.tab] at z
      exact ⟨(iB z).1,λe=>(iB z).2 (by exact Nat.eq_sub_of_add_eq e)⟩,
  Nat.le_trans (qf w4) (by rw [S.opn];exact List.length_filter_le ..),
  λf hf=>by
      rw [pV w4,S.opn] at hf
      have z:=(iB (iB hf).1)
      exact ⟨z.1,(iB hf).2,λe=>z.2 (by exact (Nat.eq_sub_of_add_eq e).trans (Nat.mul_sub 2 _ 1).symm)⟩,
  λf=>by
      rw [oI]
      by_cases x:f=2*i+1
      ·rw [x,aj,S.file,av (by exact jp)];exact ⟨rfl,rfl,rfl,λx=>absurd rfl x⟩
      ·rw [av x,S.file]
       by_cases y:f=2*(i - 1)
       ·rw [y,aj];exact ⟨rfl,rfl,rfl,λ_ y=>absurd (by exact congrArg (2* ·) (Nat.sub_add_cancel (Nat.pos_of_ne_zero c0))) y⟩
       ·rw [av y];exact ⟨rfl,rfl,rfl,λ_ _=>rfl⟩,
  λd hd=>by rw [tZ,av hd,S.desc,av hd],
  S.oth.trans pQ⟩
theorem eg.shut0 (c0:i=0){c:Addr}:KE K i (K.closeAt (i+1) 1 1 c):=by
 have w:=V.fw i hi
 rw [c0] at w
 have w4:=w.2.2.2 (Nat.le_of_eq (he.trans c0))
 exact ⟨λj hj=>by have z:=(V.endWake hi he hj hr).1;rw [mm,if_pos hj,w.2.2.1];rw [c0] at z⊢;exact z,
  λj=>(rU j).2.1,
  λj=>by
      rw [oH w4,w.2.2.1,if_pos w.2.1,c0]
      by_cases x:j=0
      ·rw [x,aj,if_pos rfl];rfl
      ·rw [av x,if_neg x,if_neg (Nat.succ_ne_zero j)],
  λj hj=>⟨pR w4 j hj,λe=>Nat.succ_ne_zero j (e.trans c0)⟩,
  qf w4,
  λf hf=>by
      rw [pV w4] at hf
      rw [c0];exact ⟨(iB hf).1,(iB hf).2,Nat.succ_ne_zero _⟩,
  λf=>by
      rw [oI,c0]
      by_cases x:f=1
      ·rw [x,aj];exact ⟨rfl,rfl,rfl,λx=>absurd rfl x⟩
      ·rw [av x];exact ⟨rfl,rfl,rfl,λ_ _=>rfl⟩,
  λd hd=>by rw [tZ,av hd],
  pQ⟩
theorem vF (ho:w.isOut=false){B:KS}(cl:bM (i+1) (held (hB i) 6) K B):KE K i B:=by
 rw [rB] at cl
 by_cases c0:i=0
 ·rw [if_pos c0] at cl
  rcases cl.inv1 (l':=[]) rfl with ⟨K0,c,cl0,e⟩
  rw [e,cl0.inv0 rfl]
  exact V.shut0 hi he hr c0
 ·rw [if_neg c0] at cl
  rcases cl.inv1 (l':=[((i - 1) % 2,2*(i - 1))]) rfl with ⟨A,c',cl1,e2⟩
  rcases cl1.inv1 (l':=[]) rfl with ⟨K0,c,cl0,e1⟩
  rw [cl0.inv0 rfl] at e1
  rw [e2]
  exact V.shut1 hi he hr (e1▸V.shutA hi he hr c0 ho) c0
theorem Hs (ho:w.isOut=false){l1 l2:List (Nat×Nat)}{i' f':Nat}{K1:KS}(hl:held (hB i) 6=l1++(i',f')::l2)(cl:bM (i+1) l1 K K1):(K1.proc (i+1)).files=some (i+1)∧i'<6∧(K1.desc (i+1))[i']?=some (some f')∧1≤(K1.file f').holders∧K1.opn.length≤1000:=by
 have hfil:=((V.pr i hi).here (Nat.le_trans V.tm (Nat.le_of_eq he))).2.2
 have hde:=V.ds i hi (Nat.le_of_eq he)
 have w4:=(V.fw i hi).2.2.2 (Nat.le_of_eq he)
 rw [rB] at hl
 by_cases c0:i=0
 ·rw [if_pos c0] at hl
  cases l1 with
  |cons a l1=>simp at hl
  |nil=>
   cases hl
   rw [cl.inv0 rfl]
   rw [c0] at w4 hde⊢
   exact ⟨c0▸hfil,by decide,by rw [hde];rfl,Int.le_of_eq w4.symm,V.opl⟩
 ·rw [if_neg c0] at hl
  cases l1 with
  |nil=>
   cases hl
   rw [cl.inv0 rfl]
   exact ⟨hfil,by exact Nat.lt_trans (Nat.mod_lt _ Nat.two_pos) (by decide),by rw [hde];exact (zM c0).1,by rw [(V.fr (i - 1) (by exact Nat.le_trans (Nat.sub_le _ 1) hi)).2.2.2 (by rw [V.ro _ (by exact Nat.le_trans (Nat.sub_le _ 1) hi),if_neg (by exact Nat.ne_of_lt (Nat.lt_of_lt_of_le (Nat.sub_lt (Nat.pos_of_ne_zero c0) Nat.one_pos) hi))];exact decide_eq_true (by exact Nat.le_trans (Nat.le_of_eq he) (Nat.sub_le_iff_le_add.mp (Nat.le_refl _))))];exact Int.le_refl 1,V.opl⟩
  |cons a l1=>
   cases l1 with
   |cons b l1=>simp at hl
   |nil=>
    cases hl
    rcases cl.inv1 (l':=[]) rfl with ⟨K0,c,cl0,e1⟩
    rw [cl0.inv0 rfl] at e1
    have S:=V.shutA (c:=c) hi he hr c0 ho
    rw [←e1] at S
    exact ⟨by rw [S.proc _ (by have:=V.m3;exact p6 this hi)];exact hfil,by decide,by rw [S.desc,aj,hde];exact (zM c0).2,by rw [S.file,av (by exact jp),w4];exact Int.le_refl 1,by rw [S.opn];exact Nat.le_trans (List.length_filter_le ..) V.opl⟩
end
section
variable {W:Wd}{A:Id→Addr}{T:List UInt8}{m e t:Nat}{K:KS}{w:ao}{X h:H}{R:SV VI}{n:Nat}
theorem rF {i:Nat}{st:Int}(on:K.on=true)(V:eg T m e t K w)(hi:i≤m)(he:e=i)(hr:(K.proc (i+1)).state= .ready)(hd:(K.pipe i).wc=T.length)(hrest:(K.row i).rest=[])(hst:st=T.length)
  (k:∀K',eg T m (i+1) t K' w→jW T.length m (i+1) t K' w<jW T.length m e t K w→K'.box=K.box→K'.on=true→R A K' X (.int 0)):
  GC W (n+7) aQ [.ref .calls,.ref (.proc (i+1)),.int st] A K X R:=by
 subst he
 have m3:=V.m3
 have ho:w.isOut=false:=by
  cases q:w.isOut with
  |false=>rfl
  |true=>have:=(V.io q).1;exact absurd (Nat.le_trans (Nat.le_of_eq this.symm) (Nat.le_trans (Nat.le_of_eq rfl) hi)) (Nat.not_succ_le_self _)
 have hh:=(V.pr e hi).here (Nat.le_trans V.tm (Nat.le_of_eq rfl))
 have hde:=V.ds e hi (Nat.le_of_eq rfl)
 refine He on (p:=e+1) (d:=e+1) (by exact p6 m3 hi) hh.2.2 (λl1 i' f' l2 K1 hl cl=>Hs V hi rfl hr ho (hde▸hl) cl) (λK1 cl=> ?_) λK1 q cl _=> ?_
 ·have S:=vF V hi rfl hr ho (hde▸cl)
  exact ⟨0,0,S.oth.fst.trans V.fst,nofun,V.noKids hi S.par λj hj q=>by rw [S.proc j hj,eB (by rw [q];nofun)];exact q,(S.par _).trans hh.2.1,nofun⟩
 ·have S:=vF V hi rfl hr ho (hde▸cl)
  have fin:=V.ends (K2:=(K1.setProc (e+1) (((K1.proc (e+1)).wProg 0).dead st)).wake (.child 0 (K1.proc q).pid)) hi hr hd hrest (λj hj=> ?_) S.pipe S.tab S.opl S.opn S.file S.desc S.oth.row ⟨S.oth.np,S.oth.nf,S.oth.nd,S.oth.nr,S.oth.fst,S.oth.wor,S.oth.lis⟩
  ·exact k _ fin.1 fin.2 S.oth.box (cl.on.trans on)
  ·show (if j<6 then (if j=e+1 then (((K1.proc (e+1)).wProg 0).dead st) else K1.proc j:aa).wake (.child 0 (K1.proc q).pid) else (if j=e+1 then (((K1.proc (e+1)).wProg 0).dead st) else K1.proc j:aa))=_
   rw [if_pos hj]
   by_cases x:j=e+1
   ·rw [if_pos x,if_pos x,eB (λe=>PS.noConfusion e),hst,S.proc _ (by exact p6 m3 hi),eB (by rw [hr];nofun)]
   ·rw [if_neg x,if_neg x,S.proc j hj]
    exact (V.endWake hi rfl hj hr).2.2 _
end
theorem nh {K:KS}{i:Nat}{r:c6}(h:K.row i=r):K.setRow i r=K:=by subst h;simp only [KS.setRow,pz]
theorem qP {K:KS}{w:ao}(h:K.world=some w):K.setWorld w=K:=by unfold KS.setWorld;rw [←h]
theorem zG {K:KS}{ch:Ch}(h:∀j,j<6→(K.proc j).wake ch=K.proc j):K.wake ch=K:=by
 have:(λi=>if i<6 then (K.proc i).wake ch else K.proc i)=K.proc:=by
  funext i;split
  ·exact h i ‹_›
  ·rfl
 unfold KS.wake KS.wakeTo;rw [this]
structure AL (T:List UInt8)(m e t:Nat)(K:KS)(w:ao)(K':KS)(e' t':Nat)(w':ao):Prop where
 inv:eg T m e' t' K' w'
 phi:jW T.length m e' t' K' w'<jW T.length m e t K w
 box:K'.box=K.box
 on:K'.on=true
theorem ac.drop0 (p:ac):p.drop 0=p:=rfl
section
variable {W:Wd}{A:Id→Addr}{T:List UInt8}{m e t:Nat}{K:KS}{w:ao}{X h:H}{R:SV VI}{n:Nat}
theorem Cb {i:Nat}(on:K.on=true)(V:eg T m e t K w)(hi:i=m)(hr:(K.proc 0).state= .ready)(ho:w.isOut=false)(ei:i<e)(eq:(K.pipe i).wc=(K.pipe i).rc)
  (k:∀K' e' t' w',AL T m e t K w K' e' t' w'→R A K' X .none):GC W (n+5) aW [.ref .calls,.ref (.proc 0),.int (i % 2:Nat)] A (K.setWorld w.wIs) X λA₂ K₂ X₂ _=>A₂=A∧R A K₂ X₂ .none:=by
 subst hi
 have em:e=i+1:=by have:=V.em;lia
 refine bq λzq=> ?_
 obtain ⟨f1,f2,f3,f4⟩:=V.fr i (Nat.le_refl _)
 apply zq;clear zq
 have f4:=f4 (by rw [V.ro i (Nat.le_refl _),if_pos rfl,ho];rfl)
 have wo:(K.pipe i).wo=false:=by rw [V.wo i (Nat.le_refl _)];exact decide_eq_false (by lia)
 refine tU (K:=K.setWorld w.wIs) (p:=0) (d:=0) (f:=2*i) on (by decide) V.p0.2.2.1 (Nat.lt_trans (Nat.mod_lt i (by decide)) (by decide)) (V.d0 ho) (Int.le_of_eq f4.symm) V.opl λc=>⟨rfl,k _ e t w.wIs ⟨?_,?_,?_,?_⟩⟩
 rotate_left 2
 ·exact pQ.box
 ·exact (CM ..).1.trans on
 all_goals
  have hk:((K.setWorld w.wIs).file (2*i)).holders=1:=f4
  have oth:=pQ (K:=K.setWorld w.wIs) (d:=0) (s:=i % 2) (f:=2*i) (c:=c)
  have fin:=V.seen (K2:=(K.setWorld w.wIs).closeAt 0 (i % 2) (2*i) c) em ho eq hr (λj hj=>by
   rw [mm,if_pos hj]
   show ((K.proc j).wake (.pipe 0 (K.file (2*i)).pipe 0)).wake (.pipe 0 (K.file (2*i)).pipe 1)=K.proc j
   rw [f3]
   rcases V.wakeR (Nat.le_refl i) hj with ⟨q,_⟩|⟨_,_,_,q,_⟩
   ·rw [q]
    rcases V.wakeW (Nat.le_refl i) hj with ⟨q,_⟩|⟨_,_,_,q,_⟩
    ·exact q
    ·exact absurd ei (Nat.not_lt.mpr q)
   ·exact absurd ei (Nat.not_lt.mpr q)) (λj=>by
   rw [oH hk]
   show upd K.pipe (K.file (2*i)).pipe (if (K.file (2*i)).wr=true then (K.pipe (K.file (2*i)).pipe).wWo false else (K.pipe (K.file (2*i)).pipe).wRo false) j=_
   rw [f3,f2];rfl) (λj hj=>by
   rw [yo hk] at hj
   have hj':j∈if (!(if (K.file (2*i)).wr=true then (K.pipe (K.file (2*i)).pipe).ro else false)&& !(if (K.file (2*i)).wr=true then false else (K.pipe (K.file (2*i)).pipe).wo))=true then K.tab.filter (λj=>decide (j≠(K.file (2*i)).pipe)) else K.tab:=hj
   rw [f2,f3,wo] at hj'
   have hj'':j∈K.tab.filter (λj=>decide (j≠i)):=hj'
   obtain ⟨z1,z2⟩:=List.mem_filter.mp hj''
   exact ⟨z1,of_decide_eq_true z2⟩) (qf hk) (λf hf=>by
   rw [pV hk] at hf
   obtain ⟨z1,z2⟩:=List.mem_filter.mp hf
   exact ⟨z1,of_decide_eq_true z2⟩) (λf=>by
   rw [oI]
   show (upd K.file (2*i) ((K.file (2*i)).wHold ((K.file (2*i)).holders - 1)) f).rd=_∧_
   unfold upd;split
   ·rename_i q;subst q;exact ⟨rfl,rfl,rfl,λx=>absurd rfl x⟩
   ·exact ⟨rfl,rfl,rfl,λ_=>rfl⟩) oth.row ⟨oth.np,oth.nf,oth.nd,oth.nr,oth.fst,oth.wor,oth.lis⟩
 ·exact fin.1
 ·exact fin.2
structure PF (T:List UInt8)(m e:Nat)(K:KS)(w:ao)(i sz:Nat):Prop where
 pr:(K.row (i+1)).proc=if i=m then 0 else i+2
 inn:(K.row (i+1)).inn= .int ((i % 2:Nat):Int)
 size:(K.row (i+1)).size=sz
 s1:1≤sz
 out:AS (K.row (i+1)).out=some (decide (i=m))
 fil:(K.proc (if i=m then 0 else i+2)).files=some (if i=m then 0 else i+2)
 sl:(K.desc (if i=m then 0 else i+2))[i % 2]?=some (some (2*i))
theorem eg.rdI (V:eg T m e t K w){i:Nat}(hi:i≤m)(ho:w.isOut=false)(hA:i<m→e≤i+1∧(K.row (i+1)).rest=[]):∃sz,PF T m e K w i sz:=by
 have t0:=V.nio ho
 have RS:=V.rs (i+1) (Nat.succ_le_succ hi)
 refine bq λzq=> ?_
 obtain ⟨sz,s1,s2,s3⟩:=RS.size
 apply zq;clear zq
 refine ⟨sz,?_,?_,s1,s2,?_,?_,?_⟩
 ·rw [RS.proc];by_cases x:i=m
  ·rw [if_pos x,if_pos (congrArg (· +1) x)]
  ·rw [if_neg x,if_neg λy=>x (Nat.succ.inj y)]
 ·rw [RS.inn,if_neg (Nat.succ_ne_zero i)];rfl
 ·rw [RS.out];by_cases x:i=m
  ·rw [if_pos (congrArg (· +1) x),decide_eq_true x];rfl
  ·rw [if_neg λy=>x (Nat.succ.inj y),decide_eq_false x];rfl
 ·by_cases x:i=m
  ·rw [if_pos x];exact V.p0.2.2.1
  ·rw [if_neg x];exact ((V.pr (i+1) (Nat.lt_of_le_of_ne hi x)).here (by rw [t0];exact Nat.zero_le _)).2.2
 ·by_cases x:i=m
  ·rw [if_pos x,x];exact V.d0 ho
  ·have lt:=Nat.lt_of_le_of_ne hi x
   rw [if_neg x,V.ds (i+1) lt (hA lt).1]
   unfold hB;rw [if_neg (Nat.succ_ne_zero i),show i+1 - 1=i from rfl]
   by_cases y:i % 2=0
   ·rw [if_pos y,y];rfl
   ·rw [if_neg y,show i % 2=1 by lia];rfl
theorem pT {i:Nat}(on:K.on=true)(V:eg T m e t K w)(hi:i≤m)(hr:(K.proc (if i=m then 0 else i+2)).state= .ready)(ho:w.isOut=false)(hA:i<m→e≤i+1∧(K.row (i+1)).rest=[])
  (k:∀K' e' t' w',AL T m e t K w K' e' t' w'→R A K' X .none):GC W (n+8) d9 [.ref .calls,.ref (.row (i+1)),.ref .world] A K X R:=by
 have m3:=V.m3
 have t0:=V.nio ho
 have RS:=V.rs (i+1) (Nat.succ_le_succ hi)
 obtain ⟨sz,J⟩:=V.rdI hi ho hA
 have PI:=V.pp i hi
 refine bq λzq=> ?_
 obtain ⟨f1,f2,f3,f4⟩:=V.fr i hi
 apply zq;clear zq
 have q6:(if i=m then 0 else i+2)<6:=by split<;>lia
 refine Hm (m:=n+7) (w:=w) on (by rw [V.nr];lia) ?_
 have hout:=J.out
 have hinn:=J.inn
 rw [J.pr,J.inn,J.size]
 have hpp:=J.pr
 have fil:=J.fil
 have sl:=J.sl
 generalize hq:(if i=m then 0 else i+2)=q at*
 refine HZ (n:=n+3) on q6 fil (Nat.lt_trans (Nat.mod_lt i (by decide)) (by decide)) sl f1 (by rw [f3];exact PI.le) (by rw [f3];exact zC PI.fit) J.s1 ?_ ?_
 ·rw [f3]
  intro e1 e2 c
  have ei:e≤i:=by rw [V.wo i hi] at e2;exact of_decide_eq_true e2
  have fin:=V.nap (a:=c) hi ei hq.symm hr (zE PI.le e1)
  exact .no rfl (k _ e t w ⟨fin.1,fin.2,rfl,on⟩)
 ·rw [f3]
  intro e1 n1 e2
  have fit:(K.pipe i).rc+n1≤(K.pipe i).wc:=Nat.add_le_of_le_sub' PI.le (Nat.le_trans (Nat.le_of_eq e2) (Nat.min_le_right _ _))
  have tw:(K.pipe i).wc≤T.length:=PI.top
  rw [Ka PI fit]
  have gl:((T.drop (K.pipe i).rc).take n1).length=n1:=by rw [List.length_take,List.length_drop];exact Nat.min_eq_left (Nat.le_sub_of_add_le' (Nat.le_trans fit tw))
  have g0:(T.drop (K.pipe i).rc).take n1=[]→n1=0:=λz=>by rw [z] at gl;exact gl.symm
  have s1:=J.s1
  have nil:n1=0→i<e∧(K.pipe i).wc=(K.pipe i).rc∧(K.setPipe i ((K.pipe i).drop n1)).wake (.pipe 0 i 1)=K:=λz=>by
   have fe:(K.pipe i).fill=0:=(Di (z.symm.trans e2) (Nat.ne_of_lt s1)).symm
   have e1:=e1 fe
   have ei:i<e:=by rw [V.wo i hi] at e1;exact Nat.not_le.mp (of_decide_eq_false e1)
   refine ⟨ei,zE PI.le fe,?_⟩
   rw [z,ac.drop0,iA]
   refine zG λj hj=> ?_
   rcases V.wakeW hi hj with ⟨q,_⟩|⟨_,_,_,q,_⟩
   ·exact q
   ·exact absurd ei (Nat.not_lt.mpr q)
  refine .yes _ (decide (i=m)) rfl on (by show i+1<K.nr;rw [V.nr];lia) rfl V.wor (by rw [hpp];exact q6) ?_ hout ⟨λz im=> ?_,λz im=> ?_,λz im=> ?_,λz im=> ?_⟩
  ·rw [gl,V.out,List.length_take];exact Nat.le_trans (Nat.add_le_add (Nat.min_le_right _ _) (Nat.le_trans (Nat.le_add_left _ _) (Nat.le_trans fit tw))) (Nat.le_trans (Nat.add_le_add V.tl.2 V.tl.2) (by decide))
  ·refine bq λzq=> ?_
   obtain ⟨ei,eq,eK⟩:=nil (g0 z)
   apply zq;clear zq
   have im:=of_decide_eq_true im
   rw [if_pos im] at hq;subst hq
   rw [eK,hpp,hinn]
   exact Cb (n:=n+2) on V im hr ho ei eq k
  ·obtain ⟨ei,eq,eK⟩:=nil (g0 z)
   have im:=of_decide_eq_false im
   have lt:=Nat.lt_of_le_of_ne hi im
   rw [if_neg im] at hq;subst hq
   rw [eK,hpp]
   have hA:=hA lt
   have ee:e=i+1:=Nat.le_antisymm hA.1 ei
   obtain ⟨b,D⟩:=V.rd (i+1) lt
   have dr:=D.rest
   rw [hA.2] at dr
   have dle:=D.le
   have dl:=congrArg List.length dr
   rw [List.length_take,List.length_drop] at dl
   have bs:=vy dle dl
   have wl:b=T.length:=bs.trans (eq.symm.trans ((V.pr i hi).dead ei).1)
   exact rF (n:=n) on V lt ee hr (Nat.le_antisymm (Nat.le_trans dle.2.1 dle.2.2) (Nat.le_trans (Nat.le_of_eq wl.symm) dle.1)) hA.2 (by rw [D.pas,wl]) λK2 V2 P2 B2 O2=>⟨rfl,k K2 _ _ _ ⟨V2,P2,B2,O2⟩⟩
  ·have im:=of_decide_eq_true im
   have n0:0<n1:=Nat.pos_of_ne_zero λy=>z (by rw [y];rfl)
   subst im
   have fin:=V.read (b':=0) (r':=K.row (i+1)) (w':=w.wOut (T.take ((K.pipe i).rc+n1))) (n:=n1) hi fit n0 V.em ho rfl (hq▸hr) RS (λx=>absurd x (Nat.lt_irrefl _)) (λ_=>⟨rfl,rfl⟩)
   have eo:w.out++(T.drop (K.pipe i).rc).take n1=T.take ((K.pipe i).rc+n1):=by rw [V.out,List.take_add]
   rw [eo]
   have:((K.setPipe i ((K.pipe i).drop n1)).wake (.pipe 0 i 1)).setRow (i+1) (K.row (i+1))=(K.setPipe i ((K.pipe i).drop n1)).wake (.pipe 0 i 1):=nh rfl
   rw [this] at fin
   exact k _ e t _ ⟨fin.1,fin.2,rfl,on⟩
  ·have im:=of_decide_eq_false im
   have lt:=Nat.lt_of_le_of_ne hi im
   have n0:0<n1:=Nat.pos_of_ne_zero λy=>z (by rw [y];rfl)
   have hA:=hA lt
   obtain ⟨b,D⟩:=V.rd (i+1) lt
   have dr:=D.rest
   rw [hA.2] at dr
   have dle:=D.le
   have dl:=congrArg List.length dr
   rw [List.length_take,List.length_drop] at dl
   have hb:b=(K.pipe i).rc:=vy dle dl
   have fin:=V.read (b':=b) (r':=(K.row (i+1)).wRest ((T.drop (K.pipe i).rc).take n1)) (w':=w) (n:=n1) hi fit n0 hA.1 ho rfl (hq▸hr) ⟨RS.proc,RS.lst,RS.pid,RS.out,RS.inn,RS.size⟩ (λx=>⟨⟨?_,D.pas,D.prog,⟨dle.1,Nat.le_trans dle.2.1 (Nat.le_add_right _ n1),Nat.le_trans fit tw⟩,?_,λq=>absurd (Nat.le_trans (Nat.le_of_eq q.symm) dle.2.1) (Nat.not_le.mpr (Nat.lt_add_of_pos_right n0))⟩,rfl⟩) (λx=>absurd x im)
   ·have:(((K.setPipe i ((K.pipe i).drop n1)).wake (.pipe 0 i 1)).setRow (i+1) ((K.row (i+1)).wRest ((T.drop (K.pipe i).rc).take n1))).setWorld w=((K.setPipe i ((K.pipe i).drop n1)).wake (.pipe 0 i 1)).setRow (i+1) ((K.row (i+1)).wRest ((T.drop (K.pipe i).rc).take n1)):=qP V.wor
    rw [this] at fin
    exact k _ e t w ⟨fin.1,fin.2,rfl,on⟩
   ·have:=D.left;rw [if_neg (Nat.succ_ne_zero i)] at this⊢;exact this
   ·show (T.drop (K.pipe i).rc).take n1=_
    rw [hb,Nat.add_sub_cancel_left]
theorem ng {i:Nat}(on:K.on=true)(V:eg T m e t K w)(hi:i≤m)(hr:(K.proc (i+1)).state= .ready)(hx:(K.row i).rest≠[])
  (k:∀K' e' t' w',AL T m e t K w K' e' t' w'→R A K' X .none):GC W (n+6) bZ [.ref .calls,.ref (.row i)] A K X R:=by
 have m3:=V.m3
 have RS:=V.rs i (Nat.le_succ_of_le hi)
 have PI:=V.pp i hi
 have P:=V.pr i hi
 have ei:e≤i:=by
  by_cases x:e≤i
  ·exact x
  ·by_cases y:i<t
   ·rw [P.gone y] at hr;cases hr
   ·rw [((P.dead (Nat.not_le.mp x)).2 (Nat.not_lt.mp y)).1] at hr;cases hr
 have te:=V.tm
 refine bq λzq=> ?_
 obtain ⟨f1,f2,f3,f4⟩:=V.fw i hi
 have hfil:=(P.here (Nat.le_trans te ei)).2.2
 obtain ⟨b,D⟩:=V.rd i hi
 apply zq;clear zq
 have dle:=D.le
 have dlen:(K.row i).rest.length=K.src T i - b:=by rw [D.rest,List.length_take,List.length_drop];exact Nat.min_eq_left (Nat.sub_le_sub_right dle.2.2 b)
 have dpos:0<(K.row i).rest.length:=List.length_pos_iff.mpr hx
 have hsl:(K.desc (i+1))[if i=0 then 1 else 2]?=some (some (2*i+1)):=by
  rw [V.ds i hi ei];unfold hB
  by_cases x:i=0
  ·subst x;rfl
  ·rw [if_neg x,if_neg x];split<;>rfl
 have ro:(K.pipe i).ro=true:=by
  rw [V.ro i hi];split
  ·cases q:w.isOut with
   |false=>rfl
   |true=>exact absurd (V.io q).1 (by lia)
  ·exact decide_eq_true (Nat.le_succ_of_le ei)
 have drp:(K.row i).rest.drop ((K.pipe i).wc - b)=(T.drop (K.pipe i).wc).take (K.src T i - (K.pipe i).wc):=by
  rw [D.rest,List.drop_take,List.drop_drop,Nat.add_sub_of_le dle.1,Nat.sub_sub_sub_cancel_right dle.1]
 have tl:=V.tl
 have pfit:=PI.fit
 have ple:=PI.le
 have rp:(K.row i).proc=i+1:=by rw [RS.proc,if_neg (Nat.ne_of_lt (Nat.lt_succ_of_le hi))]
 have rout:(K.row i).out= .int ((if i=0 then 1 else 2:Nat):Int):=by rw [RS.out,if_neg (Nat.ne_of_lt (Nat.lt_succ_of_le hi))];split<;>rfl
 have src_ne:(K.pipe i).wc≠K.src T i:=λq=>Nat.ne_of_gt dpos (dlen.trans (Nat.sub_eq_zero_of_le (Nat.le_of_eq (D.full q).symm)))
 have p6:i+1<6:=p6 m3 hi
 have pS:K.src T i - b - ((K.pipe i).wc - b)=K.src T i - (K.pipe i).wc:=Nat.sub_sub_sub_cancel_right dle.1
 have wb:(((K.pipe i).wc - b:Nat):Int)=(K.pipe i).wc - b:=Int.ofNat_sub dle.1
 have same:∀P,((K.setPipe i P).wake (.pipe 0 i 0)).proc (i+1)=K.proc (i+1):=λP=>by
  show (if i+1<6 then (K.proc (i+1)).wake _ else _)=_
  rw [if_pos p6,eB (by rw [hr];nofun)]
 refine C1 (n:=n) on (by rw [V.nr];lia) ?_
 rw [rp,rout]
 refine F5 (pr:=(K.pipe i).wc - b) on p6 hfil (by split<;>decide) hsl f2 (by rw [f3];exact ro) (by rw [f3];exact ple) (by rw [f3];exact zC pfit) (by rw [dlen];exact Nat.le_trans (Nat.sub_le ..) (Nat.le_trans dle.2.2 (Nat.le_trans tl.2 (by decide)))) (by rw [D.prog];exact wb.symm) (by rw [dlen];exact Nat.sub_le_sub_right dle.2.1 b) ?_ ?_
 ·rw [f3]
  intro c n1 K1 e1 e2 hK1
  rw [dlen,pS] at e1 e2
  have n1s:n1≤K.src T i - (K.pipe i).wc:=e1▸Nat.min_le_left _ _
  have ws:=Nat.add_le_of_le_sub' dle.2.1 n1s
  have wz:(K.pipe i).wc+n1=(K.pipe i).rc+(K.pipe i).size:=(congrArg _ (Di e1 e2)).trans (we ple pfit)
  rw [drp,List.take_take,Nat.min_eq_left n1s] at hK1
  have eP:K1.proc (i+1)=K.proc (i+1):=hK1▸same _
  have fin:=V.write (n:=n1) (b':=b) (r':=K.row i) (p':=(((K1.proc (i+1)).wProg (((K.pipe i).wc - b+n1:Nat):Int)).wState .sleeping).wChan (.pipe c i 1)) hi ei hr (Nat.le_of_eq wz) ws hK1 (by rw [eP];exact ⟨rfl,rfl,rfl⟩) (.inr ⟨rfl,c,rfl,wz⟩) RS rfl ⟨D.left,D.pas,?_,⟨Nat.le_trans dle.1 (Nat.le_add_right ..),ws,dle.2.2⟩,D.rest,λq=>absurd (Nat.eq_sub_of_add_eq' q) e2⟩
  ·have:(K1.setProc (i+1) ((((K1.proc (i+1)).wProg (((K.pipe i).wc - b+n1:Nat):Int)).wState .sleeping).wChan (.pipe c i 1))).setRow i (K.row i)=K1.setProc (i+1) ((((K1.proc (i+1)).wProg (((K.pipe i).wc - b+n1:Nat):Int)).wState .sleeping).wChan (.pipe c i 1)):=nh (by rw [hK1];rfl)
   rw [this] at fin
   exact .no rfl (k _ e t w ⟨fin.1,fin.2,by rw [hK1];rfl,by rw [hK1];exact on⟩)
  ·show (((K.pipe i).wc - b+n1:Nat):Int)=_;rw [←Nat.sub_add_comm dle.1];exact Int.ofNat_sub (Nat.le_trans dle.1 (Nat.le_add_right ..))
 ·rw [f3]
  intro K1 e1 hK1
  rw [drp] at hK1
  rw [dlen,pS] at e1
  have wS:=Nat.add_sub_of_le dle.2.1
  have eP:K1.proc (i+1)=K.proc (i+1):=hK1▸same _
  have fin:=V.write (n:=K.src T i - (K.pipe i).wc) (b':=K.src T i) (r':=((K.row i).wPass ((K.row i).passed+(K.row i).rest.length)).wRest []) (p':=(K1.proc (i+1)).wProg 0) hi ei hr (Nat.le_trans (Nat.add_le_add_left e1 _) (Nat.le_of_eq (we ple pfit))) (Nat.le_of_eq wS) hK1 (by rw [eP];exact ⟨rfl,rfl,rfl⟩) (.inl ⟨by rw [eP];exact hr,Nat.sub_pos_of_lt (Nat.lt_of_le_of_ne dle.2.1 src_ne)⟩) ⟨RS.proc,RS.lst,RS.pid,RS.out,RS.inn,RS.size⟩ rfl ⟨D.left,?_,?_,⟨Nat.le_of_eq wS.symm,Nat.le_of_eq wS,dle.2.2⟩,?_,λ_=>rfl⟩
  ·refine .yes _ rfl (by rw [hK1];show i<K.nr;rw [V.nr];lia) (by rw [hK1];rfl) (k _ e t w ⟨fin.1,fin.2,by rw [hK1];rfl,by rw [hK1];exact on⟩)
  ·show (K.row i).passed+(K.row i).rest.length=_;rw [D.pas,dlen,Int.ofNat_sub (Nat.le_trans dle.1 dle.2.1),Int.add_comm,Int.sub_add_cancel]
  ·show (0:Int)=_;rw [wS,Int.sub_self]
  ·show []=_;rw [Nat.sub_self];rfl
end
theorem rt {α:Type}(x:List α)(t:Nat):cut x none (some (t:Int))=x.take t:=by
 by_cases h:t≤x.length
 ·exact wI x h
 ·have:clipAt x.length (t:Int)=x.length:=(D7 ..).trans (Nat.min_eq_right (Nat.le_of_not_le h))
  unfold cut
  show (x.drop 0).take (clipAt x.length t - 0)=_
  rw [this,Nat.sub_zero,List.drop_zero,List.take_of_length_le (Nat.le_refl _),List.take_of_length_le (Nat.le_of_not_le h)]
theorem BK {α:Type}(x:List α)(t:Nat):cut x (some (t:Int)) none=x.drop t:=by
 by_cases h:t≤x.length
 ·exact vc x h
 ·have:clipAt x.length (t:Int)=x.length:=(D7 ..).trans (Nat.min_eq_right (Nat.le_of_not_le h))
  unfold cut
  show (x.drop (clipAt x.length t)).take _=_
  rw [this,List.drop_length,List.take_nil,List.drop_eq_nil_of_le (Nat.le_of_not_le h)]
section
variable {W:Wd}{A:Id→Addr}{T:List UInt8}{m e t:Nat}{K:KS}{w:ao}{X h:H}{R:SV VI}{n:Nat}
theorem eg.nextZ (V:eg T m e t K w)(ho:w.isOut=true)(ht:t<m+1):(K.kids 0).find? K.zomb=some (t+1):=by
 have m3:=V.m3
 have he:=(V.io ho).1
 have tm:t≤m:=Nat.le_of_lt_succ ht
 unfold KS.kids
 rw [List.find?_filter,List.find?_range_eq_some]
 have P:=V.pr t tm
 refine ⟨?_,List.mem_range.mpr (by exact p6 m3 (Nat.le_of_lt_succ ht)),λj hj=> ?_⟩
 ·have h1:=(P.here (Nat.le_refl t)).2.1
  have h2:=((P.dead (by exact Nat.le_trans ht (Nat.le_of_eq he.symm))).2 (Nat.le_refl t)).1
  unfold KS.isKid KS.zomb
  rw [h1,h2];rfl
 ·unfold KS.isKid
  match j with
  |0=>rw [V.p0.2.1,decide_eq_false (show ¬(none=some 0) from nofun),Bool.and_false];rfl
  |j+1=>rw [(V.pr j (by lia)).gone (by exact Nat.lt_of_succ_lt_succ hj)];rfl
theorem Al (on:K.on=true)(V:eg T m e t K w)(ho:w.isOut=true)(ht:t<m+1)(k:∀K' e' t' w',AL T m e t K w K' e' t' w'→R A K' X .none):
  GC W (n+4) aZ [.ref .calls,.ref (.proc 0)] A K X λA₁ K₁ X₁ v=>A₁=A∧∃c q s,v= .adr c∧X₁ c=some (.tup [.int q,.int s])∧K₁.world=some w∧ml X X₁∧∀e,R A (K₁.setWorld (w.wTold (c,q,s) e)) X .none:=by
 have nz:=V.nextZ ho ht
 have P:=V.pr t (Nat.le_of_lt_succ ht)
 have he:=(V.io ho).1
 have hpid:=(P.here (Nat.le_refl t)).1
 have hst:=((P.dead (by exact Nat.le_trans ht (Nat.le_of_eq he.symm))).2 (Nat.le_refl t)).2
 refine FY on (Ju on (by decide) (λq hq c r xc=> ?_) λq=> ?_)
 ·rw [nz] at hq
  cases hq
  rw [hpid,hst]
  refine ⟨rfl,c,_,_,rfl,H.put_same ..,V.wor,ai xc,λd=> ?_⟩
  have fin:=V.tells (c:=c) (dd:=d) (rr:=r) ho ht
  exact k _ _ _ _ ⟨fin.1,fin.2,rfl,on⟩
 ·rw [nz] at q;cases q
theorem L5 {r:Nat}(on:K.on=true)(V:eg T m e t K w)(hr:r≤m+1)(hrd:(K.proc (K.row r).proc).state= .ready)(ht:t<m+1)(k:∀K' e' t' w',AL T m e t K w K' e' t' w'→R A K' X .none):
  GC W (n+10) eF [.ref .calls,.ref (.row r),.ref .world] A K X R:=by
 have m3:=V.m3
 have hnr:r<K.nr:=by rw [V.nr];exact Nat.lt_succ_of_le hr
 have RS:=V.rs r hr
 refine bq λzq=> ?_
 obtain ⟨sz,s1,s2,s3⟩:=RS.size
 apply zq;clear zq
 have tl:=V.tl
 have tlen:w.told.length=t:=by have:=congrArg List.length V.told;rwa [List.length_map,List.length_map,List.length_range] at this
 have k':∀A₁ K' e' t' w',A₁=A→AL T m e t K w K' e' t' w'→A₁=A∧R A K' X .none:=λA₁ K' e' t' w' q n=>⟨q,k K' e' t' w' n⟩
 by_cases c1:r=m+1
 ·subst c1
  have rp:(K.row (m+1)).proc=0:=by rw [RS.proc,if_pos rfl]
  have ro:AS (K.row (m+1)).out=some true:=by rw [RS.out,if_pos rfl];rfl
  have ri:AS (K.row (m+1)).inn=some false:=by rw [RS.inn,if_neg (Nat.succ_ne_zero m)];rfl
  rw [rp] at hrd
  refine Es (m:=n+9) on hnr V.wor ri ro (by rw [V.rl.1];exact Nat.zero_le _) (by lia) ⟨nofun,λ_=>nofun,λ_=>nofun,λ_ ho _=> ?_,λ_ _ ho=> ?_⟩
  ·rw [rp]
   exact Al (n:=n+5) on V ho ht k
  ·have ho:w.isOut=false:=by
    cases q:w.isOut with
    |false=>rfl
    |true=>cases ho q
   exact pT (n:=n+1) on V (Nat.le_refl _) (by rw [if_pos rfl];exact hrd) ho (λx=>absurd x (Nat.lt_irrefl _)) λK' e' t' w' N=>⟨rfl,k K' e' t' w' N⟩
 ·have hi:r≤m:=Nat.le_of_lt_succ (Nat.lt_of_le_of_ne hr c1)
  have rp:(K.row r).proc=r+1:=by rw [RS.proc,if_neg c1]
  rw [rp] at hrd
  have ro:AS (K.row r).out=some false:=by rw [RS.out,if_neg c1];rfl
  have ri:AS (K.row r).inn=some (decide (r=0)):=by
   rw [RS.inn]
   by_cases x:r=0
   ·rw [if_pos x,decide_eq_true x];rfl
   ·rw [if_neg x,decide_eq_false x];rfl
  have P:=V.pr r hi
  have ei:e≤r:=by
   by_cases x:e≤r
   ·exact x
   ·by_cases y:r<t
    ·rw [P.gone y] at hrd;cases hrd
    ·rw [((P.dead (Nat.not_le.mp x)).2 (Nat.not_lt.mp y)).1] at hrd;cases hrd
  have ho:w.isOut=false:=by
   cases q:w.isOut with
   |false=>rfl
   |true=>exact absurd (V.io q).1 (by lia)
  obtain ⟨b,D⟩:=V.rd r hi
  have dle:=D.le
  have dl:(K.row r).rest.length=min (K.src T r - b) (T.length - b):=by rw [D.rest,List.length_take,List.length_drop]
  have r0:decide (r=0)=true→r=0:=of_decide_eq_true
  have ll:r=0→(K.row r).left.length=T.length - K.src T r:=λx=>by rw [D.left,if_pos x,List.length_drop]
  have bs:(K.row r).rest=[]→b=K.src T r:=λx=>by rw [x] at dl;have dl:0=min (K.src T r - b) (T.length - b):=dl;exact vy dle dl
  refine Es (m:=n+9) on hnr V.wor ri ro ?_ (by lia) ⟨λ_ hx=> ?_,λhx z hl=> ?_,λhx z hl=> ?_,λ_ _=>nofun,λhx z _=> ?_⟩
  ·by_cases x:r=0
   ·rw [ll x];exact Nat.le_trans (Nat.sub_le ..) (Nat.le_trans tl.2 (by decide))
   ·rw [D.left,if_neg x];exact Nat.zero_le _
  ·exact ng (n:=n+3) on V hi hrd hx λK' e' t' w' N=>⟨rfl,k K' e' t' w' N⟩
  ·have hx:=hx rfl
   cases r0 z
   rw [s1,rt,BK]
   have ll:=ll rfl
   refine bq λzq=> ?_
   obtain ⟨V1,P1,x1⟩:=V.piece (s:=sz) (by lia) hx hl s2
   apply zq;clear zq
   refine ng (n:=n+3) (K:=K.setRow 0 (((K.row 0).wRest ((K.row 0).left.take sz)).wLeft ((K.row 0).left.drop sz))) (i:=0) on V1 hi hrd (by rw [kF];exact x1) λK' e' t' w' N=>⟨rfl,k K' e' t' w' ⟨N.inv,by rw [←P1];exact N.phi,N.box,N.on⟩⟩
  ·have hx:=hx rfl
   cases r0 z
   rw [rp]
   have ll:=ll rfl
   rw [hl] at ll
   have ll:0=T.length - K.src T 0:=ll
   have bs:=bs hx
   exact rF (n:=n+2) (i:=0) on V hi (by lia) hrd (by have:=D.full;have:=V.src_le hi;lia) hx (by rw [D.pas];lia) λK' V' P' B' O'=>⟨rfl,k K' _ _ _ ⟨V',P',B',O'⟩⟩
  ·have hx:=hx rfl
   have z:r≠0:=of_decide_eq_false z
   obtain ⟨i,rfl⟩:=Nat.exists_eq_succ_of_ne_zero z
   exact pT (n:=n+1) (i:=i) on V (Nat.le_of_succ_le hi) (by rw [if_neg (Nat.ne_of_lt hi)];exact hrd) ho (λ_=>⟨ei,hx⟩) λK' e' t' w' N=>⟨rfl,k K' e' t' w' N⟩
end
noncomputable def Ii:List (Int×Int)→Prop
 |[]=>True
 |[_]=>True
 |p::q::r=>p.1<q.1∧Ii (q::r)
section
variable {prog:Program}{w:World}{A:Around}{s:Shared}
theorem CK {cmp:Nat→Nat→(Bool→Shared→Prop)→Shared→Prop}{p:Array Nat}{Q:Nat→Shared→Prop}:∀(f n:Nat),(∀i,n≤i→i<n+f→∀C:Bool→Shared→Prop,C false s→cmp (p.getD i 0) (p.getD (i - 1) 0) C s)→Q (n+f) s→(kas_asc p f n).kasWp cmp Q s
 |0,n,_,q=>q
 |f+1,n,h,q=>h n (Nat.le_refl _) (by lia) _ (by
  show (if false=true then KasT.ret n else kas_asc p f (n+1)).kasWp cmp Q s
  rw [if_neg (by simp)]
  exact CK f (n+1) (λi h1 h2=>h i (by exact Nat.le_of_succ_le h1) (by exact Nat.lt_of_lt_of_le h2 (Nat.le_of_eq (Nat.add_right_comm ..)))) (by rw [show n+1+f=n+(f+1) by lia];exact q))
theorem Ht {cmp:Nat→Nat→(Bool→Shared→Prop)→Shared→Prop}{n:Nat}{Q:Array Nat→Shared→Prop}(h2:2≤n)(h:∀i,1≤i→i<n→∀C:Bool→Shared→Prop,C false s→cmp i (i - 1) C s)(q:Q (List.toArray (List.range n)) s):(kas_sort n).kasWp cmp Q s:=by
 have g:∀i,i<n→(List.toArray (List.range n)).getD i 0=i:=λi hi=>by simp [Array.getD,hi]
 unfold kas_sort kas_count
 rw [KasT.kasWp_bind,KasT.kasWp_bind]
 refine CK (n - 1) 1 (λi h1 h3 C hc=> ?_) ?_
 ·rw [g i (by exact Nat.lt_of_lt_of_le h3 (Nat.le_of_eq (Nat.add_sub_of_le (Nat.le_of_succ_le h2)))),g (i - 1) (by exact Nat.lt_of_le_of_lt (Nat.sub_le _ 1) (Nat.lt_of_lt_of_le h3 (Nat.le_of_eq (Nat.add_sub_of_le (Nat.le_of_succ_le h2)))))];exact h i h1 (by exact Nat.lt_of_lt_of_le h3 (Nat.le_of_eq (Nat.add_sub_of_le (Nat.le_of_succ_le h2)))) C hc
 ·rw [show 1+(n - 1)=n by exact Nat.add_sub_of_le (Nat.le_of_succ_le h2)]
  rw [if_pos (by simp)]
  show (if n<n then _ else KasT.ret (List.toArray (List.range n))).kasWp cmp Q s
  rw [if_neg (Nat.lt_irrefl _)]
  exact q
noncomputable def qT (h:Heap)(xs:List Addr)(ns:List (Int×Int)):Prop:=xs.length=ns.length∧∀i (q:i<xs.length) (q':i<ns.length),∃o t u n,h.get? xs[i]=some o∧o.cls= .type "tuple"∧o.data= .seq #[.int ns[i].1 t,.int ns[i].2 u] n
theorem qT.keeps {h h':Heap}{xs:List Addr}{ns:List (Int×Int)}(T:qT h xs ns)(k:∀x∈xs,∀o,h.get? x=some o→h'.get? x=some o):qT h' xs ns:=
 ⟨T.1,λi q q'=>by obtain ⟨o,t,u,n,a,b,c⟩:=T.2 i q q';exact ⟨o,t,u,n,k _ (List.getElem_mem q) _ a,b,c⟩⟩
theorem qT.kat {h:Heap}{xs:List Addr}:∀{ns:List (Int×Int)},qT h xs ns→∃fs:List Value,KatTups h (xs.map Value.ref) fs∧fs.length=xs.length∧∀v∈fs,∃i t,v= .int i t:=by
 induction xs with
 |nil=>exact λ_=>⟨[],trivial,rfl,nofun⟩
 |cons x xs ih=>
  intro ns T
  cases ns with
  |nil=>exact absurd T.1 (Nat.succ_ne_zero _)
  |cons n ns=>
   refine bq λzq=> ?_
   obtain ⟨o,t,u,k,a,b,c⟩:=T.2 0 (Nat.succ_pos _) (Nat.succ_pos _)
   exact zq ((ih ⟨Nat.succ.inj T.1,λi q q'=>T.2 (i+1) (Nat.succ_lt_succ q) (Nat.succ_lt_succ q')⟩).elim λfs z=>⟨.int n.1 t::fs,KatTups.cons a b c rfl z.1,congrArg (· +1) z.2.1,λv hv=>(List.mem_cons.mp hv).elim (λe=>⟨_,_,e⟩) (z.2.2 v)⟩)
theorem Dn:∀{ns:List (Int×Int)},Ii ns→∀i (q:i+1<ns.length),(ns[i]'(by exact Nat.lt_of_succ_lt q)).1<ns[i+1].1
 |[],_,i,q=>by simp at q
 |[_],_,i,q=>by simp at q
 |p::q'::r,h,0,q=>h.1
 |p::q'::r,h,i+1,q=>Dn h.2 i (by simpa using q)
theorem AV {xs:List Addr}{ns:List (Int×Int)}{C:Bool→Shared→Prop}(T:qT s.heap xs ns)(lt:Ii ns){i:Nat}(h1:1≤i)(hi:i<xs.length)(hc:C false s):kas_ask prog w A (tuples' true) (xs.map Value.ref) i (i - 1) C s:=by
 have l:=T.1
 obtain ⟨o,t,u,n,a,b,c⟩:=T.2 i hi (by exact Nat.lt_of_lt_of_le hi (Nat.le_of_eq l))
 obtain ⟨o',t',u',n',a',b',c'⟩:=T.2 (i - 1) (by exact Nat.lt_of_le_of_lt (Nat.sub_le _ 1) hi) (by exact Nat.lt_of_le_of_lt (Nat.sub_le _ 1) (Nat.lt_of_lt_of_le hi (Nat.le_of_eq l)))
 have ltt:=Dn lt (i - 1) (by exact Nat.lt_of_le_of_lt (Nat.le_of_eq (Nat.sub_add_cancel h1)) (Nat.lt_of_lt_of_le hi (Nat.le_of_eq l)))
 have e1:(xs.map Value.ref).getD i Value.none= .ref xs[i]:=by simp [List.getD_eq_getElem?_getD,List.getElem?_eq_getElem hi]
 have e2:(xs.map Value.ref).getD (i - 1) Value.none= .ref (xs[i - 1]'(by exact Nat.lt_of_le_of_lt (Nat.sub_le _ 1) hi)):=by simp [List.getD_eq_getElem?_getD,List.getElem?_eq_getElem (show i - 1<xs.length by exact Nat.lt_of_le_of_lt (Nat.sub_le _ 1) hi)]
 unfold kas_ask
 rw [e1,e2]
 have eI:(ns[i]'(by exact Nat.lt_of_lt_of_le hi (Nat.le_of_eq l))).1=(ns[i - 1+1]'(by exact Nat.lt_of_le_of_lt (Nat.le_of_eq (Nat.sub_add_cancel h1)) (Nat.lt_of_lt_of_le hi (Nat.le_of_eq l)))).1:=by congr 2;exact (Nat.sub_add_cancel h1).symm
 refine kat_lt a c a' c' (kat_cons (wpAny_eqBool_int (kat_go (λe=> ?_) (λe=>kat_no ?_))))
 ·exfalso
  have:(ns[i]'(by exact Nat.lt_of_lt_of_le hi (Nat.le_of_eq l))).1=(ns[i - 1]'(by exact Nat.lt_of_le_of_lt (Nat.sub_le _ 1) (Nat.lt_of_lt_of_le hi (Nat.le_of_eq l)))).1:=by simpa using e
  rw [eI] at this;lia
 ·refine oneLt_int ?_
  rw [decide_eq_false (by rw [eI];lia)];exact hc
theorem Af {a:Addr}{xs:List Addr}{ns:List (Int×Int)}{m:Nat}{P:PySem.Fin→Shared→Prop}{E:Value→Shared→Prop}(ho:s.heap.get? a=some (seqObj "list" (xs.map Value.ref).toArray m))(T:qT s.heap xs ns)(lt:Ii ns)(na:∀x∈xs,x≠a)(h64:xs.length<64)
  (k:∀h' c,(∀b o,b≠a→s.heap.get? b=some o→h'.get? b=some o)→h'.get? a=some (seqObj "list" (xs.map Value.ref).toArray c)→s.heap.objs.size≤h'.objs.size→P (.done (.ret .none)) {s with heap:=h'}):
  wpAny (model prog w) A (Builtin.«list.sort» ⟨[.ref a],[]⟩) P E s:=by
 have ha:a<s.heap.objs.size:=Heap.lt_size ho
 have s1:=Heap.SameBut.update s.heap a (Obj.mapSeq λ_=>(#[]:Array Value))
 obtain ⟨e1,ho1⟩:∃e1,(s.heap.update a (Obj.mapSeq λ_=>(#[]:Array Value))).get? a=some (seqObj "list" #[] e1):=⟨_,get?_update_seq ho λ_=> #[]⟩
 rw [list_sort_plain]
 refine wpAny_bind (listItems_at ho rfl ?_)
 refine wpAny_bind (listUpdate_at ho rfl ?_ (by rw [List.size_toArray,sizeLine_eq,List.length_map];exact Nat.le_trans (Nat.le_of_lt h64) (by decide)) (Nat.zero_le _))
 refine wpAny_bind (seqEpoch_at ho1 rfl ?_)
 refine wpAny_bind (wpAny_newTuple ?_ (by show (xs.map Value.ref).length≤_;rw [sizeLine_eq,List.length_map];exact Nat.le_trans (Nat.le_of_lt h64) (by decide)))
 refine wpAny_bind (wpAny_newList ?_ (Nat.zero_le _))
 refine wpAny_holding ?_
 have keep:∀b o,b≠a→s.heap.get? b=some o→(((s.heap.update a (Obj.mapSeq λ_=>(#[]:Array Value))).push (seqObj "tuple" (xs.map Value.ref).toArray 0)).push (seqObj "list" #[] 0)).get? b=some o:=λb o nb e=>
  Heap.get?_push_of_some _ (Heap.get?_push_of_some _ ((s1.2 b nb).trans e))
 have ho3:(((s.heap.update a (Obj.mapSeq λ_=>(#[]:Array Value))).push (seqObj "tuple" (xs.map Value.ref).toArray 0)).push (seqObj "list" #[] 0)).get? a=some (seqObj "list" #[] e1):=Heap.get?_push_of_some _ (Heap.get?_push_of_some _ ho1)
 have sz:s.heap.objs.size≤(((s.heap.update a (Obj.mapSeq λ_=>(#[]:Array Value))).push (seqObj "tuple" (xs.map Value.ref).toArray 0)).push (seqObj "list" #[] 0)).objs.size:=by rw [size_push',size_push',Heap.size_update];lia
 show wpAny (model prog w) A _ P E {s with heap:=((s.heap.update a (Obj.mapSeq λ_=>(#[]:Array Value))).push (seqObj "tuple" (xs.map Value.ref).toArray 0)).push (seqObj "list" #[] 0)}
 generalize ((s.heap.update a (Obj.mapSeq λ_=>(#[]:Array Value))).push (seqObj "tuple" (xs.map Value.ref).toArray 0)).push (seqObj "list" #[] 0)=h3 at keep ho3 sz⊢
 have T3:qT h3 xs ns:=T.keeps λx hx o e=>keep x o (na x hx) e
 have fin:∀out:Array Value,out=(xs.map Value.ref).toArray→P (.done (.ret .none)) {s with heap:=h3.update a (Obj.mapSeq λ_=>out)}:=λout e=>by
  subst e
  have s2:=Heap.SameBut.update h3 a (Obj.mapSeq λ_=>(xs.map Value.ref).toArray)
  exact k _ _ (λb o nb q=>(s2.2 b nb).trans (keep b o nb q)) (get?_update_seq ho3 λ_=>(xs.map Value.ref).toArray) (by rw [Heap.size_update];exact sz)
 dsimp only
 have szl:(xs.map Value.ref).toArray.size=xs.length:=by simp
 by_cases h2:(xs.map Value.ref).toArray.size<2
 ·rw [if_pos h2,if_pos h2]
  refine wpAny_bind (wpAny_pure ?_)
  rw [StateT.run_pure]
  refine wpAny_bind (wpAny_pure ?_)
  dsimp only
  refine wpAny_bind (seqEpoch_at ho3 rfl ?_)
  have eo:(arrOf (SortSt.mk' general' ((xs.map Value.ref).toArray.zip (xs.map Value.ref).toArray) #[] 7 none)).map (·.2)=(xs.map Value.ref).toArray:=by
   show ((xs.map Value.ref).toArray.zip (xs.map Value.ref).toArray).map (·.2)=_
   simp
   exact List.map_snd_zip (Nat.le_refl _)
  refine wpAny_bind (listUpdate_at ho3 rfl ?_ (Nat.zero_le _) (by rw [eo,szl,sizeLine_eq];exact Nat.le_trans (Nat.le_of_lt h64) (by decide)))
  simp only [bne_self_eq_false,Bool.false_eq_true,if_false]
  exact wpAny_pure (fin _ eo)
 ·rw [if_neg h2,if_neg h2]
  have l2:2≤(xs.map Value.ref).length:=by rw [List.length_map];lia
  obtain ⟨fs,F,FL,FI⟩:=T3.kat
  refine wpAny_bind (kat_kind (T:= .type "int") F (by lia) (λv hv=>by obtain ⟨i,t,rfl⟩:=FI v hv;exact Looks.of_pure rfl) (by decide) ?_)
  have et:(Value.type "int" !=Value.type "tuple")=true:=by decide
  rw [et]
  refine wpAny_bind (wpAny_mono (kat_run (vs:=xs.map Value.ref) (ks:=xs.map Value.ref) (κ:=tuples' true) (G:=λp s'=>p=List.toArray (List.range (xs.map Value.ref).length)∧s'={s with heap:=h3})
   (Q:=λst' s'=>s'={s with heap:=h3}∧failedOf st'=none∧(arrOf st').map (·.2)=(xs.map Value.ref).toArray) rfl l2 (by rw [List.length_map];exact h64) (λp st' s' a1 a2 a3 a4=>⟨a4.2,a3,?_⟩)
   (Ht l2 (λi h1 hi C hc=>AV T3 lt h1 (by simpa using hi) hc) ⟨rfl,rfl⟩)) ?_ λ_ _ e=>e)
  ·have:=kat_snds (ks:=xs.map Value.ref) (vs:=xs.map Value.ref) rfl a2
   rw [this,a4.1]
   congr 1
   apply List.ext_getElem
   ·simp
   ·intro i q1 q2
    simp only [List.length_map] at q2
    simp [List.getD_eq_getElem?_getD,List.getElem?_eq_getElem q2]
  ·rintro ⟨⟨⟩,st'⟩ s' ⟨rfl,hf,eo⟩
   dsimp only
   refine wpAny_bind (seqEpoch_at ho3 rfl ?_)
   refine wpAny_bind (listUpdate_at ho3 rfl ?_ (Nat.zero_le _) (by rw [eo,szl,sizeLine_eq];exact Nat.le_trans (Nat.le_of_lt h64) (by decide)))
   rw [hf]
   simp only [bne_self_eq_false,Bool.false_eq_true,if_false]
   exact wpAny_pure (fin _ eo)
theorem xv {l:Addr}{xs:List Addr}{ns:List (Int×Int)}{Q:Value→Shared→Prop}{E:Value→Shared→Prop}(hl:s.heap.IsList l (xs.map Value.ref).toArray)(T:qT s.heap xs ns)(lt:Ii ns)(h64:xs.length<64)
  (k:∀D h' c,(∀b o,s.heap.get? b=some o→h'.get? b=some o)→s.heap.objs.size≤D→h'.get? D=some (seqObj "list" (xs.map Value.ref).toArray c)→s.heap.objs.size≤h'.objs.size→Q (.ref D) {s with heap:=h'}):
  wpAny (model prog w) A (call (.builtin "sorted") [.ref l] []) Q E s:=by
 refine Calls.call_function_entry kind_sorted plain_sorted entry_sorted (args_sorted1 _) ?_
 unfold Builtin.«sorted»
 refine wpAny_bind (m:=checkCount "sorted" 1 1 _) (wpAny_pure ?_)
 refine wpAny_bind (collect_list hl ?_ (by rw [sizeLine_eq,List.length_map];exact Nat.le_trans (Nat.le_of_lt h64) (by decide)))
 refine wpAny_bind (wpAny_newList ?_ (by rw [sizeLine_eq,List.length_map];exact Nat.le_trans (Nat.le_of_lt h64) (by decide)))
 have hsz:((s.heap.push (seqObj "list" #[] 0)).update s.heap.objs.size (Obj.mapSeq (· ++(xs.map Value.ref).toArray))).objs.size=s.heap.objs.size+1:=by rw [Heap.size_update,size_push']
 have hoL:(((s.heap.push (seqObj "list" #[] 0)).update s.heap.objs.size (Obj.mapSeq (· ++(xs.map Value.ref).toArray))).push (seqObj "list" (xs.map Value.ref).toArray 0)).get? (s.heap.objs.size+1)=some (seqObj "list" (xs.map Value.ref).toArray 0):=by
  rw [←hsz];exact Heap.get?_push_size _ rfl
 have keep:∀b o,s.heap.get? b=some o→(((s.heap.push (seqObj "list" #[] 0)).update s.heap.objs.size (Obj.mapSeq (· ++(xs.map Value.ref).toArray))).push (seqObj "list" (xs.map Value.ref).toArray 0)).get? b=some o:=λb o q=>by
  have hlt:b<s.heap.objs.size:=Heap.lt_size q
  rw [Heap.get?_push_ne _ _ _ (by rw [hsz];exact Nat.ne_of_lt (Nat.lt_succ_of_lt hlt)),Heap.get?_update_ne _ _ _ _ (Nat.ne_of_lt hlt),Heap.get?_push_ne _ _ _ (Nat.ne_of_lt hlt)]
  exact q
 have sz:s.heap.objs.size≤(((s.heap.push (seqObj "list" #[] 0)).update s.heap.objs.size (Obj.mapSeq (· ++(xs.map Value.ref).toArray))).push (seqObj "list" (xs.map Value.ref).toArray 0)).objs.size:=by rw [size_push',hsz];lia
 have hx:∀x∈xs,x<s.heap.objs.size:=λx hx=>by
  obtain ⟨i,hi,rfl⟩:=List.getElem_of_mem hx
  obtain ⟨o,t,u,n,a,_⟩:=T.2 i hi (by have:=T.1;exact Nat.lt_of_lt_of_le hi (Nat.le_of_eq this))
  exact Heap.lt_size a
 show wpAny _ _ _ _ _ {s with heap:=((s.heap.push (seqObj "list" #[] 0)).update s.heap.objs.size (Obj.mapSeq (· ++(xs.map Value.ref).toArray))).push (seqObj "list" (xs.map Value.ref).toArray 0)}
 rw [hsz]
 refine wpAny_bind (wpAny_holding (wpAny_call_entry slot_list_sort ⟨_,hoL,rfl⟩ entry_list_sort ?body (args_list_sort _)))
 case body=>
  refine Af (s:={s with heap:=((s.heap.push (seqObj "list" #[] 0)).update s.heap.objs.size (Obj.mapSeq (· ++(xs.map Value.ref).toArray))).push (seqObj "list" (xs.map Value.ref).toArray 0)}) hoL (T.keeps λx _ o e=>keep x o e) lt (λx h=>Nat.ne_of_lt (Nat.lt_succ_of_lt (hx x h))) h64 λh' c k1 k2 k3=> ?_
  refine ⟨_,rfl,wpAny_pure ⟨_,rfl,?_⟩⟩
  exact k _ h' c (λb o e=>k1 b o (Nat.ne_of_lt (Nat.lt_succ_of_lt (Heap.lt_size e))) (keep b o e)) (Nat.le_succ _) k2 (Nat.le_trans sz k3)
end
section
variable {W:Wd}{A:Id→Addr}{K:KS}{X h:H}{R:SV VI}{n:Nat}
noncomputable def mL (h:H)(z:Addr)(p:Int×Int):Prop:=h z=some (.tup [.int p.1,.int p.2])
theorem A6:∀{ws:List Value}{xs:List Addr},ws.map er=xs.map V.ref→ws=xs.map Value.ref
 |[],[],_=>rfl
 |[],_::_,e=>nomatch e
 |_::_,[],e=>nomatch e
 |w::ws,x::xs,e=>by
  rw [List.map_cons,List.map_cons] at e
  obtain ⟨e1,e2⟩:=List.cons.inj e
  rw [List.map_cons,ah e1,A6 e2]
theorem Hu {W:Wd}{fr:Fz}{h:H}{s:Shared}(R:HR W fr h s){xs:List Addr}{ns:List (Int×Int)}(q:bN (mL h) xs ns):qT s.heap xs ns:=
 bN.ind ⟨rfl,λi q=>absurd q (Nat.not_lt_zero _)⟩ (λx p xs ns a _ ih=>⟨congrArg (· +1) ih.1,λi=>by
  cases i with
  |zero=>
   intro _ _
   refine bq λzq=> ?_
   obtain ⟨us,⟨o,ho,hc,n,hd⟩,e2,_⟩:=ie R a
   refine zq (two (P:=λl=>us.toList=l→_) e2 (λu v ea eb e=> ?_) rfl)
   clear zq
   obtain ⟨t,rfl⟩:=au ea
   obtain ⟨t',rfl⟩:=au eb
   exact ⟨o,t,t',n,ho,hc,hd.trans (congrArg (λz=>Data.seq z n) (Array.ext' e))⟩
  |succ i=>exact λq1 q2=>ih.2 i (Nat.lt_of_succ_lt_succ q1) (Nat.lt_of_succ_lt_succ q2)⟩) q
theorem BA {B:Around}{env:Env}{vars:List (Str×V)}{Q:V→H→Prop}{a:Addr}{xs:List Addr}{ns:List (Int×Int)}(h1:h a=some (.list (xs.map V.ref)))(h2:xs.length<60)(h4:bN (mL h) xs ns)(lt:Ii ns)(k:∀c,h c=none→Q (.ref c) (h.put c (.list (xs.map V.ref)))):
  EW W B env vars (call (.builtin "sorted") [.ref a] []) h (λv hp'=>Q (er v) hp'):=EW.lift λfr s R=>by
 refine bq λzq=> ?_
 obtain ⟨ws,hl,e1,_⟩:=b5 R h1
 apply zq;clear zq
 have ew:ws=(xs.map Value.ref).toArray:=by rw [←A6 e1]
 subst ew
 refine xv hl (Hu R h4) lt (Nat.lt_of_lt_of_le h2 (by decide)) λD h' c k1 kD k2 k3=> ?_
 have nD:s.heap.get? D=none:=by
  cases q:s.heap.get? D with
  |none=>rfl
  |some o=>exact absurd (Heap.lt_size q) (Nat.not_lt.mpr kD)
 have pD:h D=none:=by
  cases q:h D with
  |none=>rfl
  |some o=>obtain ⟨_,x,hx,_⟩:=R.dom D o q;rw [nD] at hx;cases hx
 refine ⟨h.put D (.list (xs.map V.ref)),⟨R.hb,λb o e=>k1 b o (R.keep b o e),λb o e=> ?_,R.gens,R.os,Nat.le_trans R.size k3⟩,k D pD⟩
 by_cases q:b=D
 ·subst q
  rw [H.put_same] at e;cases e
  refine ⟨?_,_,k2,_,c,rfl,?_,?_⟩
  ·cases z:fr b with
   |none=>rfl
   |some o=>have:=R.keep b o z;rw [nD] at this;cases this
  ·rw [List.map_map];rfl
  ·rw [List.length_map];exact Nat.le_trans (Nat.le_of_lt h2) (by decide)
 ·rw [H.put_ne q] at e
  refine bq λzq=> ?_
  obtain ⟨a1,x,hx,r⟩:=R.dom b o e
  apply zq;clear zq
  exact ⟨a1,x,k1 b x hx,r⟩
theorem Jl {j:Nat}{x:VI}{xs:List Addr}{ns:List (Int×Int)}(hx:∀⦃h⦄,Is W A K X h→∃a,den A x= .ref a∧h a=some (.list (xs.map V.ref))∧bN (mL h) xs ns)(h2:xs.length<60)(lt:Ii ns)(r:∀c,X c=none→R A K (X.put c (.list (xs.map V.ref))) (.adr c)):
  GK W j (.builtin "sorted") [x] A K X R:=Kc aI (λh B env vars v Q I hh ev q=>by
 refine bq λzq=> ?_
 obtain ⟨a,ea,ha,t⟩:=hx I
 apply zq;clear zq
 rw [ah (ev.trans ea)]
 exact BA ha h2 t lt q) r
theorem Ew {c:Cn}{ρ:KV}{e:Expr}{p q:Pos}{u x y:VI}{lo hi:Option Expr}{us:List V}{pl pr:Option Int}(k1:GV c e ρ A K X u)(k2:Io c lo ρ A K X x pl)(k3:Io c hi ρ A K X y pr)(l:∀⦃h⦄,Is c.W A K X h→∃a,den A u= .ref a∧JK c.W h a us)
  (r:∀d d',X d=none→(X.put d (.fields "slice" [den A x,den A y,.none])) d'=none→R A K ((X.put d (.fields "slice" [den A x,den A y,.none])).put d' (.list (cut us pl pr))) (.adr d')):GE c (.Subscript e (.Slice lo hi none q) p) ρ A K X R:=λB env h Q o I kq=>by
 refine EW.eq (arm_eval_Subscript ..) (EW.bind (k1 o I λv h₁ ev I₁=>vU o I₁ k2 k3 λh₃ d i I₃ hd ei px py=>EW.ba ?_))
 refine bq λzq=> ?_
 obtain ⟨a,ea,la⟩:=l I₃
 apply zq;clear zq
 have I₄:=I₃.new (o:= .fields "slice" [den A x,den A y,.none]) hd
 have xd:=I₃.xnone hd
 rw [ah ei,ah (ev.trans ea)]
 have la:JK c.W (h₃.put d (.fields "slice" [den A x,den A y,.none])) a us:=la.imp (λe=>aE e hd) id
 refine EW.bl ((jl (T:="list") (Q:=λ_ h'=>h'=h₃.put d (.fields "slice" [den A x,den A y,.none])) (λfr s R=> ?_) list_getitem_lookup rfl).mono λbb h' e=> ?_)
 ·obtain ⟨ws,hl,_⟩:=la.get R;exact hl.typeIs
 ·subst e
  rw [show subscripted (.Slice lo hi none q) bb (.ref a) (.ref d)=operate [.ref d,.ref a] (getItem (.ref a) (.ref d)) from rfl]
  exact EW.bind (bc (EW.lift ((AC (Q:=λx' h'=>∃d',(h₃.put d (.fields "slice" [den A x,den A y,.none])) d'=none∧h'=(h₃.put d (.fields "slice" [den A x,den A y,.none])).put d' (.list (cut us pl pr))∧x'= .ref d') la (H.put_same ..) px py λd' hd'=>⟨d',hd',rfl,rfl⟩).mono λr' h' ⟨d',hd',e1,e2⟩=>EW.bl (fx (EW.pure (by subst e1;exact kq A K _ (.adr d') r' _ e2 (I₄.new hd') (r d d' xd (I₄.xnone hd'))))))))
noncomputable def uk (p:Int×Int):PyData:= .tuple [.int p.1,.int p.2]
theorem vJ {a:Addr}{ys:List Addr}{l:List (Int×Int)}(ha:h a=some (.list (ys.map V.ref)))(t:bN (mL h) ys l):PD h (.ref a) (.list (l.map uk)):=by
 have key:∀{ys:List Addr} {l:List (Int×Int)},bN (mL h) ys l→∀i (q:i<(ys.map V.ref).length) (q':i<(l.map uk).length),PD h (ys.map V.ref)[i] (l.map uk)[i]:=λ{ys}=>by
  induction ys with
  |nil=>exact λ_ i q=>absurd q (Nat.not_lt_zero _)
  |cons y ys ih=>
   intro l t i q q'
   cases l with
   |nil=>exact t.elim
   |cons p l=>match i with
    |0=>exact PD.tupL t.1 ⟨.int _,.int _,trivial⟩
    |i+1=>exact ih t.2 i (Nat.lt_of_succ_lt_succ q) (Nat.lt_of_succ_lt_succ q')
 exact .list ha (by rw [List.length_map,List.length_map];exact t.len) (key t)
theorem mT:∀l:List (Int×Int),PyData.canLayAll0 (l.map uk)=true
 |[]=>rfl
 |p::r=>by
  show ((true&&(true&&true))&&PyData.canLayAll0 (r.map uk))=true
  rw [mT r];rfl
theorem rj:∀l:List (Int×Int),PyData.eqvAll (l.map uk) (l.map uk)=true
 |[]=>rfl
 |p::r=>by
  show ((p.1==p.1&&(p.2==p.2&&true))&&PyData.eqvAll (r.map uk) (r.map uk))=true
  rw [rj r,beq_self_eq_true,beq_self_eq_true];rfl
theorem nN:∀l:List (Int×Int),PyData.depthAll (l.map uk)≤2
 |[]=>by simp [PyData.depthAll]
 |p::r=>by
  have:=nN r
  simp [PyData.depthAll,PyData.depth,uk] at this⊢
  lia
theorem D6 {a b:Addr}{l:List (Int×Int)}(ha:∀⦃h⦄,Is W A K X h→PD h (.ref a) (.list (l.map uk)))(hb:∀⦃h⦄,Is W A K X h→PD h (.ref b) (.list (l.map uk))):mx W A K X .NotEq (.adr a) (.adr b) false:=λB j h u w Q r I e1 e2 q=>by
 have e:(!PyData.eqv (.list (l.map uk)) (.list (l.map uk)))=false:=by
  show (!PyData.eqvAll (l.map uk) (l.map uk))=false
  rw [rj];rfl
 have d:(PyData.list (l.map uk)).depth≤3:=by
  have:=nN l
  simp [PyData.depth];exact Nat.le_trans this (by decide)
 exact zL r (.data (ha I) (hb I) (mT l) (mT l) (Nat.le_trans (Nat.min_le_left _ _) (Nat.le_trans d (by decide)))) e1 e2 (by rw [e];exact q)
theorem HY {a b:Addr}{us:List VI}(ha:X a=some (.list (dL A us)))(hb:X b=some (.list (dL A us)))(hr:∀v∈us,∃x,v= .ref x):mx W A K X .Eq (.adr a) (.adr b) true:=λB j h u w Q r I e1 e2 q=>
 rH r (.same (I.oth a _ ha).1 (I.oth b _ hb).1 λx hx=>by
  obtain ⟨v,hv,rfl⟩:=List.mem_map.mp hx
  obtain ⟨y,rfl⟩:=hr v hv
  exact ⟨_,rfl⟩) e1 e2 q
noncomputable def nI (L t:Nat):List (Int×Int):=(List.range t).map λ(i:Nat)=>((i:Int)+2,(L:Int))
theorem qj:∀(n s:Nat)(L:Nat),Ii ((List.range' s n).map λ(i:Nat)=>((i:Int)+2,(L:Int)))
 |0,_,_=>trivial
 |1,_,_=>trivial
 |n+2,s,L=>⟨by show (s:Int)+2<((s+1:Nat):Int)+2;lia,qj (n+1) (s+1) L⟩
theorem ES (L t:Nat):Ii (nI L t):=by unfold nI;rw [List.range_eq_range'];exact qj t 0 L
theorem Aq (L t:Nat):nI L (t+1)=nI L t++[((t:Int)+2,(L:Int))]:=by unfold nI;rw [List.range_succ,List.map_append];rfl
theorem C7 (on:K.on=true):x9 W (n+1) cp [.ref .pt] A K X (.int K.tab.length):=
 fg lN rfl rfl (bX (ge rfl eH rfl (by and_intros) (uB aI λh B env vars v I hh ev=>by
  rw [ah ev]
  exact tB (Q:=λz h'=>z= .int K.tab.length∧h'=h) (I.st on (n:=5) rfl) ⟨by rw [List.length_map],rfl⟩)) ⟨⟨rfl,rfl⟩,λ_ _ e=>e,rfl⟩)
theorem Jm {i:Nat}(hi:i<K.nr)(hl:(K.row i).last=false):DA W A K X (.ref (.row i)) rh (.int (K.row i).pid):=λh I=>⟨_,_,rfl,I.get (.row i) _ (cU hi),by
 rw [cH];unfold mw;rw [hl];rfl⟩
end
section
noncomputable abbrev cl (W:Wd)(n:Nat):Cn:=⟨W,n,Hd.fS (Hd.stm 45),true⟩
noncomputable def vR (k:Nat):List Stmt:=(Hd.fB (Hd.stm 45)).drop k
noncomputable def yb (sc:VI)(T:List UInt8)(m:Nat)(y:KV):KV:=("script",sc)::("cells",.ref .cells)::("box",.ref .box)::("text",.bytes T)::("table",.ref .table)::("many",.int m)::("calls",.ref .calls)::("first",.ref (.proc 0))::("rows",.ref .rowsL)::("pipes",.ref .pipesL)::("world",.ref .world)::y
variable {W:Wd}{A:Id→Addr}{K:KS}{X h:H}{R:SV VI}{SR:oz}{n:Nat}{T:List UInt8}{m e t:Nat}{w:ao}{sc:VI}{y:KV}
theorem eg.allTold (V:eg T m e t K w)(wf:K.Wf)(ht:t=m+1):w.isOut=true∧w.out=T∧K.there=[0]∧K.opn.length=0∧K.tab.length=0:=by
 have m3:=V.m3
 have ho:w.isOut=true:=by
  cases q:w.isOut with
  |true=>rfl
  |false=>have:=V.nio q;lia
 obtain ⟨he,hrc⟩:=V.io ho
 have closed:∀i,i≤m→(K.pipe i).ro=false∧(K.pipe i).wo=false:=λi hi=>by
  rw [V.ro i hi,V.wo i hi,ho]
  refine ⟨?_,decide_eq_false (by exact Nat.not_le.mpr (Nat.le_trans (Nat.succ_le_succ hi) (Nat.le_of_eq he.symm)))⟩
  split
  ·rfl
  ·exact decide_eq_false (by lia)
 refine ⟨ho,by rw [V.out,hrc,List.take_length],?_,?_,?_⟩
 ·have s0:K.isAt 0=true:=by
   rcases V.p0.2.2.2 with q|⟨q,_⟩
   ·unfold KS.isAt;rw [q];rfl
   ·rw [ho] at q;cases q
  have so:∀j,0<j→j<6→K.isAt j=false:=λj h0 h6=>by
   unfold KS.isAt
   by_cases x:j≤m+1
   ·have:=(V.pr (j - 1) (by exact Nat.sub_le_of_le_add x)).gone (by lia)
    rw [show j - 1+1=j by exact Nat.sub_add_cancel h0] at this;rw [this];rfl
   ·rw [V.un j (by exact Nat.not_le.mp x) h6];rfl
  show [0,1,2,3,4,5].filter K.isAt=[0]
  rw [List.filter_cons,s0,List.filter_cons,so 1 (by decide) (by decide),List.filter_cons,so 2 (by decide) (by decide),List.filter_cons,so 3 (by decide) (by decide),List.filter_cons,so 4 (by decide) (by decide),List.filter_cons,so 5 (by decide) (by decide)];rfl
 ·cases q:K.opn with
  |nil=>rfl
  |cons f r=>
   exfalso
   have hf:f∈K.opn:=by rw [q];exact .head _
   have fl:=wf.opn f hf
   rw [V.nf] at fl
   obtain ⟨o1,o2⟩:=V.opn (f / 2) (by exact Nat.le_of_lt_succ (Nat.div_lt_of_lt_mul fl))
   obtain ⟨c1,c2⟩:=closed (f / 2) (by exact Nat.le_of_lt_succ (Nat.div_lt_of_lt_mul fl))
   by_cases x:f % 2=0
   ·have:=o1 (by rw [show 2*(f / 2)=f by exact Nat.mul_div_cancel' (Nat.dvd_of_mod_eq_zero x)];exact hf);rw [c1] at this;cases this
   ·have:=o2 (by rw [show 2*(f / 2)+1=f by exact (congrArg (_+ ·) ((Nat.mod_two_eq_zero_or_one _).resolve_left x).symm).trans (Nat.div_add_mod _ 2)];exact hf);rw [c2] at this;cases this
 ·cases q:K.tab with
  |nil=>rfl
  |cons i r=>
   exfalso
   have hi:i∈K.tab:=by rw [q];exact .head _
   have il:=wf.tab i hi
   rw [V.np] at il
   obtain ⟨c1,c2⟩:=closed i (by exact Nat.le_of_lt_succ il)
   rcases V.tab i hi with z|z
   ·rw [c1] at z;cases z
   ·rw [c2] at z;cases z
theorem Lc (on:K.on=true)(V:eg T m e t K w)(ht:t=m+1)(kT:∀X ρ,SR A K X (.ret (.bool true)) ρ):GS (cl W (n+5)) (vR 13) (yb sc T m y) A K X SR:=by
 refine dh λwf=> ?_
 refine bq λzq=> ?_
 obtain ⟨-, -,et,eop,eta⟩:=V.allTold wf ht
 apply zq;clear zq
 refine kN (N9 (IS (aG (aL rfl rfl rfl rfl) rfl (aJ nZ (eZ on) rfl) rfl rfl aK (aM o9 (IL on λc hc=>⟨rfl,gk (gg (us:=[.ref (.proc 0)]) (aw (aL rfl rfl rfl rfl) rfl aK) ⟨Nat.le_of_ble_eq_true rfl,λd hd=>⟨rfl,.mk true ?_ ⟨true,rfl,rfl,λ_=> ?_,nofun⟩⟩⟩)⟩))) rfl))
 ·rw [et] at hd⊢
  exact HY (us:=[.ref (.proc 0)]) (aE (H.put_same ..) hd) (H.put_same ..) λv hv=>⟨_,List.mem_singleton.mp hv⟩
 ·exact cR (IE (kc (E3 (iz (bU (bU (aL rfl rfl rfl rfl) rfl (j4 on) rfl) rfl (Jq on) rfl) rfl (aJ lW (ma on) rfl) rfl rfl aK (i5 lP (H5 on))) (by ac_rfl) rfl iu) (by rw [eop];rfl)) (kc (E3 (iz (bU (bU (bU (aL rfl rfl rfl rfl) rfl (j4 on) rfl) rfl (Jq on) rfl) rfl (ma on) rfl) rfl (aJ mq (BC on) rfl) rfl rfl aK (i5 lS (C7 on))) (by ac_rfl) rfl iu) (by rw [eta];rfl))) ⟨rfl,kT _ _⟩
theorem wd {f:Nat→V}(m:Nat):cut ((List.range (m+2)).map f) none (some (-1))=(List.range (m+1)).map f:=by
 have ln:((List.range (m+2)).map f).length=m+2:=(List.length_map ..).trans List.length_range
 have:clipAt ((List.range (m+2)).map f).length (-1)=m+1:=by rw [ln];unfold clipAt;split<;>lia
 unfold cut
 show (((List.range (m+2)).map f).drop 0).take (clipAt ((List.range (m+2)).map f).length (-1) - 0)=_
 rw [this,List.drop_zero,←List.map_take,List.take_range,Nat.sub_zero,Nat.min_eq_left (Nat.le_succ _)]
structure OG (A:Id→Addr)(Xd:H)(L:Nat)(acc:Addr)(i:Nat)(ys:List VI)(X:H)(zs:List Addr):Prop where
 y:ys=zs.map .adr
 sub:ml Xd X
 at_:X acc=some (.list (dL A ys))
 all:bN (mL X) zs (nI L i)
end
section
variable {W:Wd}{A:Id→Addr}{K:KS}{X h:H}{R:SV VI}{SR:oz}{n:Nat}{T:List UInt8}{m e t:Nat}{w:ao}{sc:VI}{y:KV}
theorem wn (V:eg T m e t K w)⦃h:H⦄(I:Is W A K X h):bN (mL h) (w.told.map (·.1)) (nI T.length t):=by
 have key:∀(l:List (Addr×Int×Int)),(∀p∈l,h p.1=some (.tup [.int p.2.1,.int p.2.2]))→bN (mL h) (l.map (·.1)) (l.map (·.2)):=λl=>by
  induction l with
  |nil=>exact λ_=>trivial
  |cons p l ih=>exact λq=>⟨q p (.head _),ih λz hz=>q z (.tail _ hz)⟩
 have:=key w.told (I.told w V.wor)
 rwa [V.told] at this
theorem JU (A:Id→Addr)(l:List Addr):dL A (l.map .adr)=l.map Mine.V.ref:=List.map_map ..
theorem Mm {c:Cn}{ρ:KV}{a:Expr}{p:Pos}{i:Int}(k:GV c a ρ A K X (.int i)):GV c (.UnaryOp .USub a p) ρ A K X (.int (-i)):=λB env h Q o I q=>
 EW.eq (arm_eval_UnaryOp ..) (EW.bind (k o I λv h' ev I'=>EW.ba (EW.hold (EW.lift (K9 ev λt=>q _ h' rfl I')))))
theorem zo {X:H}{acc z:Addr}{o:O}{p:Int×Int}{us:List Mine.V}(h:mL X z p)(ha:X acc=some (.list us)):mL (X.put acc o) z p:=by
 unfold mL
 rw [H.put_ne λe=>by rw [e] at h;unfold mL at h;rw [ha] at h;cases h];exact h
theorem MT (on:K.on=true)(V:eg T m e t K w)(ht:t=m+1)(kT:∀X ρ,SR A K X (.ret (.bool true)) ρ):GS (cl W (n+5)) (vR 12) (yb sc T m y) A K X SR:=by
 refine dh λwf=> ?_
 have m3:=V.m3
 refine bq λzq=> ?_
 obtain ⟨ho,eo, -, -, -⟩:=V.allTold wf ht
 apply zq;clear zq
 have tl:=V.tl
 have tlen:(w.told.map (·.1)).length=t:=by have:=congrArg List.length V.told;rw [List.length_map,List.length_map,List.length_range] at this;rw [List.length_map];exact this
 have hts:∀X ⦃h⦄,Is W A K X h→∃a,den A (.adr w.toldA)= .ref a∧h a=some (.list ((w.told.map (·.1)).map Mine.V.ref))∧bN (mL h) (w.told.map (·.1)) (nI T.length t):=λX h I=>by
  refine bq λzq=> ?_
  obtain ⟨a,ea,ha⟩:=ud (W:=W) (A:=A) (K:=K) (X:=X) V.wor I
  apply zq;clear zq
  refine ⟨a,ea,?_,wn V I⟩
  rw [ha]
  exact congrArg (λl=>some (O.list l)) (by unfold dL;rw [List.map_map,List.map_map];rfl)
 refine nE (IC (oB (t:=false) (ap (b8 (aO (aL rfl rfl rfl rfl) (by ac_rfl) rfl (bj (gD V.wor rfl))) (aL rfl rfl rfl rfl) rfl qu) (by rw [eo];exact bne_self_eq_false _)) ⟨rfl,ft,λ_=>J4 (f8 rfl F2 rfl (aw (aO (aL rfl rfl rfl rfl) (by ac_rfl) rfl (bj (gD V.wor rfl))) rfl aK) (Jl (hts X) (by rw [tlen];lia) (ES ..) λc hc=>⟨rfl,fF (by kernel_rfl) (AJ rfl (Ew (aL rfl rfl rfl rfl) Bn (By (Mm (by ac_rfl))) (λh I=>(lK V.lis I).imp λa q=>⟨q.1,.inl q.2⟩) λd d' hd hd'=>⟨d',(List.range (m+1)).map λi=> .ref (.row i),rfl,bR ?_,rfl,λacc hacc=> ?_⟩))⟩)) rfl⟩))
 ·rw [H.put_same,V.nr]
  exact congrArg (λl=>some (O.list l)) ((congrArg (λl=>cut l none (some (-1))) (List.map_map ..)).trans ((wd m).trans (List.map_map ..).symm))
 ·have sb0:ml X (((X.put c (.list ((w.told.map (·.1)).map Mine.V.ref))).put d (.fields "slice" [den A .none,den A (.int (-1)),.none])).put d' (.list (cut (dL A ((List.range K.nr).map λi=> .ref (.row i))) none (some (-1))))):=(ai hc).trans ((ai hd).trans (ai hd'))
  have xd:(((X.put c (.list ((w.told.map (·.1)).map Mine.V.ref))).put d (.fields "slice" [den A .none,den A (.int (-1)),.none])).put d' (.list (cut (dL A ((List.range K.nr).map λi=> .ref (.row i))) none (some (-1))))) d'=some (.list (dL A ((List.range (m+1)).map λi=> .ref (.row i)))):=by
   rw [H.put_same,V.nr]
   exact congrArg (λl=>some (O.list l)) ((congrArg (λl=>cut l none (some (-1))) (List.map_map ..)).trans ((wd m).trans (List.map_map ..).symm))
  have xc:(((X.put c (.list ((w.told.map (·.1)).map Mine.V.ref))).put d (.fields "slice" [den A .none,den A (.int (-1)),.none])).put d' (.list (cut (dL A ((List.range K.nr).map λi=> .ref (.row i))) none (some (-1))))) c=some (.list ((w.told.map (·.1)).map Mine.V.ref)):=aE (aE (H.put_same ..) hd) hd'
  generalize ((X.put c (.list ((w.told.map (·.1)).map Mine.V.ref))).put d (.fields "slice" [den A .none,den A (.int (-1)),.none])).put d' (.list (cut (dL A ((List.range K.nr).map λi=> .ref (.row i))) none (some (-1))))=Xd at*
  have len:(gu.list d' (dL A ((List.range (m+1)).map λi=> .ref (.row i)))).len=m+1:=(List.length_map ..).trans ((List.length_map ..).trans List.length_range)
  refine ⟨λi ys X₂=>∃zs,OG A Xd T.length acc i ys X₂ zs,⟨[],rfl,ai hacc,H.put_same ..,trivial⟩,⟨λi ys X₂ hi ⟨zs,ey,sub,at_,all⟩=>⟨λh I=>(I.oth d' _ (sub _ _ xd)).1,cG (x:= .ref (.row i)) ?_ ⟨⟨rfl,rfl⟩,dQ rfl ⟨⟨rfl,rfl⟩,jM rfl,Kg ⟨⟨rfl,rfl⟩,(λ_=> ?_),tf⟩⟩⟩⟩,λys X₂ ⟨zs,ey,sub,at_,all⟩=>⟨λh I=>(I.oth d' _ (sub _ _ xd)).1,rfl,.mk false ?_ ⟨rfl,ft,λ_=>ar (Lc on V ht kT)⟩⟩⟩⟩
  ·rw [len] at hi
   exact gC hi
  ·rw [len] at hi
   have RS:=V.rs i (Nat.le_of_lt hi)
   have hir:i<K.nr:=by rw [V.nr];exact Nat.lt_succ_of_lt hi
   have lst:(K.row i).last=false:=by rw [RS.lst];exact decide_eq_false (Nat.ne_of_lt hi)
   have zl:zs.length=i:=by rw [all.len];exact (List.length_map ..).trans List.length_range
   refine l0 (gg (us:=[.int (K.row i).pid,.int T.length]) (aw (aO (aL rfl rfl rfl rfl) (by ac_rfl) rfl (bj (Jm hir lst))) rfl (aw (ge rfl eH rfl (aw (aL rfl rfl rfl rfl) rfl aK) (l9 (by exact Nat.le_trans tl.2 (by decide)))) rfl aK)) ⟨Nat.le_of_ble_eq_true rfl,λz hz=>⟨⟨rfl,rfl⟩,aE at_ hz,?_,zs++[z],?_,?_,H.put_same ..,?_⟩⟩)
   ·rw [ey,List.length_map,zl];lia
   ·rw [ey,List.map_append];rfl
   ·exact λa o q=>by
     have q':=sub a o q
     have na:a≠acc:=λe=>by rw [e,hacc] at q;cases q
     rw [H.put_ne na];exact aE q' hz
   ·rw [Aq]
    refine bN.snoc (zo (p:=((i:Int)+2,(T.length:Int))) ?_ (aE at_ hz)) (all.imp λa b q=>zo (show (X₂.put z _) a=_ from aE q hz) (aE at_ hz))
    show (X₂.put z _) z=_
    rw [H.put_same,RS.pid (Nat.le_of_lt_succ hi)];rfl
  ·rw [len] at all
   subst ht
   exact D6 (λh I=>vJ (I.oth c _ (sub _ _ xc)).1 (wn V I)) λh I=>vJ ((I.oth acc _ at_).1.trans (by rw [ey,JU])) (all.imp λa b q=>(I.oth a _ q).1)
end
section
variable {W:Wd}{A:Id→Addr}{K:KS}{X h:H}{R:SV VI}{SR:oz}{n:Nat}{T:List UInt8}{m e t:Nat}{w:ao}{sc:VI}{y:KV}
theorem KX {c:Cn}{ρ:KV}{a b:Expr}{p:Pos}{u:VI}(k1:GV c a ρ A K X u)(k2:GE c b ρ A K X λA₁ K₁ X₁ w=>A₁=A∧∃v,Ls c.W A₁ K₁ X₁ u w v∧R A₁ K₁ X₁ v)(ns:cy b=false):GE c (.Subscript a b p) ρ A K X R:=λB env h Q o I q=>by
 refine EW.eq (arm_eval_Subscript ..) (EW.bind (k1 o I λz h₁ ez I₁=>EW.bind (EW.hold (k2 o I₁ λA₁ K₁ X₁ w i h₂ ei I₂ ⟨ea,v,g,r⟩=>EW.ba ?_))))
 subst A₁
 have ⟨q1,q2⟩:=g (B:=B) I₂ ez ei
 refine EW.bl (q1.mono λb h₃ ⟨e1,e2⟩=> ?_)
 rw [e1,e2,eU ns]
 exact EW.bind (bc (EW.lift (q2.mono λr' h₃ ⟨q',e⟩=>EW.bl (fx (EW.pure (e▸q _ _ _ v r' _ q' I₂ r))))))
noncomputable def KS.isRdy (K:KS)(r:Nat):Bool:=decide ((K.proc (K.row r).proc).state= .ready)
noncomputable def KS.rdyL (K:KS)(j:Nat):List Nat:=(List.range j).filter K.isRdy
theorem A9 {c:Cn}{l:List Stmt}{ρ:KV}(k:c.W.K=Hd.KK c.W.w.params→GS c l ρ A K X SR):GS c l ρ A K X SR:=λB env h Q o I q=>k I.hW o I q
theorem eg.tick (Y:eg T m e t K w)(b:fU):eg T m e t (K.tick b) w:=
 ⟨Y.m3,Y.em,Y.tm,Y.tl,Y.np,Y.nf,Y.nd,Y.nr,Y.fst,Y.wor,Y.lis,Y.io,Y.nio,Y.told,Y.out,Y.pp,Y.wo,Y.ro,Y.fr,Y.fw,Y.opl,Y.opn,Y.tab,Y.rs,Y.rd,Y.rl,Y.ds,Y.d0,λi hi=>let P:=Y.pr i hi;⟨P.gone,P.here,P.dead,P.live⟩,Y.p0,Y.un⟩
structure PG (T:List UInt8)(m:Nat)(sc:VI)(A₀:Id→Addr)(X₀:H)(j:Nat)(A:Id→Addr)(K:KS)(X:H)(ρ:KV):Prop where
 a:A=A₀
 x:X=X₀
 on:K.on=true
 box:∃b,K.box=some b
 inv:∃e t w,eg T m e t K w∧jW T.length m e t K w+j≤399
 rho:∃y:KV,yb sc T m y=ρ
theorem Kt (on:K.on=true)(V:eg T m e t K w)(hb:∃b,K.box=some b)(hp:jW T.length m e t K w≤399)(kT:∀K X ρ,SR A K X (.ret (.bool true)) ρ):GS (cl W (n+11)) (vR 11) (yb sc T m y) A K X SR:=by
 refine lh (CC rfl lC rfl (cR (gh) ⟨400,rfl,by decide,rfl,PG T m sc A X,⟨rfl,rfl,on,hb,⟨e,t,w,V,hp⟩,y,rfl⟩,λj A₁ K₁ X₁ ρ hj L=>⟨λ_ _=>trivial,jq ⟨rfl,?_⟩⟩,λA₁ K₁ X₁ ρ L=>⟨λ_ _=>trivial,?_⟩⟩))
 ·refine bq λzq=> ?_
  obtain ⟨e1,e2,on,⟨b,hb⟩,⟨e,t,w,Y,P⟩,y,rfl⟩:=L
  subst A₁ X₁
  apply zq;clear zq
  have m3:=Y.m3
  have tl:=Y.tl
  have tlen:w.told.length=t:=by have:=congrArg List.length Y.told;rwa [List.length_map,List.length_map,List.length_range] at this
  refine dQ rfl (fL (dh λwf=>Nm (by kernel_rfl) rfl rfl rfl rfl (iO (a:=A .rowsL) rfl (aL rfl rfl rfl rfl) rfl (lK Y.lis) ⟨rfl,λacc hacc=> ?_⟩)))
  have nr:K₁.nr=m+2:=Y.nr
  refine pM (N:=K₁.nr) K₁.isRdy (λj=> .ref (.row j)) (λj=> .ref (.row j)) ((List.length_map ..).trans ((List.length_map ..).trans List.length_range)) (by rw [nr];exact Nat.le_trans (Nat.add_le_add_right m3 2) (by decide)) (λys h I=>(lK Y.lis I).elim λa q=>by cases q.1;exact q.2) (λi Z hi RV r=>cG (gC hi) r) rfl rfl (λi ys hi=> ?_) (λi ys hi q=>aL rfl rfl rfl rfl) ?_
  ·exact ap (b8 (bU (aO (aL rfl rfl rfl rfl) (by ac_rfl) rfl (bj (bt hi rfl))) rfl (bB on (wf.rowp i hi) rfl) rfl) (by ac_rfl) rfl pq) (PS.beq (K₁.proc (K₁.row i).proc).state .ready)
  ·have hx:(X.put acc (.list (dL A ((K₁.rdyL K₁.nr).map λj=> .ref (.row j))))) acc=some (.list (dL A ((K₁.rdyL K₁.nr).map λj=> .ref (.row j)))):=H.put_same ..
   have sb:ml X (X.put acc (.list (dL A ((K₁.rdyL K₁.nr).map λj=> .ref (.row j))))):=ai hacc
   show GS _ _ _ A K₁ (X.put acc (.list (dL A ((K₁.rdyL K₁.nr).map λj=> .ref (.row j))))) _
   generalize X.put acc (.list (dL A ((K₁.rdyL K₁.nr).map λj=> .ref (.row j))))=Y₁ at hx sb
   have tle:t≤m+1:=Nat.le_trans Y.tm Y.em
   refine fO (t:=decide (t=m+1)) (ap (b8 (ge rfl eH rfl (aw (aO (aL rfl rfl rfl rfl) (by ac_rfl) rfl (bj (gD Y.wor rfl))) rfl aK) (jj (ud Y.wor))) (j0 (aL rfl rfl rfl rfl) (by ac_rfl) gG) rfl iu) ?_) (λht=> ?_) λht=> ?_
   ·rw [List.length_map,tlen]
    exact decide_eq_decide.mpr ⟨λh=>Int.ofNat.inj h,λh=>congrArg Int.ofNat h⟩
   ·exact Os ⟨X,sb,MT (n:=n+6) (y:=aU "ready" (.adr acc) (aU "turn" (.int j) y)) on Y (of_decide_eq_true ht) λX ρ=>kT K₁ X ρ⟩
   ·have ht:t<m+1:=Nat.lt_of_le_of_ne tle (of_decide_eq_false ht)
    refine ar ?_
    refine bq λzq=> ?_
    obtain ⟨r,hr,hrd⟩:=Y.awake ht
    apply zq;clear zq
    have mem:r∈K₁.rdyL K₁.nr:=List.mem_filter.mpr ⟨List.mem_range.mpr (by rw [nr];exact Nat.lt_succ_of_le hr),decide_eq_true hrd⟩
    have pos:0<(K₁.rdyL K₁.nr).length:=List.length_pos_of_mem mem
    have ll:((K₁.rdyL K₁.nr).map λj=>VI.ref (.row j)).length=(K₁.rdyL K₁.nr).length:=List.length_map ..
    have rv:∀K Z pos,GV (cl W (n+11)) (.Name "ready" pos) (aU "ready" (.adr acc) (yb sc T m (aU "turn" (.int j) y))) A K Z (.adr acc):=λK Z pos=>cw (aP ..) rfl rfl rfl
    refine nE (J4 (cR (rv _ _ _) ⟨rfl,gk (yB ⟨Nat.zero_le _,λd hd=>⟨rfl,.mk _ (DI (bR (aE hx hd)) (bR (us:=[]) (H.put_same ..)) (by rw [ll];exact Nat.ne_of_gt pos)) ⟨rfl,ft,λ_=>ar (mj (ai hd) ?_)⟩⟩⟩)⟩) rfl)
    refine A9 λhW=>CU (dw rfl (qM rfl vD rfl (bL (cR (aL rfl rfl rfl rfl) ⟨rfl,bL (KX (rv _ _ _) (f8 (us:=[.ref .box,.int (K₁.rdyL K₁.nr).length]) rfl gQ rfl (Du (aw (aL rfl rfl rfl rfl) rfl (aw (ge rfl eH rfl (aw (rv _ _ _) rfl aK) (jj (bR hx))) rfl aK)) (by rw [ll])) (aM hD (iL (m:=(K₁.rdyL K₁.nr).length) hb pos λv hv=> ?_))) rfl) rfl (af rfl λ_=>rfl)⟩) rfl (af rfl (af rfl λ_=>rfl))) λhp hK=>keeps_K (by rw [hW];exact o7 _) hp hK))
    have hv':((K₁.rdyL K₁.nr).map λj=>VI.ref (.row j))[v]?=some (.ref (.row (K₁.rdyL K₁.nr)[v])):=by rw [List.getElem?_map,List.getElem?_eq_getElem hv];rfl
    have memv:=List.getElem_mem hv
    generalize (K₁.rdyL K₁.nr)[v]=r' at hv' memv
    refine bq λzq=> ?_
    obtain ⟨z1,z2⟩:=List.mem_filter.mp memv
    apply zq;clear zq
    refine ⟨rfl,.ref (.row r'),iU (bR hx) (Int.natCast_nonneg _) (by rw [Int.toNat_natCast];exact hv'),rfl,bS (cR (aL rfl rfl rfl rfl) ⟨rfl,rfl,aM o7 (L5 (n:=n+1) (K:=K₁.tick b) on (Y.tick b) (Nat.le_of_lt_succ (by have:=List.mem_range.mp z1;rw [nr] at this;exact this)) (of_decide_eq_true z2) ht λK5 e5 t5 w5 N=>⟨rfl,ar ?_⟩)⟩) rfl⟩
    refine bq λzq=> ?_
    obtain ⟨Y5,P5,B5,on5⟩:=N
    apply zq;clear zq
    have P5:jW T.length m e5 t5 K5 w5<jW T.length m e t K₁ w:=P5
    have tl5:w5.out.length≤9:=by rw [Y5.out,List.length_take];exact Nat.le_trans (Nat.min_le_right ..) tl.2
    refine da (ap (b8 (ge rfl uN rfl (aw (aL rfl rfl rfl rfl) rfl (aw (aL rfl rfl rfl rfl) rfl (aw (aL rfl rfl rfl rfl) rfl aK))) (i5 v2 (Ke on5 Y5.wor Y5.lis (λi hi=>by rw [Y5.np];exact List.mem_range.mp hi) (by rw [List.length_range];exact Nat.le_trans (Nat.add_le_add_right m3 1) (by decide)) (by exact Nat.le_trans tl5 (by decide)) λr hr=> ?_))) (ge rfl eH rfl (aw (aL rfl rfl rfl rfl) rfl aK) (l9 (by exact Nat.le_trans tl.2 (by decide)))) rfl DS) (by rw [Y5.held];exact bne_self_eq_false _)) (ar ⟨X,sb,rfl,rfl,on5,⟨_,B5⟩,⟨e5,t5,w5,Y5,by lia⟩,_,rfl⟩)
    rw [Y5.nr] at hr
    by_cases x:r=m+1
    ·rw [x,Y5.rl.1,Y5.rl.2];exact ⟨Nat.zero_le _,Nat.zero_le _⟩
    ·refine bq λzq=> ?_
     obtain ⟨b,D⟩:=Y5.rd r (by lia)
     apply zq;clear zq
     constructor
     ·rw [D.left];split
      ·rw [List.length_drop];exact Nat.le_trans (Nat.sub_le ..) (Nat.le_trans tl.2 (by decide))
      ·exact Nat.zero_le _
     ·rw [D.rest,List.length_take,List.length_drop];exact Nat.le_trans (Nat.min_le_right ..) (Nat.le_trans (Nat.sub_le ..) (Nat.le_trans tl.2 (by decide)))
 ·refine bq λzq=> ?_
  obtain ⟨rfl,rfl,on,hb,⟨e,t,w,Y,P⟩,y,rfl⟩:=L
  apply zq;clear zq
  exact absurd P (Nat.not_le.mpr (Nat.lt_of_lt_of_le (by decide:399<400) (Nat.le_add_left _ _)))
end
section
structure NH (K K':KS):Prop where
 on:K'.on=K.on
 np:K'.np=K.np
 nf:K'.nf=K.nf
 nr:K'.nr=K.nr
 ps:K'.psize=K.psize
 made:K'.made=K.made
 pipe:K'.pipe=K.pipe
 row:K'.row=K.row
 tab:K'.tab=K.tab
 opn:K'.opn=K.opn
 wor:K'.world=K.world
 lis:K'.lists=K.lists
 box:K'.box=K.box
theorem No (m:Nat):∀(l:List (Nat×Nat))(K:KS),NH K (l.foldl (KS.shareStep m) K)
 |[],_=>⟨rfl,rfl,rfl,rfl,rfl,rfl,rfl,rfl,rfl,rfl,rfl,rfl,rfl⟩
 |q::l,K=>
  have s:=No m l (K.shareStep m q)
  ⟨s.on,s.np,s.nf,s.nr,s.ps,s.made,s.pipe,s.row,s.tab,s.opn,s.wor,s.lis,s.box⟩
theorem N4 (m:Nat):∀(l:List (Nat×Nat))(K:KS),(l.foldl (KS.shareStep m) K).nextPid=K.nextPid∧(l.foldl (KS.shareStep m) K).first=K.first
 |[],_=>⟨rfl,rfl⟩
 |q::l,K=>N4 m l (K.shareStep m q)
theorem sX (m:Nat):∀(l:List (Nat×Nat))(K:KS),(∀d,d≠m→(l.foldl (KS.shareStep m) K).desc d=K.desc d)∧(l.foldl (KS.shareStep m) K).desc m=l.foldl (λx q=>x.set q.1 (some q.2)) (K.desc m)
 |[],_=>⟨λ_ _=>rfl,rfl⟩
 |q::l,K=>by
  have ⟨a,b⟩:=sX m l (K.shareStep m q)
  refine ⟨λd h=>(a d h).trans (av h),b.trans ?_⟩
  show l.foldl _ (upd K.desc m _ m)=_
  rw [aj];rfl
theorem zQ (m:Nat):∀(l:List (Nat×Nat))(K:KS),(l.map (·.2)).Nodup→∀f,(l.foldl (KS.shareStep m) K).file f=if f∈l.map (·.2) then (K.file f).wHold ((K.file f).holders+1) else K.file f
 |[],_,_,f=>(if_neg (show ¬f∈([]:List Nat) from List.not_mem_nil)).symm
 |q::l,K,nd,f=>by
  rw [List.map_cons,List.nodup_cons] at nd
  rw [List.foldl_cons,zQ m l _ nd.2 f]
  show (if f∈l.map (·.2) then (upd K.file q.2 _ f).wHold ((upd K.file q.2 _ f).holders+1) else upd K.file q.2 ((K.file q.2).wHold ((K.file q.2).holders+1)) f)=_
  by_cases e:f=q.2
  ·subst e;rw [if_neg nd.1,aj,List.map_cons,if_pos (List.mem_cons_self ..)]
  ·rw [av e,List.map_cons]
   by_cases z:f∈l.map (·.2)
   ·rw [if_pos z,if_pos (List.mem_cons_of_mem _ z)]
   ·rw [if_neg z,if_neg λy=>(List.mem_cons.mp y).elim e z]
section
variable {K:KS}{p i dd:Nat}{c:Addr}
theorem Db:NH K (K.forked p i dd c):=
 have s:=No (K.fork0 p i c).nd (held ((K.fork0 p i c).desc dd) 6) (K.fork0 p i c).addDesc
 ⟨s.on,s.np,s.nf,s.nr,s.ps,s.made,s.pipe,s.row,s.tab,s.opn,s.wor,s.lis,s.box⟩
theorem EG:(K.forked p i dd c).nd=K.nd+1:=(GF (K.fork0 p i c).nd (held ((K.fork0 p i c).desc dd) 6) (K.fork0 p i c).addDesc).nd
theorem De:(K.forked p i dd c).nextPid=K.nextPid+1∧(K.forked p i dd c).first=some (K.first.getD i):=N4 (K.fork0 p i c).nd (held ((K.fork0 p i c).desc dd) 6) (K.fork0 p i c).addDesc
theorem nU {e:Nat}(h:e≠K.nd):(K.forked p i dd c).desc e=K.desc e:=((sX (K.fork0 p i c).nd (held ((K.fork0 p i c).desc dd) 6) (K.fork0 p i c).addDesc).1 e h).trans (av h)
theorem zc:(K.forked p i dd c).desc K.nd=(held (K.desc dd) 6).foldl (λx q=>x.set q.1 (some q.2)) (List.replicate 6 none):=by
 refine ((sX (K.fork0 p i c).nd (held ((K.fork0 p i c).desc dd) 6) (K.fork0 p i c).addDesc).2).trans ?_
 show List.foldl _ (upd K.desc K.nd (List.replicate 6 none) K.nd) _=_
 rw [aj];rfl
theorem vv (h:((held (K.desc dd) 6).map (·.2)).Nodup)(f:Nat):(K.forked p i dd c).file f=if f∈(held (K.desc dd) 6).map (·.2) then (K.file f).wHold ((K.file f).holders+1) else K.file f:=zQ _ _ _ h f
end
noncomputable def Cy (K:KS):Prop:=∀j,j<6→(K.proc j).state≠ .sleeping
noncomputable def Ae (d:Nat)(K:KS)(q:Nat×Nat):KS:=(K.setDesc d ((K.desc d).set q.1 none)).setFile q.2 ((K.file q.2).wHold 1)
noncomputable def cls (d:Nat)(l:List (Nat×Nat))(K:KS):KS:=l.foldl (Ae d) K
theorem zV {K:KS}(ns:Cy K)(ch:Ch):K.wake ch=K:=zG λj hj=>eB (ns j hj)
theorem Kb {K:KS}{d s f:Nat}{c:Addr}(h:(K.file f).holders=2)(ns:Cy K):K.closeAt d s f c=Ae d K (s,f):=by
 unfold KS.closeAt KS.wakeP KS.fc
 rw [if_pos (show 1<((K.setDesc d ((K.desc d).set s none)).file f).holders from (by rw [h];decide:(1:Int)<(K.file f).holders))]
 have e:(K.setDesc d ((K.desc d).set s none)).decH f=Ae d K (s,f):=by
  show (K.setDesc d _).setFile f ((K.file f).wHold ((K.file f).holders - 1))=_
  rw [h];rfl
 rw [e,zV (K:=Ae d K (s,f)) ns,zV (K:=Ae d K (s,f)) ns]
structure On (d:Nat)(l:List (Nat×Nat))(K K':KS):Prop where
 o:NH K K'
 proc:K'.proc=K.proc
 nd:K'.nd=K.nd
 pid:K'.nextPid=K.nextPid
 fst:K'.first=K.first
 desc:K'.desc d=l.foldl (λx q=>x.set q.1 none) (K.desc d)
 oth:∀e,e≠d→K'.desc e=K.desc e
 file:∀f,K'.file f=if f∈l.map (·.2) then (K.file f).wHold 1 else K.file f
theorem mi (d:Nat):∀(l:List (Nat×Nat))(K:KS),On d l K (cls d l K)
 |[],K=>⟨⟨rfl,rfl,rfl,rfl,rfl,rfl,rfl,rfl,rfl,rfl,rfl,rfl,rfl⟩,rfl,rfl,rfl,rfl,rfl,λ_ _=>rfl,λf=>(if_neg (show ¬f∈([]:List Nat) from List.not_mem_nil)).symm⟩
 |q::l,K=>by
  have I:=mi d l (Ae d K q)
  have s:=I.o
  refine ⟨⟨s.on,s.np,s.nf,s.nr,s.ps,s.made,s.pipe,s.row,s.tab,s.opn,s.wor,s.lis,s.box⟩,I.proc,I.nd,I.pid,I.fst,I.desc.trans ?_,λe he=>(I.oth e he).trans (av he),λf=>(I.file f).trans ?_⟩
  ·show List.foldl _ (upd K.desc d _ d) l=_
   rw [aj];rfl
  ·show (if f∈l.map (·.2) then (upd K.file q.2 _ f).wHold 1 else upd K.file q.2 ((K.file q.2).wHold 1) f)=_
   by_cases e:f=q.2
   ·subst e
    rw [aj,List.map_cons,if_pos (List.mem_cons_self ..)]
    split<;>rfl
   ·rw [av e,List.map_cons]
    by_cases z:f∈l.map (·.2)
    ·rw [if_pos z,if_pos (List.mem_cons_of_mem _ z)]
    ·rw [if_neg z,if_neg λy=>(List.mem_cons.mp y).elim e z]
structure HS (d:Nat)(l:List (Nat×Nat))(K:KS):Prop where
 ns:Cy K
 nf:(l.map (·.2)).Nodup
 ni:(l.map (·.1)).Nodup
 h2:∀q∈l,q.1<6∧(K.desc d)[q.1]?=some (some q.2)∧(K.file q.2).holders=2
theorem bM.two {d:Nat}{l:List (Nat×Nat)}{K K':KS}(h:bM d l K K'):HS d l K→K'=cls d l K:=by
 induction h with
 |nil=>exact λ_=>rfl
 | @snoc l i f c K K₁ h ih=>
  intro H
  have nf:=H.nf
  rw [List.map_append,List.nodup_append] at nf
  have ni:=H.ni
  rw [List.map_append,List.nodup_append] at ni
  have ih:=ih ⟨H.ns,nf.1,ni.1,λq hq=>H.h2 q (List.mem_append_left _ hq)⟩
  subst ih
  have I:=mi d l K
  have q:=H.h2 (i,f) (List.mem_append_right _ (.head _))
  have hf:((cls d l K).file f).holders=2:=by
   rw [I.file,if_neg λm=>nf.2.2 f m f (.head _) rfl];exact q.2.2
  rw [Kb hf (λj hj=>by rw [I.proc];exact H.ns j hj)]
  show _=List.foldl _ _ (l++[(i,f)])
  rw [List.foldl_append];rfl
theorem pC:∀(l:List (Nat×Nat))(x:List (Option Nat))(i:Nat),i∉l.map (·.1)→(l.foldl (λx q=>x.set q.1 none) x)[i]?=x[i]?
 |[],_,_,_=>rfl
 |q::l,x,i,h=>by
  rw [List.foldl_cons,pC l _ i λm=>h (List.mem_cons_of_mem _ m),List.getElem?_set_ne λe=>h (by rw [←e];exact List.mem_cons_self ..)]
theorem qy {d p:Nat}{L:List (Nat×Nat)}{K:KS}(H:HS d L K)(hp:(K.proc p).files=some d)(ho:K.opn.length≤1000):oU d p L K:=λl1 i f l2 K1 hl cl=>by
 subst hl
 have nf:=H.nf
 rw [List.map_append,List.nodup_append] at nf
 have ni:=H.ni
 rw [List.map_append,List.nodup_append] at ni
 cases cl.two ⟨H.ns,nf.1,ni.1,λq hq=>H.h2 q (List.mem_append_left _ hq)⟩
 have I:=mi d l1 K
 have q:=H.h2 (i,f) (List.mem_append_right _ (.head _))
 refine ⟨by rw [I.proc];exact hp,q.1,by rw [I.desc,pC _ _ _ λm=>ni.2.2 i m i (.head _) rfl];exact q.2.1,?_,by rw [I.o.opn];exact ho⟩
 rw [I.file,if_neg λm=>nf.2.2 f m f (.head _) rfl,q.2.2];decide
noncomputable def d0:Nat→List (Option Nat)
 |0=>[none,none,none,none,none,none]
 |1=>[some 0,none,none,none,none,none]
 |2=>[none,some 2,none,none,none,none]
 |3=>[some 4,none,none,none,none,none]
 |_=>[none,some 6,none,none,none,none]
noncomputable def dP:Nat→List (Option Nat)
 |0=>[some 0,some 1,none,none,none,none]
 |1=>[some 0,some 2,some 3,none,none,none]
 |2=>[some 4,some 2,some 5,none,none,none]
 |_=>[some 4,some 6,some 7,none,none,none]
noncomputable def fV (q:Nat):List (Nat×Nat):=[(q % 2,2*q)]
noncomputable def gN (q:Nat):List (Nat×Nat):=if q=0 then [(1,1)] else [((q - 1) % 2,2*(q - 1)),(2,2*q+1)]
noncomputable def hF (q:Nat):List Nat:=(held (dP q) 6).map (·.2)
theorem Ov:∀q,q<4→(hF q).Nodup:=by decide+kernel
theorem My:∀q,q<4→∀f∈hF q,f<2*(q+1):=by decide+kernel
theorem OU:∀q,q<4→(held (dP q) 6).foldl (λx q=>x.set q.1 (some q.2)) (List.replicate 6 none)=dP q:=by decide+kernel
theorem Oc:∀q,q<4→(d0 q).getD (q % 2) none=none∧(∀j,j<q % 2→((d0 q).getD j none).isNone=false):=by decide+kernel
theorem NX:∀q,q<4→((d0 q).set (q % 2) (some (2*q))).getD (if q=0 then 1 else 2) none=none∧(∀j,j<(if q=0 then 1 else 2)→(((d0 q).set (q % 2) (some (2*q))).getD j none).isNone=false):=by decide+kernel
theorem O9:∀q,q<4→2≤((List.range 6).filter λj=>((d0 q).getD j none).isNone).length:=by decide+kernel
theorem Pa:∀q,q<4→((d0 q).set (q % 2) (some (2*q))).set (if q=0 then 1 else 2) (some (2*q+1))=dP q:=by decide+kernel
theorem Ot:∀q,q<4→∀p∈fV q,p.1<6∧(dP q)[p.1]?=some (some p.2)∧p.2∈hF q:=by decide+kernel
theorem NW:∀q,q<4→∀p∈gN q,p.1<6∧(dP q)[p.1]?=some (some p.2)∧p.2∈hF q∧p.2∉(fV q).map (·.2):=by decide+kernel
theorem Nn:∀q,q<4→((gN q).map (·.1)).Nodup∧((gN q).map (·.2)).Nodup:=by decide+kernel
theorem NM:∀q,q<4→(fV q).foldl (λx q=>x.set q.1 none) (dP q)=hB q:=by decide+kernel
theorem O8:∀q,q<4→(gN q).foldl (λx q=>x.set q.1 none) (dP q)=d0 (q+1):=by decide+kernel
theorem Oy:∀q,q<4→∀f∈hF q,f∈(fV q).map (·.2)∨f∈(gN q).map (·.2):=by decide+kernel
theorem IA:∀q,q<4→(∀f∈(fV q).map (·.2),f∈hF q)∧(∀f∈(gN q).map (·.2),f∈hF q):=by decide+kernel
end
section
structure D0 (T:List UInt8)(m i:Nat)(r:c6):Prop where
 s:uE m r i
 l:r.left=if i=0 then T else []
 e:r.rest=[]
 p:r.passed=0
structure Pr (T:List UInt8) (m s a b r:Nat)(D:List (Option Nat))(K:KS):Prop where
 on:K.on=true
 s1:1≤s
 s4:s≤4
 np:K.np=a
 nf:K.nf=2*a
 nd:K.nd=b+1
 nr:K.nr=r
 made:K.made=a
 ps:K.psize=s
 lis:K.lists=none
 wor:K.world=none
 fst:K.first=some 0
 pid:K.nextPid=b+2
 opl:K.opn.length≤2*a
 tl:K.tab.length≤a
 pipe:∀i,i<a→K.pipe i=⟨s,0,0,List.replicate s 0,true,true⟩
 fr:∀i,i<a→K.file (2*i)=⟨true,false,1,i⟩
 fw:∀i,i<a→K.file (2*i+1)=⟨false,true,1,i⟩
 d0:K.desc 0=D
 ds:∀i,i<b→K.desc (i+1)=hB i
 p0:(K.proc 0).pid=1∧(K.proc 0).state= .ready∧(K.proc 0).parent=none∧(K.proc 0).files=some 0
 pr:∀i,i<b→(K.proc (i+1)).pid=i+2∧(K.proc (i+1)).state= .ready∧(K.proc (i+1)).parent=some 0∧(K.proc (i+1)).files=some (i+1)∧(K.proc (i+1)).progress=0
 un:∀j,b+1≤j→j<6→(K.proc j).state= .unused
 rows:∀i,i<r→D0 T m i (K.row i)
variable {T:List UInt8} {m s a b r q:Nat}{D:List (Option Nat)}{K K':KS}
theorem uE.n {r:c6}{i:Nat}(h:uE m r i):CF r:=by
 refine ⟨λx e=> ?_,λx e=> ?_⟩
 ·rw [h.inn] at e;split at e<;>cases e
 ·rw [h.out] at e;split at e<;>cases e
theorem Pr.pre (P:Pr T m s a b r D K):oY K:=⟨P.on,P.lis,P.wor,λi hi=>(P.rows i (P.nr▸hi)).s.n⟩
theorem Pr.tick (P:Pr T m s a b r D K)(x:fU):Pr T m s a b r D (K.tick x):=⟨P.on,P.s1,P.s4,P.np,P.nf,P.nd,P.nr,P.made,P.ps,P.lis,P.wor,P.fst,P.pid,P.opl,P.tl,P.pipe,P.fr,P.fw,P.d0,P.ds,P.p0,P.pr,P.un,P.rows⟩
theorem Pr.row (P:Pr T m s a b r D K){x:c6}(h:D0 T m r x):Pr T m s a b (r+1) D (K.addRow x):=
 ⟨P.on,P.s1,P.s4,P.np,P.nf,P.nd,congrArg (· +1) P.nr,P.made,P.ps,P.lis,P.wor,P.fst,P.pid,P.opl,P.tl,P.pipe,P.fr,P.fw,P.d0,P.ds,P.p0,P.pr,P.un,λi hi=>cz (D0 T m i) (λe=>by rw [e,P.nr];exact h) λe=>P.rows i (iT hi (by rw [←P.nr];exact e))⟩
theorem Pr.piped (P:Pr T m s q q r D K){D':List (Option Nat)}:Pr T m s (q+1) q r D' ((K.opened s).setDesc 0 D'):=by
 have np:=P.np
 have nf:=P.nf
 refine ⟨P.on,P.s1,P.s4,congrArg (· +1) P.np,congrArg (· +2) P.nf,P.nd,P.nr,congrArg (· +1) P.np,P.ps,P.lis,P.wor,P.fst,P.pid,?_,?_,λi hi=> ?_,λi hi=> ?_,λi hi=> ?_,jh,λi hi=>(av (f:=K.desc) (a:=D') (Nat.succ_ne_zero i)).trans (P.ds i hi),P.p0,P.pr,P.un,P.rows⟩
 ·show ((K.opn++[K.nf])++[K.nf+1]).length≤_
  rw [List.length_append,List.length_append]
  exact Nat.add_le_add_right (Nat.add_le_add_right P.opl 1) 1
 ·show (K.tab++[K.np]).length≤_
  rw [List.length_append]
  exact Nat.add_le_add_right P.tl 1
 ·exact cz (λp:ac=>p=_) (λ_=>rfl) λe=>P.pipe i (iT hi (by rw [←np];exact e))
 ·show upd (upd K.file K.nf ⟨true,false,1,K.np⟩) (K.nf+1) ⟨false,true,1,K.np⟩ (2*i)=_
  by_cases e:i=q
  ·subst e;rw [av (by exact λz=>jp (z.trans (congrArg (· +1) nf)).symm),←nf,aj,np]
  ·rw [av (by exact λz=>jp (z.trans (congrArg (· +1) nf)).symm),av (by exact λz=>e (Nat.eq_of_mul_eq_mul_left Nat.two_pos (z.trans nf)))];exact P.fr i (iT hi e)
 ·show upd (upd K.file K.nf ⟨true,false,1,K.np⟩) (K.nf+1) ⟨false,true,1,K.np⟩ (2*i+1)=_
  by_cases e:i=q
  ·subst e;rw [←nf,aj,np]
  ·rw [av (by exact λz=>e (Nat.eq_of_mul_eq_mul_left Nat.two_pos ((Nat.succ.inj z).trans nf))),av (by exact λz=>jp (z.trans nf))];exact P.fw i (iT hi e)
theorem Pr.one (P:Pr T m s a b r D K){f:Nat}(hf:f<2*a):(K.file f).holders=1:=by
 by_cases x:f % 2=0
 ·have:=P.fr (f / 2) (by exact Nat.div_lt_of_lt_mul hf)
  rw [show 2*(f / 2)=f by exact Nat.mul_div_cancel' (Nat.dvd_of_mod_eq_zero x)] at this;rw [this]
 ·have:=P.fw (f / 2) (by exact Nat.div_lt_of_lt_mul hf)
  rw [show 2*(f / 2)+1=f by exact (congrArg (_+ ·) ((Nat.mod_two_eq_zero_or_one _).resolve_left x).symm).trans (Nat.div_add_mod _ 2)] at this;rw [this]
theorem Pr.noSl (P:Pr T m s a b r D K):Cy K:=λj hj=>by
 by_cases x:b+1≤j
 ·rw [P.un j x hj];nofun
 ·cases j with
  |zero=>rw [P.p0.2.1];nofun
  |succ j=>rw [(P.pr j (by exact Nat.lt_of_succ_lt_succ (Nat.not_le.mp x))).2.1];nofun
structure Lq (q:Nat)(K KF:KS)(c:Addr):Prop where
 o:NH K KF
 ns:Cy KF
 nd:KF.nd=q+2
 pid:KF.nextPid=q+3
 fst:KF.first=some 0
 d0:KF.desc 0=dP q
 dn:KF.desc (q+1)=dP q
 ds:∀i,i<q→KF.desc (i+1)=hB i
 file:∀f,KF.file f=if f∈hF q then (K.file f).wHold 2 else K.file f
 proc:∀j,KF.proc j=if j=q+1 then qz K .ready 0 (q+1) (some (q+1)) c else K.proc j
theorem Pr.fkd (P:Pr T m s (q+1) q r (dP q) K)(q4:q<4)(c:Addr):Lq q K (K.forked 0 (q+1) 0 c) c:=by
 have o:=Db (K:=K) (p:=0) (i:=q+1) (dd:=0) (c:=c)
 have t:=De (K:=K) (p:=0) (i:=q+1) (dd:=0) (c:=c)
 have pr:∀j,(K.forked 0 (q+1) 0 c).proc j=if j=q+1 then qz K .ready 0 (q+1) (some (q+1)) c else K.proc j:=λj=>by rw [nT,P.nd]
 have e0:held (K.desc 0) 6=held (dP q) 6:=by rw [P.d0]
 refine ⟨o,λj hj=> ?_,by rw [EG,P.nd],?_,by rw [t.2,P.fst];rfl,?_,?_,λi hi=> ?_,λf=> ?_,pr⟩
 ·rw [pr];split
  ·nofun
  ·exact P.noSl j hj
 ·rw [t.1,P.pid];lia
 ·rw [nU (by rw [P.nd];lia)];exact P.d0
 ·rw [←P.nd,zc,e0,OU q q4]
 ·rw [nU (by rw [P.nd];exact Nat.ne_of_lt (Nat.succ_lt_succ hi))];exact P.ds i hi
 ·rw [vv (by rw [e0];exact Ov q q4),e0]
  by_cases z:f∈hF q
  ·rw [if_pos (show f∈(held (dP q) 6).map (·.2) from z),if_pos z,P.one (My q q4 f z)];rfl
  ·rw [if_neg (show ¬f∈(held (dP q) 6).map (·.2) from z),if_neg z]
variable {KF:KS}{c:Addr}
theorem Lq.shut (F:Lq q K KF c)(q4:q<4):HS (q+1) (fV q) KF:=
 ⟨F.ns,List.nodup_cons.mpr ⟨List.not_mem_nil,List.nodup_nil⟩,List.nodup_cons.mpr ⟨List.not_mem_nil,List.nodup_nil⟩,λp hp=>by
  refine bq λzq=> ?_
  obtain ⟨a,b,c⟩:=Ot q q4 p hp
  apply zq;clear zq
  exact ⟨a,by rw [F.dn];exact b,by rw [F.file,if_pos c];rfl⟩⟩
theorem Lq.gone (F:Lq q K KF c)(q4:q<4):HS 0 (gN q) (cls (q+1) (fV q) KF):=by
 have I:=mi (q+1) (fV q) KF
 refine ⟨λj hj=>by rw [I.proc];exact F.ns j hj,(Nn q q4).2,(Nn q q4).1,λp hp=> ?_⟩
 refine bq λzq=> ?_
 obtain ⟨a,b,c,d⟩:=NW q q4 p hp
 apply zq;clear zq
 exact ⟨a,by rw [I.oth 0 (by lia),F.d0];exact b,by rw [I.file,if_neg d,F.file,if_pos c];rfl⟩
theorem Pr.done (P:Pr T m s (q+1) q r (dP q) K)(q4:q<4)(F:Lq q K KF c):Pr T m s (q+1) (q+1) r (Mine.d0 (q+1)) (cls 0 (gN q) (cls (q+1) (fV q) KF)):=by
 have I:=mi (q+1) (fV q) KF
 have J:=mi 0 (gN q) (cls (q+1) (fV q) KF)
 generalize cls 0 (gN q) (cls (q+1) (fV q) KF)=K3 at*
 generalize cls (q+1) (fV q) KF=K2 at*
 have o:∀f,K3.file f=K.file f:=λf=>by
  rw [J.file,I.file,F.file]
  by_cases z:f∈hF q
  ·have h1:=P.one (My q q4 f z)
   have e:(K.file f).wHold 1=K.file f:=by rw [←h1];rfl
   rw [if_pos z]
   rcases Oy q q4 f z with y|y
   ·rw [if_pos y]
    split<;>exact e
   ·rw [if_pos y]
    split<;>exact e
  ·rw [if_neg z,if_neg λy=>z ((IA q q4).1 f y),if_neg λy=>z ((IA q q4).2 f y)]
 have pj:∀j,K3.proc j=if j=q+1 then qz K .ready 0 (q+1) (some (q+1)) c else K.proc j:=λj=>by rw [J.proc,I.proc,F.proc]
 have a:=F.o
 have b:=I.o
 have d:=J.o
 refine ⟨d.on.trans (b.on.trans (a.on.trans P.on)),P.s1,P.s4,d.np.trans (b.np.trans (a.np.trans P.np)),d.nf.trans (b.nf.trans (a.nf.trans P.nf)),J.nd.trans (I.nd.trans F.nd),d.nr.trans (b.nr.trans (a.nr.trans P.nr)),d.made.trans (b.made.trans (a.made.trans P.made)),d.ps.trans (b.ps.trans (a.ps.trans P.ps)),d.lis.trans (b.lis.trans (a.lis.trans P.lis)),d.wor.trans (b.wor.trans (a.wor.trans P.wor)),J.fst.trans (I.fst.trans F.fst),J.pid.trans (I.pid.trans F.pid),
  by rw [d.opn,b.opn,a.opn];exact P.opl,by rw [d.tab,b.tab,a.tab];exact P.tl,by rw [d.pipe,b.pipe,a.pipe];exact P.pipe,λi hi=>(o _).trans (P.fr i hi),λi hi=>(o _).trans (P.fw i hi),?_,λi hi=> ?_,?_,λi hi=> ?_,λj h1 h2=> ?_,by rw [d.row,b.row,a.row];exact P.rows⟩
 ·rw [J.desc,I.oth 0 (by lia),F.d0];exact O8 q q4
 ·rw [J.oth _ (Nat.succ_ne_zero i)]
  by_cases e:i=q
  ·subst e;rw [I.desc,F.dn];exact NM i q4
  ·rw [I.oth _ λx=>e (Nat.succ.inj x)];exact F.ds i (iT hi e)
 ·rw [pj,if_neg (by lia)];exact P.p0
 ·rw [pj]
  by_cases e:i=q
  ·subst e;rw [if_pos rfl];exact ⟨P.pid,rfl,rfl,rfl,rfl⟩
  ·rw [if_neg λx=>e (Nat.succ.inj x)];exact P.pr i (iT hi e)
 ·rw [pj,if_neg (by exact Nat.ne_of_gt h1)];exact P.un j (by exact Nat.le_of_succ_le h1) h2
end
section
variable {W:Wd}{A:Id→Addr}{K:KS}{X X₀ h:H}{R:SV VI}{n:Nat}{T lf:List UInt8}{m s q r:Nat}
theorem Nb {c:Cn}{e:Expr}{ρ:KV}(k:GE c e ρ A K X λA₁ K₁ X₁ u=>∃A' K' X' u',Ad c.W A₁ K₁ X₁ u A' K' X' u'∧R A' K' X' u'):GE c e ρ A K X R:=λB env h Q o I q=>
 k o I λA₁ K₁ X₁ u v h' ev I' z=>z.elim λA' z=>z.elim λK' z=>z.elim λX' z=>z.elim λu' z=>q A' K' X' u' v h' (ev.trans z.1.u) (z.1.i I') z.2
theorem zH (P:Pr T m s q q r (d0 q) K)(h4:q<4)(k:∀A' K' c,Ag K A A'→X c=none→Pr T m s (q+1) q r (dP q) K'→K'.box=K.box→R A' K' (X.put c (.tup (dL A' [.int (q % 2:Nat),.int (if q=0 then 1 else 2:Nat)]))) (.adr c)):
  GC W (n+5) bu [.ref .calls,.ref (.proc 0)] A K X R:=by
 have f1:=Oc q h4
 have f2:=NX q h4
 have nf:=P.nf
 have opl:=P.opl
 refine KL (p:=0) (dd:=0) (i:=q % 2) (j:=if q=0 then 1 else 2) P.pre (by decide) P.p0.2.2.2 ?_ ⟨Nat.lt_trans (Nat.mod_lt q (by decide)) (by decide),?_,?_⟩ ⟨by split<;>decide,?_,?_⟩ P.ps P.s1 P.s4 (P.made.trans P.np.symm) (Nat.le_trans P.tl (by exact Nat.le_trans (Nat.le_of_lt h4) (by decide))) (by lia) λA' c ag hc=>k A' _ c ag hc ?_ ?_
 ·unfold KS.frees;rw [P.d0];exact O9 q h4
 ·rw [P.d0];exact f1.1
 ·rw [P.d0];exact f1.2
 ·rw [P.d0,nf];exact f2.1
 ·rw [P.d0,nf];exact f2.2
 ·have e:((K.desc 0).set (q % 2) (some K.nf)).set (if q=0 then 1 else 2) (some (K.nf+1))=dP q:=by rw [P.d0,nf];exact Pa q h4
  rw [e];exact P.piped
 ·rfl
noncomputable def yu (q:Nat):VI:=if q=0 then .none else .int ((q - 1) % 2:Nat)
noncomputable def qg (q:Nat):Nat:=if q=0 then 1 else 2
theorem IT {sz:Nat}{sh gn rw:Addr}(P:Pr T m s (q+1) q q (dP q) K)(hm:m≤3)(hq:q≤m)(sb:ml X₀ X)(h0:X₀ rw=none)(hsh:X sh=some (.list (dL A [.int (q % 2:Nat)])))(hgn:X gn=some (.list (dL A ((gN q).map λq=> .int q.1))))
  (hrw:X rw=some (.attrs (dT A [(tR,yu q),(kx,.int (qg q)),(i8,.bytes (if q=0 then T else [])),(eC,.int sz)]))) (hsz:1≤sz∧sz≤4)
  (k:∀A' K',Ag K A A'→Pr T m s (q+1) (q+1) (q+1) (d0 (q+1)) K'→K'.box=K.box→R A' K' X₀ (.ref (.row q))):GC W (n+6) dN [.ref .calls,.ref (.proc 0),.adr sh,.adr gn,.adr rw] A K X R:=by
 have q4:q<4:=Nat.lt_of_le_of_lt hq (Nat.lt_succ_of_le hm)
 have iv:lY K (yu q)=true:=by unfold yu;split<;>rfl
 refine Dg (X':=X₀) (Gv (p:=0) (i:=q+1) (dd:=0) (shut:=fV q) (gone:=gN q) (rkv:=[(tR,yu q),(kx,.int (qg q)),(i8,.bytes (if q=0 then T else [])),(eC,.int sz)]) P.pre (by decide) ⟨by exact p6 hm hq,P.un (q+1) (Nat.le_refl _) (by exact p6 hm hq),λj hj e=> ?_⟩ (Nat.ne_of_lt (Nat.succ_pos q)) P.p0.2.2.2 (λj hj hne=> ?_) hsh hgn hrw (Nat.le_of_ble_eq_true rfl) (aA iv rfl) (λc=> ?_) (λc K2 cl=> ?_) λA' c K2 K3 ag cl2 cl3=> ?_)
 ·cases j with
  |zero=>rw [P.p0.2.1] at e;cases e
  |succ j=>rw [(P.pr j (by exact Nat.lt_of_succ_lt_succ hj)).2.1] at e;cases e
 ·rw [P.pid]
  cases j with
  |zero=>rw [P.p0.1];lia
  |succ j=>
   by_cases x:j<q
   ·rw [(P.pr j x).1];lia
   ·exact absurd (P.un (j+1) (by exact Nat.succ_le_succ (Nat.not_lt.mp x)) hj) hne
 ·have F:=P.fkd q4 c
  rw [P.nd]
  exact qy (F.shut q4) (by rw [F.proc,if_pos rfl];rfl) (by rw [F.o.opn];have:=P.opl;lia)
 ·have F:=P.fkd q4 c
  rw [P.nd] at cl
  rw [cl.two (F.shut q4)]
  have I:=mi (q+1) (fV q) (K.forked 0 (q+1) 0 c)
  exact qy (F.gone q4) (by rw [I.proc,F.proc,if_neg (by lia)];exact P.p0.2.2.2) (by rw [I.o.opn,F.o.opn];have:=P.opl;lia)
 ·have F:=P.fkd q4 c
  rw [P.nd] at cl2
  have e2:=cl2.two (F.shut q4)
  rw [e2] at cl3
  have e3:=cl3.two (F.gone q4)
  have P3:=P.done q4 F
  have I:=mi (q+1) (fV q) (K.forked 0 (q+1) 0 c)
  have J:=mi 0 (gN q) (cls (q+1) (fV q) (K.forked 0 (q+1) 0 c))
  have bx:K3.box=K.box:=by rw [e3];exact J.o.box.trans (I.o.box.trans F.o.box)
  rw [←e3] at P3
  have nr:=P3.nr
  have nm:¬q=m+1:=Nat.ne_of_lt (Nat.lt_succ_of_le hq)
  have RQ:D0 T m q ⟨false,q+1,yu q,.int (qg q),if q=0 then T else [],[],sz,0,K.nextPid⟩:=⟨⟨(if_neg nm).symm,(decide_eq_false nm).symm,λ_=>P.pid,(by show VI.int (qg q:Nat)=if q=m+1 then .none else .int (if q=0 then 1 else 2);rw [if_neg nm];unfold qg;split<;>rfl),rfl,sz,rfl,hsz.1,hsz.2⟩,rfl,rfl,rfl⟩
  have P4:=P3.row RQ
  have ag2:=IH (K:=K3) (A:=A') (a:=rw)
  refine ⟨l5 A' [(.row K3.nr,rw)],_,X₀,.ref (.row q),⟨λh I=>I.addRow (r:=⟨false,q+1,yu q,.int (qg q),if q=0 then T else [],[],sz,0,K.nextPid⟩) P3.pre (by show q+1<6;exact p6 hm hq) RQ.s.n rfl ⟨?_,List.nodup_cons.mpr ⟨List.not_mem_nil,List.nodup_nil⟩,Mine.f1 ⟨h0,H.put_same ..⟩ f0⟩,?_⟩,k _ _ (ag.trans ag2 ⟨?_,?_,?_,?_⟩) P4 bx⟩
  ·exact λc o e=>by rw [H.put_ne λz=>by rw [z,h0] at e;cases e];exact sb c o e
  ·rw [nr];exact (congrArg Mine.V.ref bY).symm
  ·rw [P.np,P3.np];exact Nat.le_refl _
  ·rw [P.nf,P3.nf];exact Nat.le_refl _
  ·rw [P.nd,P3.nd];exact Nat.le_succ _
  ·rw [P.nr,P3.nr];exact Nat.le_refl _
end
section
variable {W:Wd}{A:Id→Addr}{K:KS}{X X₀ h:H}{R:SV VI}{n:Nat}{T lf:List UInt8}{m s q r:Nat}
noncomputable abbrev Nh (W:Wd)(n:Nat):Cn:=⟨W,n,Hd.fS (Hd.stm 40),true⟩
noncomputable def CA (k:Nat):List Stmt:=(Hd.fB (Hd.stm 40)).drop k
noncomputable def DC (T:List UInt8)(m:Nat)(rd w:Nat)(y:KV):KV:=("box",.ref .box)::("calls",.ref .calls)::("first",.ref (.proc 0))::("text",.bytes T)::("many",.int m)::("reader",.int rd)::("writer",.int w)::y
noncomputable def rowsL (q:Nat):List VI:=(List.range q).map λi=> .ref (.row i)
theorem zm (q:Nat):rowsL (q+1)=rowsL q++[.ref (.row q)]:=by unfold rowsL;rw [List.range_succ,List.map_append];rfl
theorem H6 {i:Nat}(h:i<K.nr):lY K (.ref (.row i))=true:=by
 show (!Nat.ble K.nr i)=true
 rw [pn h];rfl
theorem ql (h:q≤K.nr):(rowsL q).all (lY K)=true:=LM λj hj=>H6 (Nat.lt_of_lt_of_le (List.mem_range.mp hj) h)
theorem CG {v:Nat}:G6 .Add (.int 1) (.int (v:Nat)) (.int (v+1:Nat)):=by
 rw [show ((v+1:Nat):Int)=1+(v:Int) by rw [Int.add_comm];rfl]
 exact gG
theorem tj {c:Cn}{ρ:KV}{R:SV VI}{b:fU}{k n':Nat} {p p1 p2 p3 p4 p5:Pos}(hj:c.j=n'+1)(hb:K.box=some b)(hv:ρ.lookup ("box":Str)=some (.ref .box))(kd:H2 (c.sc.names.lookup ("box":Str))=true)(hk:c.sc.names.lookup ("_law_take":Str)=some .globalImplicit)
  (r:∀sz:Nat,1≤sz→sz≤4→R A (K.tick b) X (.int sz)):GE c (.BinOp (.Constant (.int 1) k p1) .Add (.Call (.Name "_law_take" p2) [.Name "box" p3,.Constant (.int 4) 0 p4] [] p5) p) ρ A K X R:=
 L4 (cR gh ⟨rfl,f8 (us:=[.ref .box,.int (4:Nat)]) hk gQ rfl (aw (cw hv kd rfl rfl) rfl (aw gh rfl aK)) (aM hD (by rw [hj];exact iL (m:=4) hb (by decide) λv hv=>⟨rfl,.mk (.int (v+1:Nat)) CG (r (v+1) (Nat.succ_le_succ (Nat.zero_le v)) hv)⟩))⟩)
structure P9 (T:List UInt8)(m s:Nat)(A₀:Id→Addr)(K₀:KS)(X₀:H)(e:Addr)(q:Nat)(A:Id→Addr)(K:KS)(X:H)(ρ:KV):Prop where
 ag:Ag K₀ A₀ A
 up:Up K₀ K
 x:X=X₀.put e (.list (dL A (rowsL (q+1))))
 pr:Pr T m s (q+1) (q+1) (q+1) (d0 (q+1)) K
 box:∃b,K.box=some b
 rho:∃(w:Nat) (y:KV),DC T m (q % 2) w (("rows",.adr e)::y)=ρ∧(y.all λp=>lY K p.2)=true
theorem Pr.up {T:List UInt8} {m s a b r a' b' r':Nat}{D D':List (Option Nat)}{K K':KS}(P:Pr T m s a b r D K)(P':Pr T m s a' b' r' D' K')(h1:a≤a')(h2:b≤b')(h3:r≤r'):Up K K':=
 ⟨by rw [P.np,P'.np];exact h1,by rw [P.nf,P'.nf];exact Nat.mul_le_mul_left 2 h1,by rw [P.nd,P'.nd];exact Nat.succ_le_succ h2,by rw [P.nr,P'.nr];exact h3⟩
theorem JN {SR:oz}{b:fU}(P:Pr T m s 0 0 0 (d0 0) K)(hm:m≤3)(hb:K.box=some b)
  (k:∀A' K' X' e,X e=none→P9 T m s A' K' X e 0 A' K' X' (DC T m 0 1 [("rows",.adr e)])→Ag K A A'→GS (Nh W (n+6)) (CA 2) (DC T m 0 1 [("rows",.adr e)]) A' K' X' SR):
  GS (Nh W (n+6)) (CA 0) [("box",.ref .box),("calls",.ref .calls),("first",.ref (.proc 0)),("text",.bytes T),("many",.int m)] A K X SR:=by
 have on:=P.on
 refine A9 λhW=>C8 rfl (λ_=>rfl) (aG (aL rfl rfl rfl rfl) rfl (aJ gi (j4 on) rfl) rfl rfl (aw (aL rfl rfl rfl rfl) rfl aK) (aM gr (zH (n:=n+1) P (by decide) λA1 K1 c ag1 hc P1 B1=>⟨fK ag1 rfl,[.int 0,.int 1],g5 (us:=[.int 0,.int 1]) (H.put_same ..),dS rfl rfl (λ_=>⟨rfl,rfl⟩) (dQ rfl ⟨rfl,dS rfl rfl (λ_=>⟨rfl,rfl⟩) (dQ rfl ⟨rfl,jf (mj (ai hc) ?_)⟩)⟩)⟩)))
 have hb1:K1.box=some b:=B1.trans hb
 have on1:=P1.on
 refine cE rfl rfl (gk (bS (qM rfl lj rfl (bL (cR (aL rfl rfl rfl rfl) ⟨rfl,bL (cR (aL rfl rfl rfl rfl) ⟨rfl,bL (gk (gg (us:=[.int 0]) (aw (aL rfl rfl rfl rfl) rfl aK) ⟨Nat.le_of_ble_eq_true rfl,λsh hsh=>⟨rfl,bL (gk (gg (us:=[.int 1]) (aw (aL rfl rfl rfl rfl) rfl aK) ⟨Nat.le_of_ble_eq_true rfl,λgn hgn=>⟨rfl,bS (Ej rfl rfl (λdc hdc=>j2 (by ac_rfl) (j2 (aL rfl rfl rfl rfl) (j2 (aL rfl rfl rfl rfl) (Cw ⟨rfl,rfl⟩ (tj (n':=n+5) rfl hb1 rfl rfl rfl λsz s1 s4=>⟨rfl,DN ⟨rfl,rfl,rfl,rfl,H.put_same ..,Nat.le_of_ble_eq_true rfl,rfl,rfl,rfl,rfl,?_⟩⟩))))) ⟨rfl,rfl⟩) rfl⟩⟩)) rfl (af rfl λ_=>rfl)⟩⟩)) rfl (af rfl (af rfl λ_=>rfl))⟩) rfl (af rfl (af rfl (af rfl λ_=>rfl)))⟩) rfl (af rfl (af rfl (af rfl (af rfl λ_=>rfl))))) λhp hK=>keeps_K (by rw [hW];exact gv _) hp hK) rfl))
 rw [H.put_put]
 have xd:=kI (kI hdc)
 refine aM gv (IT (n:=n) (q:=0) (T:=T) (sz:=sz) (X₀:=X) (P1.tick b) hm (Nat.zero_le _) ((ai hsh).trans ((ai hgn).trans (ai hdc))) xd (aE (aE (H.put_same ..) hgn) hdc) (aE (H.put_same ..) hdc) (H.put_same ..) ⟨s1,s4⟩ λA' K' ag2 P' B'=>⟨Nat.le_of_ble_eq_true rfl,λe he=>⟨fK ag2 rfl,?_⟩⟩)
 exact k A' K' _ e he ⟨.rfl',.rfl',rfl,P',⟨_,B'⟩,1,[],rfl,rfl⟩ (ag1.trans ag2 (P.up (P1.tick b) (Nat.zero_le _) (Nat.zero_le _) (Nat.zero_le _)))
end
section
variable {W:Wd}{A:Id→Addr}{K:KS}{X X₀ h:H}{R:SV VI}{n:Nat}{T lf:List UInt8}{m s q r:Nat}
theorem IX {SR:oz}{A₀:Id→Addr}{K₀:KS}{e:Addr}{ρ:KV}(xe:X₀ e=none)(hm:m≤3)(L0:P9 T m s A₀ K₀ X₀ e 0 A K X ρ)
  (k:∀A' K' X' w (y:KV),(y.all λp=>lY K' p.2)=true→Ag K₀ A₀ A'→X'=X₀.put e (.list (dL A' (rowsL (m+1))))→Pr T m s (m+1) (m+1) (m+1) (d0 (m+1)) K'→(∃b,K'.box=some b)→Up K₀ K'→GS (Nh W (n+6)) (CA 3) (DC T m (m % 2) w (("rows",.adr e)::y)) A' K' X' SR):
  GS (Nh W (n+6)) (CA 2) ρ A K X SR:=by
 refine A9 λhW=>lh (CC rfl lC rfl (cR (u:= .int m) ?_ ⟨m,rfl,by exact Nat.lt_of_le_of_lt hm (by decide),rfl,λj=>P9 T m s A₀ K₀ X₀ e j,L0,λj A₁ K₁ X₁ ρ hj V=>⟨λ_ _=>trivial,jq ⟨rfl,?_⟩⟩,λA₁ K₁ X₁ ρ V=>⟨λ_ _=>trivial,?_⟩⟩))
 ·refine bq λzq=> ?_
  obtain ⟨-, -, -, -, -,w,y,rfl, -⟩:=L0
  apply zq;clear zq
  exact aL rfl rfl rfl rfl
 ·have hj:j<m:=by have:(gu.range (m:Int)).len=m:=Int.toNat_natCast m;rw [this] at hj;exact hj
  obtain ⟨ag,up,rfl,P,⟨b,hb⟩,w,y,rfl,hy⟩:=V
  have on:=P.on
  refine dQ rfl (C8 rfl (λ_=>rfl) (aG (aL rfl rfl rfl rfl) rfl (aJ gi (j4 on) rfl) rfl rfl (aw (aL rfl rfl rfl rfl) rfl aK) (aM gr (zH (n:=n+1) (q:=j+1) P (by lia) λA2 K2 c ag2 hc P2 B2=>⟨fK ag2 ?_,[.int ((j+1) % 2:Nat),.int (2:Nat)],g5 (us:=[.int ((j+1) % 2:Nat),.int (2:Nat)]) (H.put_same ..),dS rfl rfl (λ_=>⟨rfl,rfl⟩) (dQ rfl ⟨rfl,dS rfl rfl (λ_=>⟨rfl,rfl⟩) (dQ rfl ⟨rfl,jf (mj (ai hc) ?_)⟩)⟩)⟩))))
  ·exact aA rfl (aA rfl (aA rfl (aA rfl (aA rfl (aA rfl (aA rfl (aA rfl (dJ rfl hy))))))))
  have hb2:K2.box=some b:=B2.trans hb
  have on2:=P2.on
  have up2:Up K₁ (K2.tick b):=P.up (P2.tick b) (Nat.le_succ _) (Nat.le_refl _) (Nat.le_refl _)
  have xl:dL A2 (rowsL (j+1))=dL A₁ (rowsL (j+1)):=vO ag2 (ql (by rw [P.nr];exact Nat.le_refl _))
  rw [←xl]
  refine cE rfl rfl (Ej rfl rfl (λdc hdc=>j2 (aL rfl rfl rfl rfl) (j2 (aL rfl rfl rfl rfl) (j2 (by ac_rfl) (Cw ⟨rfl,rfl⟩ (tj (n':=n+5) rfl hb2 rfl rfl rfl λsz s1 s4=>⟨rfl,DN ⟨rfl,rfl,rfl,rfl,H.put_same ..,Nat.le_of_ble_eq_true rfl,rfl,?_⟩⟩))))) ⟨rfl,rfl⟩)
  rw [H.put_put]
  have e1:yu (j+1)= .int (j % 2:Nat):=if_neg (Nat.succ_ne_zero j)
  have e2:qg (j+1)=2:=if_neg (Nat.succ_ne_zero j)
  have e3:(if j+1=0 then T else [])=[]:=if_neg (Nat.succ_ne_zero j)
  have e4:((gN (j+1)).map λq=>VI.int q.1)=[.int (j % 2:Nat),.int (2:Nat)]:=by unfold gN;rw [if_neg (Nat.succ_ne_zero j)];rfl
  have hx:((X₀.put e (.list (dL A2 (rowsL (j+1))))).put dc (.attrs (dT A2 [(tR,.int (j % 2:Nat)),(kx,.int (2:Nat)),(i8,.bytes []),(eC,.int sz)]))) e=some (.list (dL A2 (rowsL (j+1)))):=aE (H.put_same ..) hdc
  show GS _ _ _ A2 (K2.tick b) ((X₀.put e (.list (dL A2 (rowsL (j+1))))).put dc (.attrs (dT A2 [(tR,.int (j % 2:Nat)),(kx,.int (2:Nat)),(i8,.bytes []),(eC,.int sz)]))) _
  refine dw rfl (zn (aL rfl rfl rfl rfl) rfl (I3 (bR hx)) rfl rfl (bS (qM rfl lj rfl (bL (cR (aL rfl rfl rfl rfl) ⟨rfl,bL (cR (aL rfl rfl rfl rfl) ⟨rfl,bL (gk (gg (us:=[.int ((j+1) % 2:Nat)]) (aw (cw ((iN (by decide) _).trans ((iN (by decide) _).trans (aP ..))) rfl rfl rfl) rfl aK) ⟨Nat.le_of_ble_eq_true rfl,λsh hsh=>⟨rfl,bL (gk (gg (us:=[.int (j % 2:Nat),.int (2:Nat)]) (aw (aL rfl rfl rfl rfl) rfl (aw (aL rfl rfl rfl rfl) rfl aK)) ⟨Nat.le_of_ble_eq_true rfl,λgn hgn=>⟨rfl,bS (cR (cw (aP ..) rfl rfl rfl) ⟨rfl,rfl,rfl,rfl,?_⟩) rfl⟩⟩)) rfl (af rfl λ_=>rfl)⟩⟩)) rfl (af rfl (af rfl λ_=>rfl))⟩) rfl (af rfl (af rfl (af rfl λ_=>rfl)))⟩) rfl (af rfl (af rfl (af rfl (af rfl λ_=>rfl))))) λhp hK=>keeps_K (by rw [hW];exact gv _) hp hK) rfl))
  refine aM gv (IT (n:=n) (q:=j+1) (T:=T) (sz:=sz) (X₀:=X₀.put e (.list (dL A2 (rowsL (j+1))))) (P2.tick b) hm (Nat.succ_le_of_lt hj) ((ai hdc).trans ((ai hsh).trans (ai hgn))) hdc (aE (H.put_same ..) hgn) (by rw [e4];exact H.put_same ..) (by rw [e1,e2,e3];exact aE (aE (H.put_same ..) hsh) hgn) ⟨s1,s4⟩ λA3 K3 ag3 P3 B3=>⟨rfl,?_⟩)
  have up3:=(P2.tick b).up P3 (Nat.le_refl _) (Nat.le_succ _) (Nat.le_succ _)
  have xl3:dL A3 (rowsL (j+1))=dL A2 (rowsL (j+1)):=vO ag3 (ql (by rw [(P2.tick b).nr];exact Nat.le_refl _))
  have hy2:=pZ up2 hy
  refine Do (l:=rowsL (j+1)) (by rw [xl3];exact H.put_same ..) (by unfold rowsL;rw [List.length_map,List.length_range];lia) ⟨fK ag3 ?_,mU rfl rfl (cw ((iN (by decide) _).trans ((iN (by decide) _).trans (aP ..))) rfl rfl rfl) (ar ⟨ag.trans (ag2.trans ag3 up2) up,up.trans (up2.trans up3),?_,P3,⟨_,B3⟩,2,_,rfl,?_⟩)⟩
  ·exact aA rfl (aA rfl (aA rfl (aA rfl (aA rfl (aA rfl (aA rfl (aA rfl (dJ (v:= .adr dc) rfl (dJ (v:= .int ((j+1) % 2:Nat)) rfl (dJ (v:= .int j) rfl hy2))))))))))
  ·rw [H.put_put,←zm]
  ·exact dJ (v:= .adr dc) rfl (dJ (v:= .int ((j+1) % 2:Nat)) rfl (dJ (v:= .int j) rfl (pZ up3 hy2)))
 ·have ln:(gu.range (m:Int)).len=m:=Int.toNat_natCast m
  rw [ln] at V
  refine bq λzq=> ?_
  obtain ⟨ag,up,hx,P,hb,w,y,rfl,hy⟩:=V
  apply zq;clear zq
  exact k A₁ K₁ X₁ w y hy ag hx P hb up
end
section
variable {W:Wd}{A:Id→Addr}{K:KS}{X X₀ h:H}{R:SV VI}{n:Nat}{T lf:List UInt8}{m s q r:Nat}
theorem CD {SR:oz}{e:Addr}{w:Nat}{y:KV}{b:fU}(hy:(y.all λp=>lY K p.2)=true)(P:Pr T m s (m+1) (m+1) (m+1) (d0 (m+1)) K)(hm:m≤3)(hb:K.box=some b)(hX:X=X₀.put e (.list (dL A (rowsL (m+1)))))
  (k:∀A' K' ρ,Ag K A A'→Pr T m s (m+1) (m+1) (m+2) (d0 (m+1)) K'→(∃b,K'.box=some b)→SR A' K' (X₀.put e (.list (dL A' (rowsL (m+2))))) (.ret (.adr e)) ρ):
  GS (Nh W (n+6)) (CA 3) (DC T m (m % 2) w (("rows",.adr e)::y)) A K X SR:=by
 have on:=P.on
 have hx:X e=some (.list (dL A (rowsL (m+1)))):=hX▸H.put_same ..
 refine fL (dw rfl (zn (aL rfl rfl rfl rfl) rfl (I3 (bR hx)) rfl rfl (bS (Nb (Ej rfl rfl (λdc hdc=>j2 (aL rfl rfl rfl rfl) (j2 (aL rfl rfl rfl rfl) (j2 (by ac_rfl) (j2 (by ac_rfl) (Cw ⟨rfl,rfl⟩ (tj (n':=n+5) rfl hb rfl rfl rfl λsz s1 s4=>⟨rfl,j2 (by ac_rfl) (j2 (by ac_rfl) (DN ⟨rfl,rfl,rfl,rfl,rfl,rfl,rfl,H.put_same ..,Nat.le_of_ble_eq_true rfl,?_⟩))⟩)))))) ⟨rfl,rfl⟩)) rfl)))
 rw [H.put_put]
 have P1:=P.tick b
 have nr:=P1.nr
 have RQ:D0 T m (m+1) ⟨true,0,.int (m % 2:Nat),.none,[],[],sz,0,0⟩:=⟨⟨(if_pos rfl).symm,(decide_eq_true rfl).symm,λq=>absurd q (Nat.not_succ_le_self m),(if_pos rfl).symm,(if_neg (Nat.succ_ne_zero m)).symm,sz,rfl,s1,s4⟩,(if_neg (Nat.succ_ne_zero m)).symm,rfl,rfl⟩
 have ag:=IH (K:=K.tick b) (A:=A) (a:=dc)
 have P2:=P1.row RQ
 refine ⟨l5 A [(.row (K.tick b).nr,dc)],(K.tick b).addRow ⟨true,0,.int (m % 2:Nat),.none,[],[],sz,0,0⟩,X,.ref (.row (m+1)),⟨λh I=>I.addRow (r:=⟨true,0,.int (m % 2:Nat),.none,[],[],sz,0,0⟩) P1.pre (Nat.succ_pos 5) RQ.s.n rfl (Bs.nil.put (o:= .attrs (dT A (mw ⟨true,0,.int (m % 2:Nat),.none,[],[],sz,0,0⟩))) hdc _),?_⟩,rfl,?_⟩
 ·rw [nr];exact (congrArg Mine.V.ref bY).symm
 generalize l5 A [(.row (K.tick b).nr,dc)]=A' at*
 have xl:dL A' (rowsL (m+1))=dL A (rowsL (m+1)):=vO ag (ql (by rw [nr];exact Nat.le_refl _))
 refine Do (l:=rowsL (m+1)) (by rw [xl];exact hx) (by unfold rowsL;rw [List.length_map,List.length_range];exact Nat.le_trans (Nat.add_le_add_right hm 1) (by decide)) ⟨?_,bX (aL rfl rfl rfl rfl) ⟨_,λ_ _ q=>q,?_⟩⟩
 ·exact fK ag (pZ (K:=K) (K':=K.tick b) ⟨Nat.le_refl _,Nat.le_refl _,Nat.le_refl _,Nat.le_refl _⟩ (aA rfl (aA rfl (aA rfl (aA rfl (aA rfl (aA rfl (aA rfl (aA rfl hy)))))))))
 ·rw [←zm,hX,H.put_put]
  exact k A' _ _ ag P2 ⟨_,rfl⟩
theorem Dj {b:fU}(P:Pr T m s 0 0 0 (d0 0) K)(hm:m≤3)(hb:K.box=some b)(k:∀A' K' e,Ag K A A'→X e=none→Pr T m s (m+1) (m+1) (m+2) (d0 (m+1)) K'→(∃b,K'.box=some b)→R A' K' (X.put e (.list (dL A' (rowsL (m+2))))) (.adr e)):
  GC W (n+7) dY [.ref .box,.ref .calls,.ref (.proc 0),.bytes T,.int m] A K X R:=
 aH qF rfl rfl (JN (n:=n) P hm hb λA1 K1 X1 e he L ag1=>IX he hm L λA2 K2 X2 w y hy ag2 hx P2 ⟨b2,hb2⟩ up2=>CD hy P2 hm hb2 hx λA3 K3 ρ ag3 P3 B3=>k A3 K3 e (ag1.trans (ag2.trans ag3 up2) (P.up L.pr (Nat.zero_le _) (Nat.zero_le _) (Nat.zero_le _))) he P3 B3)
end
section
variable {W:Wd}{A A':Id→Addr}{K:KS}{X X₀ h:H}{R:SV VI}{n:Nat}{T lf:List UInt8}{m s q r:Nat}
noncomputable def w0 (t:Addr):ao:=⟨[],false,[],t⟩
noncomputable def KS.addWorld (K:KS)(l:List Nat)(t:Addr):KS:={K with lists:=some l,world:=some (w0 t)}
theorem yW {K:KS}{A:Id→Addr}(on:K.on=true){i:Nat}(h:i<15):(K.sob A)[i]?.join=(K.sob1 A)[i]?.join:=by
 unfold KS.sob
 rw [if_pos on,List.getElem?_append_left (show i<(K.sob1 A).length from h)]
theorem pO {K:KS}{A:Id→Addr}(on:K.on=true)(i:Nat):(K.sob A)[15+i]?.join=(K.sob2 A)[i]?.join:=by
 unfold KS.sob
 rw [if_pos on,List.getElem?_append_right (show (K.sob1 A).length≤15+i from Nat.le_add_right 15 i)]
 show ((K.sob2 A)[15+i - 15]?).join=_
 rw [Nat.add_sub_cancel_left]
noncomputable def mu (P:Nat→Prop):Nat→Nat→Prop
 |_,0=>True
 |k,n+1=>P k∧mu P (k+1) n
theorem mu.get {P:Nat→Prop}{n:Nat}:∀{k i:Nat},mu P k n→k≤i→i<k+n→P i:=by
 induction n with
 |zero=>exact λ_ h1 h2=>absurd h2 (Nat.not_lt.mpr h1)
 |succ n ih=>exact λa h1 h2=>(Nat.eq_or_lt_of_le h1).elim (λe=>e▸a.1) λl=>ih a.2 l (by exact Nat.lt_of_lt_of_le h2 (Nat.le_of_eq (Nat.add_right_comm _ _ 1)))
theorem mu.all {P:Nat→Prop}{n:Nat}(a:mu P 0 n)(i:Nat)(h:i<n):P i:=a.get (Nat.zero_le i) (by rw [Nat.zero_add];exact h)
@[elab_as_elim] theorem mu.six {P:Nat→Prop}(a:P 0∧P 1∧P 2∧P 3∧P 4∧P 5)(r:∀j,P (j+6))(j:Nat):P j:=by
 by_cases h:j<6
 ·exact mu.all (n:=6) ⟨a.1,a.2.1,a.2.2.1,a.2.2.2.1,a.2.2.2.2.1,a.2.2.2.2.2,trivial⟩ j h
 ·obtain ⟨k,rfl⟩:=Nat.exists_eq_add_of_le (Nat.le_of_not_lt h)
  rw [Nat.add_comm];exact r k
theorem cX {i:Id}{a:Addr}{x o:OK}{l:List (Id×Addr×OK)}(k:Nat)(e:l[k]?=some (i,a,x))(h:some x=some o):(i,a,o)∈l:=by cases h;exact List.mem_of_getElem? e
theorem Is.addWorld {e p d t:Addr}{l:List Nat}(I:Is W A K X h)(P:oY K)(hA:A'=l5 A [(.rowsL,e),(.pipesL,p),(.world,d)])(hl:∀i∈l,i<K.np)
  (B:Bs X₀ X [(.world,d,.attrs (dT A (A4 (w0 t)))),(.toldL,t,.list []),(.pipesL,p,.list (dL A (l.map λi=> .ref (.pipe i)))),(.rowsL,e,.list (dL A ((List.range K.nr).map λi=> .ref (.row i))))]):Is W A' (K.addWorld l t) X₀ h:=by
 have on:=P.on
 have a1:A' .rowsL=e:=hA▸bY
 have a2:A' .pipesL=p:=hA▸(aN (by nofun)).trans bY
 have a3:A' .world=d:=hA▸(aN (by nofun)).trans ((aN (by nofun)).trans bY)
 have ag:∀y,y≠ .rowsL→y≠ .pipesL→y≠ .world→A' y=A y:=λy h1 h2 h3=>hA▸(aN h1).trans ((aN h2).trans (aN h3))
 have s2:∀i,i<4→(K.sob2 A)[i]?.join=none:=by
  unfold KS.sob2;rw [P.li,P.wo]
  exact mu.all (n:=4) ⟨rfl,rfl,rfl,rfl,trivial⟩
 have hi:∀i,i<4→K.ob A (.st (15+i))=none:=λi h=>(pO on i).trans (s2 i h)
 have ag':∀y,K.ob A y≠none→A' y=A y:=λy hy=>ag y (λe=>hy (e▸hi 0 (by decide))) (λe=>hy (e▸hi 1 (by decide))) (λe=>hy (e▸hi 2 (by decide)))
 have oa:=v8 P.on I.wf P.li P.wo P.rows ag'
 have st:∀i,i<15∨19≤i→(K.addWorld l t).ob A' (.st i)=K.ob A' (.st i):=λi h=>by
  rcases h with h|h
  ·exact (yW (K:=K.addWorld l t) on h).trans (yW on h).symm
  ·obtain ⟨j,rfl⟩:=Nat.exists_eq_add_of_le h
   show ((K.addWorld l t).sob A')[19+j]?.join=(K.sob A')[19+j]?.join
   rw [show 19+j=15+(j+4) by lia,pO (K:=K.addWorld l t) on,pO on]
   rfl
 have cov:∀i,i<15∨19≤i∨∃j,j<4∧i=15+j:=λi=>by
  by_cases x:i<15
  ·exact .inl x
  ·by_cases y:19≤i
   ·exact .inr (.inl y)
   ·exact .inr (.inr ⟨i - 15,by lia,by lia⟩)
 have obx:∀y,(∀i,y≠ .st i)→(K.addWorld l t).ob A' y=K.ob A' y:=λy h=>by cases y<;>first|rfl|exact absurd rfl (h _)
 have w:=I.wf
 refine I.adopt B (λy hy=> ?_) (λy o hy ho=> ?_) (λi hi=>rfl) (λw e p hp=>by cases e;cases hp) ⟨w.fpipe,w.slot,w.six,w.par,w.files,w.fst,w.tab,w.tabN,w.opn,w.ring,w.rowp⟩
 ·have hy:K.ob A y≠none:=λe=>hy (congrArg (Option.map OK.o) e)
  refine ⟨congrArg (Option.map OK.o) (Eq.trans ?_ (oa y)),?_⟩
  ·cases y with
   |st i=>
    refine bq λzq=> ?_
    rcases cov i with x|x|⟨j,x,rfl⟩
    ·apply zq;clear zq
     exact st i (.inl x)
    ·apply zq;clear zq
     exact st i (.inr x)
    ·apply zq;clear zq
     exact absurd (hi j x) hy
   |_=>rfl
  ·cases y with
   |regs i=>rfl
   |st i=>
    have x:i≠18:=λe=>hy (e▸hi 3 (by decide))
    show (if i=8 then K.openA else if i=18 then t else A' (.st i))=if i=8 then K.openA else if i=18 then K.world.elim 0 (·.toldA) else A (.st i)
    rw [if_neg x,if_neg x,ag' _ hy]
   |_=>exact ag' _ hy
 ·have nn:K.ob A y=none:=by
   cases q:K.ob A y with
   |none=>rfl
   |some z=>unfold KS.obj at hy;rw [q] at hy;cases hy
  by_cases hs:∃i,y= .st i
  ·obtain ⟨i,rfl⟩:=hs
   rcases cov i with x|x|⟨j,x,rfl⟩
   ·rw [st i (.inl x),oa,nn] at ho;cases ho
   ·rw [st i (.inr x),oa,nn] at ho;cases ho
   ·have ho:((K.addWorld l t).sob2 A')[j]?.join=some o:=(pO (K:=K.addWorld l t) on j).symm.trans ho
    have r1:dL A' ((List.range K.nr).map λi=> .ref (.row i))=dL A ((List.range K.nr).map λi=> .ref (.row i)):=je λv hv=>by
     obtain ⟨i,hi,rfl⟩:=List.mem_map.mp hv
     exact bE (ag _ nofun nofun nofun)
    have r2:dL A' (l.map λi=> .ref (.pipe i))=dL A (l.map λi=> .ref (.pipe i)):=je λv hv=>by
     obtain ⟨i,hi,rfl⟩:=List.mem_map.mp hv
     exact bE (ag _ nofun nofun nofun)
    refine mu.get (P:=λj=>((K.addWorld l t).sob2 A')[j]?.join=some o→(Id.st (15+j),(K.addWorld l t).at A' (.st (15+j)),o)∈_) (n:=4) (k:=0) ⟨cX 3 ?_,cX 2 ?_,cX 0 ?_,cX 1 rfl,trivial⟩ (Nat.zero_le j) x ho
    ·show some (Id.rowsL,e,OK.list _)=some (Id.rowsL,A' .rowsL,OK.list _);rw [a1];exact congrArg (λb=>some (Id.rowsL,e,OK.list b)) r1.symm
    ·show some (Id.pipesL,p,OK.list _)=some (Id.pipesL,A' .pipesL,OK.list _);rw [a2];exact congrArg (λb=>some (Id.pipesL,p,OK.list b)) r2.symm
    ·exact congrArg some (congrArg (λa=>(Id.world,a,_)) a3.symm)
  ·rw [obx y λi e=>hs ⟨i,e⟩,oa,nn] at ho;cases ho
theorem Pr.start {t:Addr}(wf:K.Wf)(P:Pr T m s (m+1) (m+1) (m+2) (Mine.d0 (m+1)) K)(hT:1≤T.length∧T.length≤9)(hm:m≤3):eg T m 0 0 (K.addWorld (List.range (m+1)) t) (w0 t)∧jW T.length m 0 0 (K.addWorld (List.range (m+1)) t) (w0 t)≤399:=by
 have opl:=P.opl
 have lt:∀{i},i≤m→i<m+1:=Nat.lt_succ_of_le
 have src:∀i,i≤m→(K.addWorld (List.range (m+1)) t).src T i=0:=λi hi=>by
  cases i with
  |zero=>
   show T.length - (K.row 0).left.length=0
   rw [(P.rows 0 (Nat.succ_pos _)).l,if_pos rfl,Nat.sub_self]
  |succ j=>
   show (K.pipe j).rc=0
   rw [P.pipe j (Nat.le_succ_of_le hi)]
 constructor
 ·refine ⟨hm,Nat.zero_le _,Nat.le_refl _,hT,P.np,P.nf,P.nd,P.nr,P.fst,rfl,rfl,nofun,λ_=>rfl,rfl,?_,λi hi=> ?_,λi hi=> ?_,λi hi=> ?_,λi hi=> ?_,λi hi=> ?_,by show K.opn.length≤1000;lia,λi hi=> ?_,λi hi=> ?_,λi hi=> ?_,λi hi=> ?_,?_,λi hi _=>P.ds i (lt hi),λ_=> ?_,λi hi=> ?_,?_,λj h1 h2=>P.un j h1 h2⟩
  ·show []=T.take (K.pipe m).rc;rw [P.pipe m (lt (Nat.le_refl m))];rfl
  ·show jb T (K.pipe i);rw [P.pipe i (lt hi)]
   exact ⟨Nat.le_refl _,Nat.zero_le _,Nat.zero_le _,⟨P.s1,P.s4⟩,List.length_replicate,λj h1 h2=>absurd h2 (Nat.not_lt_zero j)⟩
  ·show (K.pipe i).wo=_;rw [P.pipe i (lt hi)];exact (decide_eq_true (Nat.zero_le i)).symm
  ·show (K.pipe i).ro=_;rw [P.pipe i (lt hi),decide_eq_true (Nat.zero_le (i+1))];split<;>rfl
  ·show (K.file (2*i)).rd=_∧(K.file (2*i)).wr=_∧(K.file (2*i)).pipe=_∧(_→(K.file (2*i)).holders=1);rw [P.fr i (lt hi)];exact ⟨rfl,rfl,rfl,λ_=>rfl⟩
  ·show (K.file (2*i+1)).rd=_∧(K.file (2*i+1)).wr=_∧(K.file (2*i+1)).pipe=_∧(_→(K.file (2*i+1)).holders=1);rw [P.fw i (lt hi)];exact ⟨rfl,rfl,rfl,λ_=>rfl⟩
  ·show (_→(K.pipe i).ro=true)∧(_→(K.pipe i).wo=true);rw [P.pipe i (lt hi)];exact ⟨λ_=>rfl,λ_=>rfl⟩
  ·have:=wf.tab i hi
   rw [P.np] at this
   left;show (K.pipe i).ro=true;rw [P.pipe i this]
  ·exact (P.rows i (Nat.lt_succ_of_le hi)).s
  ·refine ⟨0,?_⟩
   rw [src i hi]
   show Cr T (K.pipe i).wc 0 i (K.row i) (K.proc (i+1)).progress 0
   have Q:=P.rows i (Nat.lt_succ_of_le (Nat.le_succ_of_le hi))
   rw [P.pipe i (lt hi),(P.pr i (lt hi)).2.2.2.2]
   exact ⟨Q.l,Q.p,rfl,⟨Nat.le_refl 0,Nat.le_refl 0,Nat.zero_le _⟩,Q.e,λ_=>rfl⟩
  ·have Q:=P.rows (m+1) (Nat.lt_succ_self _)
   exact ⟨Q.l.trans (if_neg (Nat.succ_ne_zero m)),Q.e⟩
  ·show (K.desc 0)[m % 2]?=_;rw [P.d0]
   have:∀m,m≤3→(Mine.d0 (m+1))[m % 2]?=some (some (2*m)):=by decide+kernel
   exact this m hm
  ·refine bq λzq=> ?_
   obtain ⟨q1,q2,q3,q4,q5⟩:=P.pr i (lt hi)
   apply zq;clear zq
   exact ⟨λx=>absurd x (Nat.not_lt_zero i),λ_=>⟨q1,q3,q4⟩,λx=>absurd x (Nat.not_lt_zero i),λ_=> .inl q2⟩
  ·refine bq λzq=> ?_
   obtain ⟨q1,q2,q3,q4⟩:=P.p0
   apply zq;clear zq
   exact ⟨q1,q3,q4,.inl q2⟩
 ·have rd:∀p:aa,rdy p≤1:=λp=>by unfold rdy;split<;>decide
  have mv:∀i,oW T.length m K.pipe i≤18:=λi=>by unfold oW;split<;>lia
  have n0:=rd (K.proc 0)
  have n1:=rd (K.proc 1)
  have n2:=rd (K.proc 2)
  have n3:=rd (K.proc 3)
  have n4:=rd (K.proc 4)
  have n5:=rd (K.proc 5)
  have m0:=mv 0
  have m1:=mv 1
  have m2:=mv 2
  have m3:=mv 3
  show 2*(oW T.length m K.pipe 0+oW T.length m K.pipe 1+oW T.length m K.pipe 2+oW T.length m K.pipe 3)+(rdy (K.proc 0)+rdy (K.proc 1)+rdy (K.proc 2)+rdy (K.proc 3)+rdy (K.proc 4)+rdy (K.proc 5))+2*(m+1 - 0)+2+(m+1 - 0)≤399
  lia
end
section
variable {W:Wd}{A A':Id→Addr}{K:KS}{X X₀ h:H}{SR:oz}{n:Nat}{T lf:List UInt8}{m s q r:Nat}
noncomputable def Ox (sc:VI)(T:List UInt8)(m:Nat)(y:KV):KV:=("script",sc)::("cells",.ref .cells)::("box",.ref .box)::("text",.bytes T)::("table",.ref .table)::("many",.int m)::("calls",.ref .calls)::("first",.ref (.proc 0))::y
theorem w7 (m:Nat):(List.range (m+2)).filter (λj=>decide (j≠m+1))=List.range (m+1):=by
 rw [List.range_succ,List.filter_append,List.filter_eq_self.mpr λj hj=>decide_eq_true (Nat.ne_of_lt (List.mem_range.mp hj))]
 show _++(List.filter _ [m+1])=_
 rw [List.filter_cons,decide_eq_false (show ¬m+1≠m+1 from λh=>h rfl)]
 exact List.append_nil _
theorem hJ {n:Str}{v v':VI}{l l':KV}(e:den A' v'=den A v)(t:dT A' l'=dT A l):dT A' ((n,v')::l')=dT A ((n,v)::l):=by
 show (n,den A' v')::dT A' l'=(n,den A v)::dT A l
 rw [e,t]
theorem Ni:∀q,q<4→(hB q)[qg q]?=some (some (2*q+1))∧qg q<6:=by decide+kernel
theorem Gy {sc:VI}{e:Addr}(P:Pr T m s (m+1) (m+1) (m+2) (d0 (m+1)) K)(hsc:∀A A',den A' sc=den A sc)(hm:m≤3)(hT:1≤T.length∧T.length≤9)(hb:∃b,K.box=some b)(he:X₀ e=none)(hX:X=X₀.put e (.list (dL A (rowsL (m+2)))))
  (kT:∀A K X ρ,SR A K X (.ret (.bool true)) ρ):GS (cl W (n+11)) (vR 9) (Ox sc T m [("rows",.adr e)]) A K X SR:=by
 have on:=P.on
 have nr:=P.nr
 have hx:X e=some (.list (dL A (rowsL (m+2)))):=hX▸H.put_same ..
 refine dh λwf=>Nm (by kernel_rfl) rfl rfl rfl rfl (iO (a:=e) rfl (aL rfl rfl rfl rfl) rfl (bR hx) ⟨rfl,λacc hacc=> ?_⟩)
 have xe:∀ys,(X.put acc (.list ys)) e=some (.list (dL A (rowsL (m+2)))):=λys=>aE hx hacc
 refine pM (N:=m+2) (λj=>decide (j≠m+1)) (λj=> .ref (.pipe j)) (λj=> .ref (.row j)) ((List.length_map ..).trans ((List.length_map ..).trans List.length_range)) (by exact Nat.le_trans (Nat.add_le_add_right hm 2) (by decide)) (λys h I=>(I.oth e _ (xe _)).1) (λi Z hi RV r=>cG (gC hi) r) rfl rfl (λi ys hi=> ?_) (λi ys hi q=> ?_) ?_
 ·have RS:=(P.rows i hi).s
  have ho:AS (K.row i).out=some (decide (i=m+1)):=by
   rw [RS.out]
   by_cases x:i=m+1
   ·rw [if_pos x,decide_eq_true x];rfl
   ·rw [if_neg x,decide_eq_false x];rfl
  exact ap (b8 (aO (aL rfl rfl rfl rfl) (by ac_rfl) rfl (bj (bt (by rw [nr];exact hi) rfl))) (by ac_rfl) rfl (gc ho)) (decide_not).symm
 ·have x:i≠m+1:=of_decide_eq_true q
  have hi':i<m+1:=iT hi x
  have hir:i<K.nr:=by rw [nr];exact hi
  have RS:=(P.rows i hi).s
  have rp:(K.row i).proc=i+1:=by rw [RS.proc,if_neg x]
  have ro:(K.row i).out= .int (qg i):=by rw [RS.out,if_neg x];unfold qg;split<;>rfl
  have q4:i<4:=by lia
  have hd:=(P.pr i hi').2.2.2.1
  have hn:i+1<K.nd:=by rw [P.nd];exact Nat.succ_lt_succ hi'
  have hf:2*i+1<K.nf:=by rw [P.nf];lia
  have fp:(K.file (2*i+1)).pipe=i:=by rw [P.fw i hi']
  exact I6 (E1 (iz (jA on (by lia) hd (I6 (aO (aL rfl rfl rfl rfl) (by ac_rfl) rfl (bj (bt hir rfl))) (by rw [rp])) rfl) rfl (aJ dp (fD hn) rfl) rfl rfl (aw (I6 (aO (aL rfl rfl rfl rfl) (by ac_rfl) rfl (bj (bt hir rfl))) ro) rfl aK) (i5 du (Ac hn (Ni i q4).2 (by rw [P.ds i hi'];exact (Ni i q4).1)))) (λ_ _=>rfl) (gB hf rfl) rfl) (by rw [fp])
 ·rw [w7]
  have B:Bs X₀ (X.put acc (.list (dL A ((List.range (m+1)).map λi=> .ref (.pipe i))))) [(.pipesL,acc,.list (dL A ((List.range (m+1)).map λi=> .ref (.pipe i)))),(.rowsL,e,.list (dL A (rowsL (m+2))))]:=by
   have:=Bs.nil.put (o:= .list (dL A (rowsL (m+2)))) he .rowsL
   exact Bs.put (o:= .list (dL A ((List.range (m+1)).map λi=> .ref (.pipe i)))) (by rw [hX] at hacc⊢;exact this) hacc .pipesL
  generalize X.put acc (.list (dL A ((List.range (m+1)).map λi=> .ref (.pipe i))))=X₁ at B
  refine cE rfl rfl (Ej rfl rfl (λd hd=>j2 (by ac_rfl) (j2 (by ac_rfl) (Cw ⟨rfl,rfl⟩ (gk (yB ⟨Nat.zero_le _,λt ht=>⟨rfl,DN ⟨rfl,rfl,rfl,aE (H.put_same ..) ht,Nat.le_of_ble_eq_true rfl,rfl,?_⟩⟩⟩))))) ⟨rfl,rfl⟩)
  have B2:=((B.put (o:= .attrs []) hd .world).put (o:= .list []) ht .toldL).perm (L':=(.world,d,.attrs [])::(.toldL,t,.list [])::(.pipesL,acc,.list (dL A ((List.range (m+1)).map λi=> .ref (.pipe i))))::[(.rowsL,e,.list (dL A (rowsL (m+2))))]) (.swap ..)
  have B3:=B2.set (o':= .attrs (dT A (A4 (w0 t))))
  have hr:rowsL (m+2)=(List.range K.nr).map λi=> .ref (.row i):=by rw [nr];rfl
  rw [hr] at B3
  have St:=P.start (t:=t) wf hT hm
  obtain ⟨V,PH⟩:=St
  refine zv (A':=l5 A [(.rowsL,e),(.pipesL,acc),(.world,d)]) (K':=K.addWorld (List.range (m+1)) t) (X':=X₀) (ρ':=yb sc T m []) (λh I=>I.addWorld P.pre rfl (λi hi=>by rw [P.np];exact List.mem_range.mp hi) B3) ?_ (Kt on V hb PH λK X ρ=>kT _ K X ρ)
  have a1:l5 A [(.rowsL,e),(.pipesL,acc),(.world,d)] .rowsL=e:=bY
  have a2:l5 A [(.rowsL,e),(.pipesL,acc),(.world,d)] .pipesL=acc:=(aN (by nofun)).trans bY
  have a3:l5 A [(.rowsL,e),(.pipesL,acc),(.world,d)] .world=d:=(aN (by nofun)).trans ((aN (by nofun)).trans bY)
  have st:∀y,y≠ .rowsL→y≠ .pipesL→y≠ .world→l5 A [(.rowsL,e),(.pipesL,acc),(.world,d)] y=A y:=λy h1 h2 h3=>(aN h1).trans ((aN h2).trans (aN h3))
  generalize l5 A [(.rowsL,e),(.pipesL,acc),(.world,d)]=A' at*
  show dT A' (yb sc T m [])=dT A (("script",sc)::("cells",.ref .cells)::("box",.ref .box)::("text",.bytes T)::("table",.ref .table)::("many",.int m)::("calls",.ref .calls)::("first",.ref (.proc 0))::("rows",.adr e)::("pipes",.adr acc)::("world",.adr d)::[])
  exact hJ (hsc ..) (hJ (bE (st _ (by nofun) (by nofun) (by nofun))) (hJ (bE (st _ (by nofun) (by nofun) (by nofun))) (hJ rfl (hJ (bE (st _ (by nofun) (by nofun) (by nofun))) (hJ rfl (hJ (bE (st _ (by nofun) (by nofun) (by nofun))) (hJ (bE (st _ (by nofun) (by nofun) (by nofun))) (hJ (congrArg Mine.V.ref a1) (hJ (congrArg Mine.V.ref a2) (hJ (congrArg Mine.V.ref a3) rfl))))))))))
end
section
variable {W:Wd}{A A':Id→Addr}{K:KS}{X X₀ h:H}{SR:oz}{n:Nat}{T lf:List UInt8}{m s q r:Nat}
theorem DO {env:Env}{x y:Expr}{a b:Str}{pa pb p p':Pos}{c c':Nat}(bk:env.blockKind= .function)(d1:env.kindOf a=some .local)(d2:env.kindOf b=some .local)(d3:pb.line=pa.line)(d4:a≠b)(d5:cy x=false)(d6:cy y=false)
  (d7:[x,y].all (foldedForSure 8)=false) (d8:[x,y].all (constantsAlone 8)=false):swappedStores [.Tuple [.Name a pa,.Name b pb] c p] (.Tuple [x,y] c' p') env=pure (some [a,b]):=by
 unfold swappedStores
 dsimp only
 rw [if_neg (by rw [bk];simp)]
 show (if _=true then _ else _)=_
 rw [if_neg (λq=>Bool.false_ne_true ((zY (l:=[x,y]) (λz m=>by
  have dz:cy z=false:=(List.mem_cons.mp m).elim (λe=>e▸d5) λm=>List.mem_singleton.mp m▸d6
  cases z<;>first|rfl|cases dz)).symm.trans q))]
 have e1:(env.kindOf a==some .local&&pa.line==pa.line)=true:=by rw [d1];simp
 have e2:(env.kindOf b==some .local&&pb.line==pa.line)=true:=by rw [d2,d3];simp
 have dd:([a,b]:List Str).eraseDups.length=2:=by
  have:(b==a)=false:=beq_eq_false_iff_ne.mpr (Ne.symm d4)
  simp [List.eraseDups_cons,this]
 have z1:(env.kindOf a==some .local&&pa.line==(Option.map (λx=>x.pos.line) [Expr.Name a pa,Expr.Name b pb].head?).getD 0)=true:=e1
 have z2:(env.kindOf b==some .local&&pb.line==(Option.map (λx=>x.pos.line) [Expr.Name a pa,Expr.Name b pb].head?).getD 0)=true:=e2
 rw [List.filterMap_cons_some (b:=a),List.filterMap_cons_some (b:=b),List.filterMap_nil]
 ·rw [if_neg (by rw [dd];simp),if_neg (by rw [d7];simp),if_neg (by rw [d8];simp)]
 ·exact if_pos z2
 ·exact if_pos z1
theorem Nl {c:Cn}{ρ:KV}{l:List Stmt}{x y:Expr}{a b:Str} {pa pb p p' p'':Pos}{n₁ n₂:Nat}(d1:c.sc.names.lookup a=some .local)(d2:c.sc.names.lookup b=some .local)(w1:Fy c.fn (c.sc.names.lookup a)=true)(w2:Fy c.fn (c.sc.names.lookup b)=true)(d3:pb.line=pa.line)(d4:a≠b)(d5:cy x=false)(d6:cy y=false)
  (d7:[x,y].all (foldedForSure 8)=false) (d8:[x,y].all (constantsAlone 8)=false) (k:GE c (.Tuple [x,y] n₁ p') ρ A K X λA₁ K₁ X₁ u=>Nx A A₁ ρ (∃z z',HD c.W A₁ K₁ X₁ u [z,z']∧GS c l (aU a z (aU b z' ρ)) A₁ K₁ X₁ SR)):
  GS c (.Assign [.Tuple [.Name a pa,.Name b pb] n₂ p''] (.Tuple [x,y] n₁ p') p::l) ρ A K X SR:=λB env h Q o I q=>by
 refine eD (SW.eq (arm_exec_Assign ..) (SW.bind (SW.at_ ?_)))
 have s1:swapsWithSole [.Tuple [.Name a pa,.Name b pb] n₂ p''] (.Tuple [x,y] n₁ p') p.line env=pure false:=rfl
 have bk:env.blockKind= .function:=by unfold Env.blockKind;rw [o.fk];rfl
 have s2:swappedStores [.Tuple [.Name a pa,.Name b pb] n₂ p''] (.Tuple [x,y] n₁ p') env=pure (some [a,b]):=DO bk (o.kind.trans d1) (o.kind.trans d2) d3 d4 d5 d6 d7 d8
 rw [s1]
 show SW c.W B env (do
  let u←eval (.Tuple [x,y] n₁ p') env
  assignStores env u (←swappedStores [.Tuple [.Name a pa,.Name b pb] n₂ p''] (.Tuple [x,y] n₁ p') env) ((assignEach [.Tuple [.Name a pa,.Name b pb] n₂ p''] env).map (·.2))) (dT A ρ) h _
 rw [s2]
 refine SW.eb (k o I λA₁ K₁ X₁ u v h' ev I' ⟨ne,z,z',t,r⟩=> ?_)
 refine bq λzq=> ?_
 obtain ⟨ad,ea,h1⟩:=t I'
 apply zq;clear zq
 rw [ah (ev.trans ea)]
 show SW c.W B env (do
  let items←unpackItems (.ref ad) 2 none
  assignInOrder [λv=>bindName env b v,λv=>bindName env a v] items.reverse
  pure Flow.next) (dT A ρ) h' _
 intro fr st F
 refine bq λzq=> ?_
 obtain ⟨ws,hw,ee,_⟩:=ie F.hr h1
 apply zq;clear zq
 have sz:=aX ee
 refine a7 (aT.of ?_)
 have:(2:Nat)=ws.size:=by rw [sz];rfl
 rw [this]
 refine wpAny_unpackItems_tuple o.room.2.2 hw λh₂ hs'=> ?_
 have F₂:FR c.W env fr (dT A ρ) h' {st with heap:=h₂}:=F.keepBut (own:=[]) (tk:=st.toks) (λ_ q=>nomatch q) λb ob _ e=>hs' b ob (Nat.ne_of_lt (Heap.lt_size e)) e
 refine two (P:=λl=>ws.toList=l→_) ee (λw w' e1 e2 hww=> ?_) rfl
 rw [hww]
 have fin:SW c.W B env (do
   (do holding [w] (bindName env b w');(do holding [] (bindName env a w);pure ()))
   pure Flow.next) (dT A₁ ρ) h' (λfl vars' h'=>match fl with
  | .next=>SW c.W B env (execs l env) vars' h' Q
  |f=>Q f vars' h'):=SW.bind (SW.bind (SW.hold (oT o w2 e2 (SW.bind (SW.hold (oT o w1 e1 (SW.pure (SW.pure (r o I' q)))))))))
 rw [ne] at fin
 exact fin fr _ F₂
structure B0 (s:Nat)(K:KS):Prop where
 on:K.on=true
 np:K.np=0
 nf:K.nf=0
 nd:K.nd=0
 nr:K.nr=0
 made:K.made=0
 ps:K.psize=s
 lis:K.lists=none
 wor:K.world=none
 fst:K.first=none
 pid:K.nextPid=1
 opn:K.opn=[]
 tab:K.tab=[]
 proc:∀j,j<6→∃r,K.proc j= .empty r
theorem Hq {sc:VI}(P:B0 s K)(s1:1≤s)(s4:s≤4)(hsc:∀A A',den A' sc=den A sc)(hm:m≤3)(hT:1≤T.length∧T.length≤9)(hb:∃b,K.box=some b)
  (kT:∀A K X ρ,SR A K X (.ret (.bool true)) ρ):GS (cl W (n+11)) (vR 5) (("script",sc)::("cells",.ref .cells)::("box",.ref .box)::("text",.bytes T)::("table",.ref .table)::("many",.int m)::("calls",.ref .calls)::[]) A K X SR:=by
 refine bq λzq=> ?_
 obtain ⟨b,hb⟩:=hb
 apply zq;clear zq
 have on:=P.on
 have pe:∀j,j<6→(K.proc j).state= .unused:=λj hj=>by obtain ⟨r,e⟩:=P.proc j hj;rw [e];rfl
 refine cE rfl rfl (aG (us:=[.str bD]) (aL rfl rfl rfl rfl) rfl (aJ nF (eZ on) rfl) rfl rfl (aw IJ rfl aK) (aM nR (IN (n:=n+9) on ⟨by decide,pe 0 (by decide),λj hj=>absurd hj (Nat.not_lt_zero j)⟩ λr=>⟨rfl,?_⟩)))
 have P1:oY (K.newP 0 r bD):=⟨on,P.lis,P.wor,λi hi=>absurd (show i<K.nr from hi) (by rw [P.nr];exact Nat.not_lt_zero i)⟩
 have p0:(K.newP 0 r bD).proc 0=⟨1,.fresh,none,none,bD,.none,0,0,r⟩:=by
  show upd K.proc 0 ⟨K.nextPid,.fresh,none,none,bD,.none,0,0,r⟩ 0=_
  rw [aj,P.pid]
 refine kh rfl (f8 rfl kj rfl (aw gh rfl aK) (aM ku (rC (n:=n+9) P1 λA' ag=>⟨fK ag ?_,aL rfl rfl rfl rfl,?_⟩)))
 ·refine aA ?_ (aA rfl (aA rfl (aA rfl (aA rfl (aA rfl (aA rfl (aA rfl rfl)))))))
  cases sc with
  |ref x=>exact absurd (hsc (λ_=>0) λ_=>1) nofun
  |_=>rfl
 have nd:(K.newP 0 r bD).nd=0:=P.nd
 have on2:(K.newP 0 r bD).addDesc.on=true:=on
 refine eR (K:=(K.newP 0 r bD).addDesc) (p':=⟨1,.fresh,none,some 0,bD,.none,0,0,r⟩) on2 (by decide) p0 rfl (by rw [nd];rfl) (.inl rfl) (.inl rfl) (.inr λd e=>by cases e;show 0<(K.newP 0 r bD).nd+1;exact Nat.succ_pos _) rfl ?_
 have on3:((K.newP 0 r bD).addDesc.setProc 0 ⟨1,.fresh,none,some 0,bD,.none,0,0,r⟩).on=true:=on
 refine dw rfl (aG (us:=[.ref (.proc 0)]) (aL rfl rfl rfl rfl) rfl (aJ hZ (eZ on3) rfl) rfl rfl (aw (aL rfl rfl rfl rfl) rfl aK) (aM hM (rN (n:=n+10) on3 (by decide) ⟨rfl,?_⟩)))
 rw [aR,b7]
 have PR:Pr T m s 0 0 0 (d0 0) ((K.newP 0 r bD).addDesc.setProc 0 (aa.rdy ⟨1,.fresh,none,some 0,bD,.none,0,0,r⟩)):=by
  refine ⟨on,s1,s4,P.np,P.nf,congrArg (· +1) P.nd,P.nr,P.made,P.ps,P.lis,P.wor,?_,?_,?_,?_,λi hi=>absurd hi (Nat.not_lt_zero i),λi hi=>absurd hi (Nat.not_lt_zero i),λi hi=>absurd hi (Nat.not_lt_zero i),?_,λi hi=>absurd hi (Nat.not_lt_zero i),?_,λi hi=>absurd hi (Nat.not_lt_zero i),λj h1 h2=> ?_,λi hi=>absurd hi (Nat.not_lt_zero i)⟩
  ·show some (K.first.getD 0)=_;rw [P.fst];rfl
  ·show K.nextPid+1=_;rw [P.pid];rfl
  ·show K.opn.length≤_;rw [P.opn];exact Nat.le_refl 0
  ·show K.tab.length≤_;rw [P.tab];exact Nat.le_refl 0
  ·show upd K.desc K.nd (List.replicate 6 none) 0=_;rw [P.nd,aj];rfl
  ·rw [aR];exact ⟨rfl,rfl,rfl,rfl⟩
  ·show (upd (upd K.proc 0 _) 0 _ j).state=_
   rw [av (Nat.ne_of_gt h1),av (Nat.ne_of_gt h1)];exact pe j h2
 have hb4:((K.newP 0 r bD).addDesc.setProc 0 (aa.rdy ⟨1,.fresh,none,some 0,bD,.none,0,0,r⟩)).box=some b:=hb
 generalize (K.newP 0 r bD).addDesc.setProc 0 (aa.rdy ⟨1,.fresh,none,some 0,bD,.none,0,0,r⟩)=K4 at PR hb4
 refine cE rfl rfl (f8 (us:=[.ref .box,.ref .calls,.ref (.proc 0),.bytes T,.int m]) rfl qY rfl (aw (aL rfl rfl rfl rfl) rfl (aw (aL rfl rfl rfl rfl) rfl (aw (aL rfl rfl rfl rfl) rfl (aw (aL rfl rfl rfl rfl) rfl (aw (aL rfl rfl rfl rfl) rfl aK))))) (aM qC (Dj (n:=n+4) PR hm hb4 λA5 K5 e ag5 he P5 B5=>⟨fK ag5 ?_,Gy P5 hsc hm hT B5 he rfl kT⟩)))
 refine aA ?_ (aA rfl (aA rfl (aA rfl (aA rfl (aA rfl (aA rfl (aA rfl rfl)))))))
 cases sc with
 |ref x=>exact absurd (hsc (λ_=>0) λ_=>1) nofun
 |_=>rfl
end
section
variable {W:Wd}{A A':Id→Addr}{K:KS}{X X₀ h:H}{n:Nat}
noncomputable def KZ (b:Option fU):KS:=
 {on:=false,np:=0,nf:=0,nd:=0,nr:=0,psize:=0,made:=0,pipe:=λ_=>⟨0,0,0,[],true,true⟩,file:=λ_=>⟨true,true,0,0⟩,desc:=λ_=>[],proc:=λ_=> .empty 0,row:=λ_=>⟨true,0,.none,.none,[],[],0,0,0⟩,
  tab:=[],opn:=[],openA:=0,nextPid:=1,first:=none,world:=none,lists:=none,box:=b}
noncomputable def KB (s:Nat)(pp:Nat→Addr×Addr×Addr)(oA:Addr)(b:Option fU):KS:=
 {KZ b with on:=true,psize:=s,proc:=λi=> .empty (pp i).2.2,openA:=oA}
theorem Pj {K:KS}(h1:K.np=0)(h2:K.nf=0)(h3:K.nd=0)(h4:K.nr=0)(h5:∀i,(K.proc i).parent=none∧(K.proc i).files=none)(h6:K.first=none)(h7:K.tab=[])(h8:K.opn=[]):K.Wf:=
 ⟨λi h=>absurd h (by rw [h2];exact Nat.not_lt_zero i),λi h=>absurd h (by rw [h3];exact Nat.not_lt_zero i),λi h=>absurd h (by rw [h3];exact Nat.not_lt_zero i),λi _ p e=>(by rw [(h5 i).1] at e;cases e),λi _ p e=>(by rw [(h5 i).2] at e;cases e),λp e=>(by rw [h6] at e;cases e),
  λi h=>(by rw [h7] at h;cases h),(by rw [h7];exact List.nodup_nil),λi h=>(by rw [h8] at h;cases h),λi h=>absurd h (by rw [h1];exact Nat.not_lt_zero i),λi h=>absurd h (by rw [h4];exact Nat.not_lt_zero i)⟩
theorem NE (b:Option fU):(KZ b).Wf:=Pj rfl rfl rfl rfl (λ_=>⟨rfl,rfl⟩) rfl rfl rfl
theorem zU {b:Option fU}(y:Id)(h:∀n,y≠ .st n):(KZ b).ob A y=none:=by
 cases y with
 |st n=>exact absurd rfl (h n)
 |_=>rfl
theorem zW {b:Option fU}{i:Nat}(h:i<15):(KZ b).ob A (.st i)=none:=by
 show ((List.replicate 15 none++(KZ b).sob2 A)[i]?).join=none
 rw [List.getElem?_append_left (by rw [List.length_replicate];exact h),List.getElem?_replicate,if_pos h];rfl
theorem zD {b:Option fU}(i:Nat):(KZ b).ob A (.st (15+i))=((KZ b).sob2 A)[i]?.join:=by
 show ((List.replicate 15 none++(KZ b).sob2 A)[15+i]?).join=_
 rw [List.getElem?_append_right (by rw [List.length_replicate];exact Nat.le_add_right 15 i),List.length_replicate,Nat.add_sub_cancel_left]
theorem Is.zero (hW:W.K=Hd.KK W.w.params):Is W A (KZ none) (λ_=>none) h:=by
 have no:∀y,(KZ none).obj A y=none:=λy=>by
  have:(KZ none).ob A y=none:=by
   by_cases s:∃n,y= .st n
   ·obtain ⟨n,rfl⟩:=s
    by_cases x:n<15
    ·exact zW x
    ·obtain ⟨j,rfl⟩:=Nat.exists_eq_add_of_le (Nat.le_of_not_lt x)
     rw [zD]
     exact mu.six ⟨rfl,rfl,rfl,rfl,rfl,rfl⟩ (λ_=>rfl) j
   ·exact zU y λn e=>s ⟨n,e⟩
  unfold KS.obj;rw [this];rfl
 exact ⟨hW,λx o e=>(by rw [no] at e;cases e),λx y e=>absurd (no x) e,λc o e=>(by cases e),λi _=>trivial,λw e=>(by cases e),NE _⟩
theorem Is.addBox {bx cl:Addr}{b:fU}(I:Is W A (KZ none) X h)(hA:A'=l5 A [(.box,bx),(.cells,cl)])(B:Bs X₀ X [(.box,bx,.list [.ref cl,.int b.k,.int b.s]),(.cells,cl,.list (b.cells.map Mine.V.int))]):Is W A' (KZ (some b)) X₀ h:=by
 have a1:A' .box=bx:=hA▸bY
 have a2:A' .cells=cl:=hA▸(aN (by nofun)).trans bY
 have no:∀n,n≠19→n≠20→(KZ (some b)).ob A' (.st n)=none:=λn h1 h2=>by
  by_cases x:n<15
  ·exact zW x
  ·obtain ⟨j,rfl⟩:=Nat.exists_eq_add_of_le (Nat.le_of_not_lt x)
   rw [zD]
   revert h1 h2
   exact mu.six ⟨λ_ _=>rfl,λ_ _=>rfl,λ_ _=>rfl,λ_ _=>rfl,λh _=>absurd rfl h,λ_ h=>absurd rfl h⟩ (λ_ _ _=>rfl) j
 refine I.adopt B (λy hy=>absurd ?_ hy) (λy o _ ho=> ?_) (λi hi=>rfl) (λw e=>by cases e) (NE _)
 ·have:(KZ none).ob A y=none:=by
   by_cases s:∃n,y= .st n
   ·obtain ⟨n,rfl⟩:=s
    by_cases x:n<15
    ·exact zW x
    ·obtain ⟨j,rfl⟩:=Nat.exists_eq_add_of_le (Nat.le_of_not_lt x)
     rw [zD]
     exact mu.six ⟨rfl,rfl,rfl,rfl,rfl,rfl⟩ (λ_=>rfl) j
   ·exact zU y λn e=>s ⟨n,e⟩
  unfold KS.obj;rw [this];rfl
 ·by_cases s:∃n,y= .st n
  ·obtain ⟨n,rfl⟩:=s
   by_cases h1:n=19
   ·subst h1
    cases ho
    show (Id.box,A' .box,OK.list [.ref (A' .cells),.int b.k,.int b.s])∈_
    rw [a1,a2];exact .head _
   ·by_cases h2:n=20
    ·subst h2
     cases ho
     show (Id.cells,A' .cells,OK.list (b.cells.map Mine.V.int))∈_
     rw [a2];exact .tail _ (.head _)
    ·rw [no n h1 h2] at ho;cases ho
  ·rw [zU y λn e=>s ⟨n,e⟩] at ho;cases ho
noncomputable def bA (A:Id→Addr)(pp:Nat→Addr×Addr×Addr)(l:List Addr):Id→Addr
 | .proc i=>(pp i).1
 | .procD i=>(pp i).2.1
 | .st n=>if n<15 then l.getD n 0 else A (.st n)
 |y=>A y
theorem jN {pp:Nat→Addr×Addr×Addr}{i:Nat}:∀{n:Nat},i<n→(Id.proc i,(pp i).1,OK.inst aB (pp i).2.1)∈gW A pp n∧(Id.procD i,(pp i).2.1,OK.attrs (dT A (lD i (.empty (pp i).2.2))))∈gW A pp n∧(Id.regs i,(pp i).2.2,OK.list (List.replicate 32 (.int 0)))∈gW A pp n
 |0,h=>absurd h (Nat.not_lt_zero i)
 |n+1,h=>by
  by_cases e:i=n
  ·subst e;exact ⟨.head _,.tail _ (.head _),.tail _ (.tail _ (.head _))⟩
  ·refine bq λzq=> ?_
   obtain ⟨a,b,c⟩:=jN (pp:=pp) (Nat.lt_of_le_of_ne (Nat.le_of_lt_succ h) e)
   apply zq;clear zq
   exact ⟨.tail _ (.tail _ (.tail _ a)),.tail _ (.tail _ (.tail _ b)),.tail _ (.tail _ (.tail _ c))⟩
noncomputable def IP (A:Id→Addr)(s:Nat)(pp:Nat→Addr×Addr×Addr)(b:fU) (tb td pl pt ptD ptP ft ftD opl dev dev2 pa paD ca caD:Addr):List (Id×Addr×OK):=
 ((.calls,ca,.inst ae caD)::(.callsD,caD,.attrs (dT A [(pK,.adr pa)]))::(.parts,pa,.inst fH paD)::(.partsD,paD,.attrs (dT A [(uh,.adr tb),(oS,.adr ft),(jH,.none),(tK,.none),(gz,.none),(gA,.adr dev2),(rO,.int 0)]))::(.dev2,dev2,.attrs [])::(.ft,ft,.inst aD ftD)::(.ftD,ftD,.attrs (dT A [(mN,.int 10),(jL,.adr pt),(jH,.none),(gz,.none),(gA,.adr dev),(u3,.int 16),(tM,.adr opl)]))::(.openL,opl,.list [])::(.dev,dev,.attrs [])::(.pt,pt,.inst bf ptD)::(.ptD,ptD,.attrs (dT A [(eC,.int s),(s8,.int 0),(jL,.adr ptP)]))::(.ptP,ptP,.idict [])::(.tableD,td,.attrs (dT A [(l6,.adr pl),(iI,.int 1),(sT,.int 5),(bD,.none),(jK,.none)]))::(.table,tb,.inst aV td)::(.places,pl,.list (dL A ((List.range 6).map λj=> .adr (pp j).1)))::[])
theorem Ij {A:Id→Addr}{s:Nat}{pp:Nat→Addr×Addr×Addr}{b:fU} {tb td pl pt ptD ptP ft ftD opl dev dev2 pa paD ca caD:Addr}:mu (λn=>∀o,((KB s pp opl (some b)).sob1 (bA A pp [tb,td,pl,pt,ptD,ptP,ft,ftD,opl,dev,dev2,pa,paD,ca,caD]))[n]?.join=some o→(Id.st n,(KB s pp opl (some b)).at (bA A pp [tb,td,pl,pt,ptD,ptP,ft,ftD,opl,dev,dev2,pa,paD,ca,caD]) (.st n),o)∈IP A s pp b tb td pl pt ptD ptP ft ftD opl dev dev2 pa paD ca caD) 0 15:=
 ⟨λ_=>cX 13 rfl,λ_=>cX 12 rfl,λ_=>cX 14 rfl,λ_=>cX 9 rfl,λ_=>cX 10 rfl,λ_=>cX 11 rfl,λ_=>cX 5 rfl,λ_=>cX 6 rfl,λ_=>cX 7 rfl,λ_=>cX 8 rfl,λ_=>cX 4 rfl,λ_=>cX 2 rfl,λ_=>cX 3 rfl,λ_=>cX 0 rfl,λ_=>cX 1 rfl,trivial⟩
theorem Is.addBase {s:Nat}{pp:Nat→Addr×Addr×Addr}{b:fU} {tb td pl pt ptD ptP ft ftD opl dev dev2 pa paD ca caD:Addr}(I:Is W A (KZ (some b)) X h)(hA:A'=bA A pp [tb,td,pl,pt,ptD,ptP,ft,ftD,opl,dev,dev2,pa,paD,ca,caD])
  (B:Bs X₀ X (IP A s pp b tb td pl pt ptD ptP ft ftD opl dev dev2 pa paD ca caD++(gW A pp 6++[]))):Is W A' (KB s pp opl (some b)) X₀ h:=by
 subst hA
 have hi:∀i,(KB s pp opl (some b)).ob (bA A pp [tb,td,pl,pt,ptD,ptP,ft,ftD,opl,dev,dev2,pa,paD,ca,caD]) (.st (15+i))=(KZ (some b)).ob A (.st (15+i)):=λi=>by
  rw [zD]
  refine (pO (K:=KB s pp opl (some b)) rfl i).trans ?_
  exact mu.six ⟨rfl,rfl,rfl,rfl,rfl,rfl⟩ (λ_=>rfl) i
 refine I.adopt B (λy hy=> ?_) (λy o hy ho=> ?_) (λi hi=>rfl) (λw e=>by cases e) (Pj rfl rfl rfl rfl (λ_=>⟨rfl,rfl⟩) rfl rfl rfl)
 ·have hy:(KZ (some b)).ob A y≠none:=λe=>hy (congrArg (Option.map OK.o) e)
  by_cases st:∃n,y= .st n
  ·refine bq λzq=> ?_
   obtain ⟨n,rfl⟩:=st
   apply zq;clear zq
   by_cases x:n<15
   ·exact absurd (zW x) hy
   ·obtain ⟨j,rfl⟩:=Nat.exists_eq_add_of_le (Nat.le_of_not_lt x)
    refine ⟨congrArg (Option.map OK.o) (hi j),?_⟩
    have h8:15+j≠8:=by lia
    show (if 15+j=8 then opl else if 15+j=18 then 0 else if 15+j<15 then _ else A (.st (15+j)))=if 15+j=8 then 0 else if 15+j=18 then 0 else A (.st (15+j))
    rw [if_neg h8,if_neg h8,if_neg x]
  ·exact absurd (zU y λn e=>st ⟨n,e⟩) hy
 ·have nn:(KZ (some b)).ob A y=none:=by
   cases q:(KZ (some b)).ob A y with
   |none=>rfl
   |some z=>unfold KS.obj at hy;rw [q] at hy;cases hy
  cases y with
  |st n=>
   by_cases x:n<15
   ·exact List.mem_append_left _ (Ij.get (Nat.zero_le n) (by lia) o ((yW (K:=KB s pp opl (some b)) rfl x).symm.trans ho))
   ·obtain ⟨j,rfl⟩:=Nat.exists_eq_add_of_le (Nat.le_of_not_lt x)
    rw [hi j,nn] at ho;cases ho
  |proc i=>
   obtain ⟨q,e⟩:=Option.ite_none_right_eq_some.mp ho
   cases e
   exact List.mem_append_right _ (List.mem_append_left _ (jN q.2).1)
  |procD i=>
   obtain ⟨q,e⟩:=Option.ite_none_right_eq_some.mp ho
   cases e
   exact List.mem_append_right _ (List.mem_append_left _ (jN q.2).2.1)
  |regs i=>
   obtain ⟨q,e⟩:=Option.ite_none_right_eq_some.mp ho
   cases e
   exact List.mem_append_right _ (List.mem_append_left _ (jN q.2).2.2)
  |_=>cases ho
end
section
variable {W:Wd}{A A':Id→Addr}{K:KS}{X X₀ h:H}{R:SV VI}{SR:oz}{n m:Nat}{T:List UInt8}{sc:VI}
noncomputable def Da (sc:VI)(y:KV):KV:=("script",sc)::("cells",.ref .cells)::("box",.ref .box)::y
theorem GU {b:fU}{X₁:H}{tb td pl:Addr}{pp:Nat→Addr×Addr×Addr}(hsc:∀A A',den A' sc=den A sc)(hm:m≤3)(hT:1≤T.length∧T.length≤9)(B:Bs X₀ X₁ ((.tableD,td,.attrs (dT A [(l6,.adr pl),(iI,.int 1),(sT,.int 5),(bD,.none),(jK,.none)]))::(.table,tb,.inst aV td)::(.places,pl,.list (dL A ((List.range 6).map λj=> .adr (pp j).1)))::(gW A pp 6++[])))
  (kT:∀A K X ρ,SR A K X (.ret (.bool true)) ρ):GS (cl W (n+11)) (vR 4) (Da sc [("text",.bytes T),("table",.adr tb),("many",.int m)]) A (KZ (some b)) X₁ SR:=by
 refine A9 λhW=>cE rfl rfl (qM rfl pI rfl (bS (qM rfl Hi rfl (bL (cR (aL rfl rfl rfl rfl) ⟨rfl,bS (qM rfl vE rfl (bL (cR gh ⟨rfl,bL (qM rfl wh rfl (bS (tj (n':=n+10) rfl rfl rfl rfl rfl λsz s1 s4=>aM nQ (qp (n:=n+9) B λX2 pt ptD ptP B2=>⟨rfl,bL (cR ED ⟨rfl,bL (cR ED ⟨rfl,bL (EI false λdev hdev=>⟨rfl,bS (cR gh ⟨rfl,rfl,rfl,rfl,rfl,?_⟩) rfl⟩) rfl (af rfl λ_=>rfl)⟩) rfl (af rfl (af rfl λ_=>rfl))⟩) rfl (af rfl (af rfl (af rfl λ_=>rfl)))⟩)) rfl) λhp hK=>keeps_K (by rw [hW];exact nQ _) hp hK) rfl (af rfl (af rfl (af rfl (af rfl λ_=>rfl))))⟩) rfl (af rfl (af rfl (af rfl (af rfl (af rfl λ_=>rfl)))))) λhp hK=>keeps_K (by rw [hW];exact nj _) hp hK) rfl⟩) rfl (af rfl λ_=>rfl)) λhp hK=>keeps_K (by rw [hW];exact zR _) hp hK) rfl) λhp hK=>keeps_K (by rw [hW];exact jC _) hp hK)
 refine aM nj (pL (n:=n+9) (B2.put (o:= .attrs []) hdev .dev) λX3 ft ftD opl B3=>⟨rfl,aM zR (yZ (n:=n+9) B3 λX4 pa paD dev2 B4=>aM jC (lU (n:=n+9) B4 λX5 ca caD B5=>⟨rfl,?_⟩))⟩)
 refine zv (A':=bA A pp [tb,td,pl,pt,ptD,ptP,ft,ftD,opl,dev,dev2,pa,paD,ca,caD]) (K':=KB sz pp opl (some {b with k:=b.k+1})) (X':=X₀) (ρ':=Da sc [("text",.bytes T),("table",.ref .table),("many",.int m),("calls",.ref .calls)]) (λh I=>Is.addBase (s:=sz) I rfl B5) ?_ (Hq (s:=sz) ⟨rfl,rfl,rfl,rfl,rfl,rfl,rfl,rfl,rfl,rfl,rfl,rfl,rfl,λj _=>⟨_,rfl⟩⟩ s1 s4 hsc hm hT ⟨_,rfl⟩ kT)
 exact hJ (hsc ..) (hJ rfl (hJ rfl (hJ rfl (hJ rfl (hJ rfl (hJ rfl rfl))))))
end
section
variable {W:Wd}{A A':Id→Addr}{K:KS}{X X₀ h:H}{R:SV VI}{SR:oz}{n m:Nat}{T:List UInt8}{sc:VI}
theorem Dd {c:Cn}{ρ:KV}{bx:fU} {a b k1 k2 k3:Nat} {p p1 p2 p3 p4 p5 p6 p7:Pos}(hb:K.box=some bx)(hv:ρ.lookup ("cells":Str)=some (.ref .cells))(kd:H2 (c.sc.names.lookup ("cells":Str))=true)(hk:c.sc.names.lookup ("len":Str)=some .globalImplicit):
  GV c (.IfExp (.Compare (.Call (.Name "len" p1) [.Name "cells" p2] [] p3) [.Gt] [.Constant (.int 1) k1 p4] p5) (.Constant (.int (a:Nat)) k2 p6) (.Constant (.int (b:Nat)) k3 p7) p) ρ A K X (.int (if 1<bx.cells.length then a else b:Nat)):=by
 refine zy (t:=decide (1<bx.cells.length)) (ap (b8 (ge hk eH rfl (aw (cw hv kd rfl rfl) rfl aK) (jj (wT hb))) gh rfl wO) ?_) (λq=> ?_) λq=> ?_
 ·rw [List.length_map]
  exact decide_eq_decide.mpr ⟨λh=>Int.ofNat_lt.mp h,λh=>Int.ofNat_lt.mpr h⟩
 ·rw [if_pos (of_decide_eq_true q)];exact gh
 ·rw [if_neg (of_decide_eq_false q)];exact gh
theorem yM {a b M:Nat}{p:Prop} [Decidable p] (h1:a≤M)(h2:b≤M):(if p then a else b)≤M:=by split<;>assumption
theorem zp {a b:Nat}{p:Prop} [Decidable p] (h1:0<a)(h2:0<b):0<(if p then a else b):=by split<;>assumption
theorem Jp {b:fU}(hsc:∀A A',den A' sc=den A sc)(hT:1≤T.length∧T.length≤9)(kT:∀A K X ρ,SR A K X (.ret (.bool true)) ρ):GS (cl W (n+11)) (vR 3) (Da sc [("text",.bytes T)]) A (KZ (some b)) X SR:=by
 refine Nl rfl rfl rfl rfl rfl (by decide) rfl rfl rfl rfl (l0 (bL (f8 (us:=[.ref .box,.int (if 1<b.cells.length then 4 else 2:Nat)]) rfl gQ rfl (aw (aL rfl rfl rfl rfl) rfl (aw (Dd (a:=4) (b:=2) rfl rfl rfl rfl) rfl aK)) (aM hD (iL (n:=n+10) rfl (zp (by decide) (by decide)) λv hv=>⟨rfl,bS (f8 rfl I7 rfl (aw gh rfl aK) (aM HB (xU (n:=n+6) Bs.nil λX' a d p pa B=>⟨rfl,Nat.le_of_ble_eq_true rfl,λt ht=>⟨rfl,.int v,.adr a,g5 (us:=[.int v,.adr a]) (H.put_same ..),?_⟩⟩))) rfl⟩))) rfl (af rfl λ_=>rfl)))
 exact GU (b:={b with k:=b.k+1}) hsc (Nat.le_of_lt_succ (Nat.lt_of_lt_of_le hv (yM (by decide) (by decide)))) hT (B.skip ht) kT
theorem Le {b:fU}(hsc:∀A A',den A' sc=den A sc)(kT:∀A K X ρ,SR A K X (.ret (.bool true)) ρ):GS (cl W (n+11)) (vR 2) (Da sc []) A (KZ (some b)) X SR:=by
 refine cE rfl rfl (qM rfl sR rfl (bS (fF (by kernel_rfl) (CC rfl lC rfl (L4 (cR gh ⟨rfl,f8 (us:=[.ref .box,.int (if 1<b.cells.length then 9 else 2:Nat)]) rfl gQ rfl (aw (aL rfl rfl rfl rfl) rfl (aw (Dd (a:=9) (b:=2) rfl rfl rfl rfl) rfl aK)) (aM hD (iL (n:=n+10) rfl (zp (by decide) (by decide)) λv hv=>⟨rfl,.mk (.int (v+1:Nat)) CG ⟨v+1,rfl,?_,rfl,λacc hacc=> ?_⟩⟩))⟩)))) rfl) λhp hK=>⟨_,.inr (.inl rfl),br⟩)
 ·exact Nat.lt_of_le_of_lt (Nat.le_trans hv (yM (M:=9) (by decide) (by decide))) (by decide)
 ·have v9:v<9:=Nat.lt_of_lt_of_le hv (yM (by decide) (by decide))
  refine IQ (N:=v+1) (λk=> .int (65+k)) (λk=> .int k) (Int.toNat_natCast (v+1)) (by lia) (λys h I=>trivial) (λi Z hi RV r=>jq r) rfl rfl (λi ys hi=>j0 gh (aL rfl rfl rfl rfl) gG) ?_
  have e:((List.range (v+1)).map λ(k:Nat)=>VI.int (65+(k:Int)))=((List.range (v+1)).map λ(k:Nat)=>(65+(k:Int))).map .int:=by rw [List.map_map];rfl
  refine JI (KQ (ns:=(List.range (v+1)).map λ(k:Nat)=>(65+(k:Int))) (bR (by rw [H.put_same,e])) λi hi=> ?_) ⟨rfl,Jp (b:={b with k:=b.k+1}) hsc ?_ kT⟩
  ·obtain ⟨k,hk,rfl⟩:=List.mem_map.mp hi
   have:=List.mem_range.mp hk
   lia
  ·rw [List.length_map,List.length_map,List.length_range];lia
theorem NF {a0:Addr}{ns:List Int}(hs:∀h,JK W h a0 (ns.map Mine.V.int))(k:∀A K X,R A K X (.bool true)):GC W (n+12) vN [.adr a0] A (KZ none) (λ_=>none) R:=by
 have hcut:cut (ns.map Mine.V.int) none (some 40)=dL A ((ns.take 40).map .int):=by
  rw [show (some (40:Int))=some ((40:Nat):Int) from rfl,rt,←List.map_take]
  unfold dL;rw [List.map_map];rfl
 refine aH Nv rfl rfl (cE rfl rfl (Ew (aL rfl rfl rfl rfl) Bn (By gh) (λh I=>⟨a0,rfl,hs h⟩) λd cl hd hcl=>⟨rfl,?_⟩))
 rw [hcut]
 have hx:((H.put (λ_=>none) d (.fields "slice" [den A .none,den A (.int 40),.none])).put cl (.list (dL A ((ns.take 40).map .int)))) cl=some (.list (dL A ((ns.take 40).map .int))):=H.put_same ..
 have B:Bs (λ_=>none) ((H.put (λ_=>none) d (.fields "slice" [den A .none,den A (.int 40),.none])).put cl (.list (dL A ((ns.take 40).map .int)))) [(.cells,cl,.list (dL A ((ns.take 40).map .int)))]:=(Bs.nil.skip hd).put (o:= .list (dL A ((ns.take 40).map .int))) hcl .cells
 generalize (H.put (λ_=>none) d (.fields "slice" [den A .none,den A (.int 40),.none])).put cl (.list (dL A ((ns.take 40).map .int)))=X at hx B
 refine cE rfl rfl (gk (gg (us:=[.adr cl,.int 0,.int ((ns.take 40).sum.fmod 997)]) (aw (aL rfl rfl rfl rfl) rfl (aw gh rfl (aw (j0 (ge rfl ID rfl (aw (aL rfl rfl rfl rfl) rfl aK) (IM (bR hx))) gh (tn (by decide))) rfl aK))) ⟨Nat.le_of_ble_eq_true rfl,λbx hbx=>⟨rfl,?_⟩⟩))
 have B2:=B.put (o:= .list (dL A [.adr cl,.int 0,.int ((ns.take 40).sum.fmod 997)])) hbx .box
 have e1:dL A ((ns.take 40).map .int)=(ns.take 40).map Mine.V.int:=by unfold dL;rw [List.map_map];rfl
 rw [e1] at B2
 refine zv (A':=l5 A [(.box,bx),(.cells,cl)]) (K':=KZ (some ⟨ns.take 40,0,(ns.take 40).sum.fmod 997⟩)) (X':=λ_=>none) (ρ':=Da (.adr a0) []) (λh I=>I.addBox (b:=⟨ns.take 40,0,(ns.take 40).sum.fmod 997⟩) rfl B2) ?_ (Le (λ_ _=>rfl) λA K X ρ=>k A K X)
 exact hJ rfl (hJ (congrArg Mine.V.ref ((aN (by nofun)).trans bY)) (hJ (congrArg Mine.V.ref bY) rfl))
end
noncomputable def qv:Program:=view Hd.pw [45]
noncomputable def Nt:List Str:=Hd.pw.boundNames.filter λx=>x !=("law":Str)
noncomputable def NG (P:Params):Frag:=(1,boot_o_1 P)::Hd.KK P
noncomputable abbrev HK:Hook:=kHook NG (1::Hd.KA) (λP=>by kernel_rfl)
theorem Ds:LeftO Hd.pw qv Nt (λs=>xlAt qv [] s&&recOk [] s) (Hook.obs HK) (Hook.val HK) 20000:=
 LeftO.of_pieces (H₀:=boot_heap) (H₁:=Hd.Hf) (gs₀:= #[]) (gs₁:= #[]) (d₀:=boot_drawn) (d₁:=boot_drawn) (k₀:=boot_toks) (k₁:=1373) (m₀:=Hd.m0) (ann:=Hd.annT) (M:=Hd.runSteps)
  (boot_open rfl rfl (λs=>rfl)) (λw=>by kernel_rfl) (λw os=>Hd.h_run w os) rfl (λw=>by kernel_rfl)
theorem xW {p:Program}{w:World}{t:Sem Fin}{s:Shared}{R:Result→Shared→Prop}(hz:s.asleep)
  (h:aT (model p w) callerA t (λfin s'=>∃f,fin= .done f∧R (.ok f) s'∧leftWithCleanup s'.gens=false) s):
  ∃n r s' s'',runN (denote table) p w n s ⟨t,.builtin "claim.caller" {},default,[]⟩= .halted (outcomeOf r) s'∧schedN (denote table) p w n (.single s ⟨t,.builtin "claim.caller" {},default,[]⟩)= .halted (outcomeOf r) s'∧s'.forget=s''.forget∧R r s'':=by
 have hw:=h _ default caller_in (by decide+kernel) (λx hx=>by cases hx)
 refine bq λzq=> ?_
 obtain ⟨n,r,s₁,s₂,a,b,c,d⟩:=wp_halts_full (M:=model p w) (R:=R) (t:=t) (p:=default) hz (Sem.wp_mono (model p w) _ t (λfin p' s' q=>by
  obtain ⟨f,rfl,q⟩:=q
  exact q) (λ_ _ _ q=>q.elim) default s hw)
 apply zq;clear zq
 exact ⟨n,r,s₂,s₁,b,a,c,d⟩
theorem wx {r:OpenRow}{q:Program}{loose:List Str}{Xt:Shared→Bool}{XP:(Str→Option Value)→Heap→Prop}{α:Type}{Yf:Shared→α}{Ya:World→α}{YP:World→Heap→Prop}{d:DefRec}{kwd:List (Str×Expr)}{N:Nat}
  (left:LeftO r.prog q loose Xt Yf Ya N) (hY:∀w s,Yf s=Ya w→YP w s.heap) (hYk:∀w h h',YP w h→(∀b o,h.get? b=some o→h'.get? b=some o)→YP w h')
  (hX:∀s,Xt s=true→XP (s.heap.nsMap mainGlobals) s.heap) (hXk:∀mg h h',XP mg h→(∀b o,h.get? b=some o→h'.get? b=some o)→XP mg h')
  (hdef:defOf q r.name=some (d,kwd)) (hp:r.prog.theDef r.name=some (d.params,d.body,d.scope)) (hk:kwWritten? d.params.kwonlyargs d.params.kw_defaults=some kwd) (hRf:∀s,Xt s=true→RecFacts r.records s.heap) (hwr:(!r.writes||r.records.isEmpty)=true)
  (k1:r.wellSaid=true) (ok1:chainsOk q=true) (ok2:opensWell r.prog=true) (ok3:frees r.toRowW=true) (ok4:r.within=[]) (hb:r.prog.bare) (hw:r.toRowW.promised)
  (call:∀(w:World) (s₀ s₁:Shared) (mg mb:Str→Option Value),Ground q loose r.records XP w s₀ mg mb s₁.heap→YP w s₁.heap→∀(args:List WData) (vs:List Value) (as:List Addr),r.toRowW.claim.pre args=true→WData.layableAll args=true→Laid r.records w s₀ s₁ args vs as→
   ∀f,mg r.name=some f→aT (model r.prog w) callerA (PySem.call f vs []) (λv s'=>GoodWG r.toRowW.claim (classAt s₀.heap) (ExcName.means s₀.heap) args s₁ (.ok (.ret v)) s') s₁):r.Holds:=by
 refine bq λzq=> ?_
 obtain ⟨same,hu,ha,hap,hm⟩:=frees_parts ok3
 apply zq;clear zq
 have id_:=ident_freeW hu ha hap
 refine ⟨k1,hw,⟨⟨hb,ok2,by show r.makers.map _=[];rw [hm];rfl⟩,hw.witness,λw=> ?_⟩⟩
 have bh:=left.behind (XP:=λmg h=>XP mg h∧RecFacts r.records h) (λs hs=>⟨hX s hs,hRf s hs⟩) ok1 w
 refine ⟨bh.1,λs' hs'=> ?_⟩
 refine bq λzq=> ?_
 obtain ⟨s₀,hf,hg0,s,T,hz,g0,hg,G0,y⟩:=bh.2 s' hs'
 obtain ⟨x1,x2⟩:=G0.X
 apply zq;clear zq
 have Gq:Ground q loose [] XP w s (s.heap.nsMap mainGlobals) (s.heap.nsMap builtinsNs) s.heap:=⟨G0.T,G0.B,G0.D,G0.TE,G0.TD,G0.W,x1,G0.cls,G0.has,G0.apart,G0.once,G0.K⟩
 have gn:s.gens= #[]:=Array.eq_empty_of_size_eq_zero (beq_iff_eq.mp g0)
 refine ⟨s₀,hf,hg0,s,T,λn hn=> ?_,x2.1,x2.2.1,λargs pre lay ord hord=> ?_⟩
 ·obtain rfl:n=r.name:=by split at hn<;>simp_all
  exact pinned_of_view hg Gq hdef hp hk
 ·have GR:Ground q loose r.records XP w s _ _ s.heap:=x2.ground Gq
  refine bq λzq=> ?_
  obtain ⟨⟨vs,s₁⟩,laid⟩:=Option.isSome_iff_exists.mp (layAllW_isSome (P:=w.params) (ord:=ord) GR.has args r.args s (pre_splitW pre).1)
  have kp:=layAllW_keeps _ _ _ laid
  have al:=layAllW_rest _ _ _ laid
  obtain ⟨as,rd,inn,old⟩:=reads_layAllW hord _ _ _ laid lay s₁.heap (λ_ _ e=>e)
  have L:Laid r.records w s s₁ args vs as:=⟨⟨ord,hord,laid⟩,rd,inn,old,kp,al.1.trans gn,al.2.2.1⟩
  have G1:=GR.keeps hXk kp
  obtain ⟨a,o,pm,cd,doc,dV,kV,h1,_⟩:=G1.fn hdef
  have go:=call w s s₁ _ _ G1 (hYk _ _ _ (hY w s y) kp) args vs as pre lay L (.ref a) h1
  obtain ⟨k,res,e1,e2,hrun,hsch,fo,hR⟩:=xW (p:=r.prog) (w:=w) (s:=s₁) (t:=do match←nsGet mainNs r.name with
    |some f=>do ret (←PySem.call f vs)
    |none=>unsupported "claim.caller:no-such-global")
   (R:=λx s'=>r.toRowW.claim.Ends s args vs s₁ x s'∧s'.os=s.os∧(r.writes=true→namesKept r.prog r.keeps s.heap s'.heap∧∀x∈r.records,∀a,classAt s.heap x.1=some a→recordClass s'.heap a x.1 (x.2.map (·.1))=true))
   (Shared.asleep_of_life al.2.2.2 hz)
   (a7 (aT.of (wpAny_nsGet G1.T.g (by
    rw [h1]
    exact a7 (a9 go λv s2 gd=>a8 (by
     have z:=gd.laid (c:=r.toRowW.claim) same ok4 id_ L
     exact ⟨_,rfl,⟨z.1,z.2.1,λqq=>⟨namesKept_of T hg r.keeps kp gd.2.1.old,noTable hwr qq⟩⟩,leftWithCleanup_false_of_bare z.2.2⟩))))))
  obtain ⟨R1,R2,R3⟩:=hR
  obtain ⟨eh,_,_,eo,_⟩:=Shared.forget_eq fo
  apply zq;clear zq
  have R1:=R1.congr eh
  have R3:r.writes=true→namesKept r.prog r.keeps s.heap e1.heap∧∀x∈r.records,∀a,classAt s.heap x.1=some a→recordClass e1.heap a x.1 (x.2.map (·.1))=true:=by rw [eh];exact R3
  rw [←eo] at R2
  have life:e1.heap.life=s.heap.life:=(runN_life _ _ _ hrun).trans al.2.2.2
  refine ⟨vs,s₁,laid,k,_,e1,hsch,?_,(λ_ i x hx=>by rw [gn] at hx;simp at hx),R3,by rw [life],Shared.rest_eq R2⟩
  refine bq λzq=> ?_
  rcases R1 with ⟨v,rfl,d1,d2,d3,d4,d5⟩|⟨e,ob,cls,rfl,d1,d2,d3,d4,d5⟩
  ·apply zq;clear zq
   exact .inl ⟨v,rfl,d1,d2,d3,λb o y _=>d4 b o y,d5⟩
  ·apply zq;clear zq
   exact .inr ⟨e,ob,cls,rfl,d1,d2,d3,d4,λb o y _=>d5 b o y⟩
noncomputable abbrev lw:OpenLaw:=PySem.Challenge.rw_pf0218_01
theorem AZ {args:List WData}(h:lw.row.toRowW.claim.pre args=true):∃ns:List Int,args=[.list (ns.map WData.int)]∧ns.length≤63:=by
 refine bq λzq=> ?_
 obtain ⟨a,b⟩:=pre_splitW h
 obtain ⟨d,r,rfl,h1,h2⟩:=hasAllW_cons (show WShape.hasAll [] args [.list .int]=true from a)
 obtain rfl:=hasAllW_nil h2
 obtain ⟨xs,rfl,hx⟩:=hasW_list h1
 apply zq;clear zq
 have allI:∀xs:List WData,WShape.hasItems [] xs .int=true→∃ns:List Int,xs=ns.map WData.int:=by
  intro xs
  induction xs with
  |nil=>exact λ_=>⟨[],rfl⟩
  |cons x xs ih=>
   intro h
   simp only [WShape.hasItems,Bool.and_eq_true] at h
   obtain ⟨i,rfl⟩:=hasW_int h.1
   obtain ⟨ns,rfl⟩:=ih h.2
   exact ⟨i::ns,rfl⟩
 obtain ⟨ns,rfl⟩:=allI xs hx
 refine ⟨ns,rfl,?_⟩
 have b:WTm.holds [] lw.pre {args:=[.list (ns.map WData.int)]}=true:=b
 by_cases q:ns.length≤63
 ·exact q
 ·exfalso
  have lt:(63:Int)<(ns.length:Int):=by lia
  have e:lw.pre= .and (.not (.lt (.lit (.int (63:Nat))) (.len (.arg 0)))) (.lit (.bool true)):=rfl
  rw [e] at b
  simp [WTm.holds,WTm.value] at b
  have l:less? (.int 63) (.int (ns.length:Int))=some true:=by
   show some (decide ((63:Int)<(ns.length:Int)))=some true
   rw [decide_eq_true lt]
  rw [l] at b
  cases b
theorem xm {R:WRecords}{cl:Str→Option Addr}{h:Heap}:∀{ns:List Int}{vs:List Value}{as:List Addr},ReadsAllW R cl h vs (ns.map WData.int) as→vs.map er=ns.map V.int:=by
 intro ns
 induction ns with
 |nil=>intro vs as q;cases q;rfl
 |cons n ns ih=>
  intro vs as q
  cases q with
  |cons a r=>cases a;rw [List.map_cons,List.map_cons,ih r];rfl
noncomputable abbrev Iz:Program:=lw.row.prog
theorem Np:noRoadLSs {strict:= !(importedModules Iz.main.body).all cThrough.contains,foot:=none,bare:=(["vars","dir","locals"]:List Str).filter (readsOut Iz Iz.main.body)} Iz.main.body=true:=by decide+kernel
theorem Lw:namesMeet Iz Iz.main.body (λ_ n=>attrL n)=true:=by decide+kernel
theorem LW:namesResolve Iz=true:=by decide+kernel
theorem Nc:looksOpen Iz=true:=look_both (look_both (look_both (look_both (by decide+kernel) LW) (by decide+kernel)) Np) Lw
theorem Na:lw.row.wellSaid=true:=by
 unfold OpenRow.wellSaid OpenRow.partSaid
 rw [Nc]
 decide+kernel
theorem Pk:(defOf qv lw.row.name).isSome=true:=by decide+kernel
noncomputable def Mi:=(defOf qv lw.row.name).get Pk
theorem I9:lw.row.Holds:=by
 refine wx (d:=Mi.1) (kwd:=Mi.2) (q:=qv) (loose:=Nt) (Xt:=λs=>xlAt qv [] s&&recOk [] s) (XP:=XL qv []) (Yf:=HK.obs) (Ya:=HK.val) (YP:=HK.says) (N:=20000) Ds HK.of HK.keeps (λs e=>xl_of s (Bool.and_eq_true_iff.mp e).1) XL.keeps (Option.some_get Pk).symm (by kernel_rfl) (by kernel_rfl) (λs e=>recFacts_of (Bool.and_eq_true_iff.mp e).2) rfl Na (by decide+kernel) (by decide+kernel) rfl rfl ⟨rfl,rfl,rfl,rfl,rfl,by decide+kernel⟩ ⟨[.list [.int 3,.int 1]],by decide+kernel,by decide+kernel⟩ ?_
 intro w s₀ s₁ mg mb G Y args vs as pre lay L f hf
 obtain ⟨ns,rfl,l63⟩:=AZ pre
 have rd:=L.reads
 have K1:(NG w.params).In s₁.heap:=kIn_of Y
 have no1:(Hd.KK w.params).lookup 1=none:=by kernel_rfl
 have hK:(Hd.KK w.params).In s₁.heap:=λa o e=>K1 a o (by
  unfold NG
  rw [List.lookup_cons]
  have:a≠1:=λq=>by rw [q,no1] at e;cases e
  rw [beq_eq_false_iff_ne.mpr this];exact e)
 have low:s₁.heap.get? sysModules≠none:=by
  have:=K1 1 (boot_o_1 w.params) (by unfold NG;rfl)
  rw [show sysModules=1 from rfl,this];simp
 let W:Wd:=⟨Hd.pw,w,s₁.heap,s₁.os,Hd.KK w.params,hK,mg,mb,G.T.g,G.T.b,G.T.nolimit,G.T.builtins,low⟩
 have hf':mg ("law":Str)=some (.ref vN):=PySem.W.mg_of W.hK W.g (by kernel_rfl)
 have:f= .ref vN:=by
  have:=hf.symm.trans hf'
  simpa using this
 subst this
 cases rd with
 | @cons v vs' _ _ as' bs' r1 r2=>
  cases r2 with
  |nil=>
   cases r1 with
   | @list a o xs n ds as2 h1 h2 h3 h4=>
    have er1:=xm h4
    have hs:∀h,JK W h a (ns.map V.int):=λ_=> .inr ⟨xs,⟨o,h1,h2,n,h3⟩,er1,by simp;lia⟩
    have R0:HR W (λa=>s₁.heap.get? a) (λ_=>none) s₁:=⟨λ_ _ e=>e,λ_ _ e=>e,(λ_ _ e=>by cases e),L.gens,rfl,Nat.le_refl _⟩
    refine ik (fb (NF (W:=W) (A:=λ_=>0) (n:=1) (R:=λ_ _ _ u=>u= .bool true) hs (λ_ _ _=>rfl) (Q:=λx _=>x= .bool true) (Is.zero rfl) (λA₁ K₁ X₁ u h' _ e=>by rw [e];rfl) callerA _ s₁ [.ref a] ⟨by decide+kernel,by decide+kernel,rfl⟩ R0 rfl) ?_)
    rintro r s' ⟨v,hp',rfl,R',q⟩
    have ev:v= .bool true:=sP q
    subst ev
    refine ⟨.bool true,rfl,.inl ⟨.bool true,.bool true,[],rfl,λ_=>rfl,.bool true,?_,λ_=>⟨List.nodup_nil,λ_ hx=>by cases hx⟩⟩,OldK.of_keep λb o e=>R'.keep b o e,R'.os,.of_eq R'.gens⟩
    show (WShape.has [] (.bool true) .bool&&WTm.holds [] (.eq .res (.lit (.bool true))) {args:=[.list (ns.map WData.int)],res:=some (.bool true),after:=_})=true
    have e1:WShape.has [] (.bool true) .bool=true:=by decide+kernel
    have e2:same (.bool true) (.bool true)=true:=same_self _
    rw [e1]
    show (match some (WData.bool (same (.bool true) (.bool true))) with|some (.bool true)=>true|_=>false)=true
    rw [e2]
theorem PySem_holds:PySem.Challenge.rw_pf0218_01.Holds:=holds_law (by
  unfold OpenLaw.wellSaid
  rw [Na]
  decide+kernel) λ_=>I9
end Mine
theorem PySem.Challenge.cw_pf0218_01_holds : PySem.Challenge.rw_pf0218_01.Holds :=
 Mine.PySem_holds
