import PyProof.Rows.All
import Wide.All
import OpenK.AllK
import Wide.FinOn
import KE.KFromBytes
import KE.KLcTest
import KE.BytesK
import KE.KEqSeq
import KE.BytesMake
import KE.KxBytes
import KE.KTurns
import KE.BitLaws
import Lean
import PySem.Challenge.RW_nu0167_01
set_option compiler.extract_closed false
set_option Elab.async false
open PySem PySem.W PySem.Calls PySem.Spec PyProof.Rows
namespace Mine
section
set_option Elab.async false
set_option maxRecDepth 100000
def KeepBut (adr:List Addr) (h h':Heap):Prop:=∀ b o,h.get? b=some o→b∉adr→h'.get? b=some o
theorem KeepBut.refl (adr:List Addr) (h:Heap):KeepBut adr h h:=fun _ _ e _=>e
theorem KeepBut.trans {adr:List Addr} {h h' h'':Heap} (x:KeepBut adr h h') (y:KeepBut adr h' h''):KeepBut adr h h'':=fun b o e n=>y b o (x b o e n) n
theorem keepBut_of {H g h:Heap} {L:Addr} {m:Str→Option Value} {adr:List Addr} (G:GSub H g adr) (F:Fr g L h m):KeepBut adr H h:=fun b o e n=>F.keep b o (G b o e n)
theorem KeepBut.list {adr:List Addr} {h h':Heap} (k:KeepBut adr h h') {l:Addr} {its:Array Value} (x:h.IsList l its) (n:l∉adr):h'.IsList l its :=
  let ⟨o,ho,r⟩:=x;⟨o,k l o ho n,r⟩
theorem GSub.list {h g:Heap} {adr:List Addr} (k:GSub h g adr) {l:Addr} {its:Array Value} (x:h.IsList l its) (n:l∉adr):g.IsList l its :=
  let ⟨o,ho,r⟩:=x;⟨o,k l o ho n,r⟩
theorem allLt_ne {d:Addr}:∀ {l:List (Addr×Obj)},AllLt d l→∀ p∈l,p.1≠d
  | [],_,_,h=>nomatch h
  | _::_,h,p,hp=>by
    rcases List.mem_cons.mp hp with rfl|hp
    · exact Nat.ne_of_lt h.1
    · exact allLt_ne h.2 p hp
theorem allLt_ne2 {d:Addr} {l:List (Addr×Obj)} {a:Prop} (h:a∧AllLt d l):∀ p∈l,p.1≠d:=allLt_ne h.2
theorem allLt_ne3 {d:Addr} {l:List (Addr×Obj)} {a b:Prop} (h:a∧b∧AllLt d l):∀ p∈l,p.1≠d:=allLt_ne h.2.2
theorem allLt_ne4 {d:Addr} {l:List (Addr×Obj)} {a b c:Prop} (h:a∧b∧c∧AllLt d l):∀ p∈l,p.1≠d:=allLt_ne h.2.2.2
theorem allLt_ne5 {d:Addr} {l:List (Addr×Obj)} {a b c e:Prop} (h:a∧b∧c∧e∧AllLt d l):∀ p∈l,p.1≠d:=allLt_ne h.2.2.2.2
def Off (a:Addr):List Addr→Prop
  | []=>True
  | b::r=>@Ne Nat a b∧Off a r
theorem Off.not_mem {a:Addr}:∀ {l:List Addr},Off a l→a∉l
  | [],_,h=>nomatch h
  | _::_,⟨n,r⟩,h=>by
    rcases List.mem_cons.mp h with e|h
    · exact n e
    · exact r.not_mem h
inductive Rest (adr:List Addr):List (Addr×Obj)→List (Addr×Obj)→Prop
  | nil:Rest adr [] []
  | keep {p l r}:Off p.1 adr→Rest adr l r→Rest adr (p::l) (p::r)
  | drop {p l r}:Rest adr l r→Rest adr (p::l) r
  | all {l}:(∀ p∈l,p.1∉adr)→Rest adr l l
theorem Rest.mem {adr:List Addr}:∀ {l r:List (Addr×Obj)},Rest adr l r→∀ p∈r,p∈l∧p.1∉adr
  | _,_,.nil,_,h=>nomatch h
  | _,_,.keep o r,p,h=>by
    rcases List.mem_cons.mp h with rfl|h
    · exact ⟨.head _,o.not_mem⟩
    · exact ⟨.tail _ (r.mem p h).1,(r.mem p h).2⟩
  | _,_,.drop r,p,h=>⟨.tail _ (r.mem p h).1,(r.mem p h).2⟩
  | _,_,.all k,p,h=>⟨h,k p h⟩
theorem rejoin {h₀ h h':Heap} {L:Addr} {big own rest:List (Addr×Obj)} {adr:List Addr} (N:News h₀ L h big) (K:KeepBut adr h h') (N':News h₀ L h' own) (R:Rest adr big rest):News h₀ L h' (own++rest):=by
  intro p hp
  rcases List.mem_append.mp hp with hp|hp
  · exact N' p hp
  · obtain ⟨a,b⟩:=R.mem p hp
    exact ⟨K _ _ (N p a).1 b,(N p a).2⟩
theorem newsKeep {h₀ h h':Heap} {L:Addr} {big:List (Addr×Obj)} (N:News h₀ L h big) (K:KeepBut [] h h'):News h₀ L h' big:=fun p hp=>⟨K _ _ (N p hp).1 (fun h=>nomatch h),(N p hp).2⟩
theorem news_sub {h₀ h:Heap} {L:Addr} {big own:List (Addr×Obj)} (N:News h₀ L h big) (hs:∀ p∈own,p∈big):News h₀ L h own:=fun p hp=>N p (hs p hp)
section
variable {prog:Program} {w:World} {A₀ A:Around} {s:Shared} {base h₀:Heap} {outer:List Env} {L:Addr} {m:Str→Option Value} {env:Env} {news:List (Addr×Obj)} {K:Frag} {p:Program} {loose:List Str} {mean:ExcName→Option Value} {mg mb:Str→Option Value}
  {R:Result→Shared→Prop} {name qual:Str} {params:Arguments} {body:List Stmt} {scope:Scope} {dV kV doc pm cdv ct oc:Value} {an od:Option Addr} {osl:Array (Option Value)} {f:Addr} {args:Args} {binds:List (Str×Value)}
theorem gsub_hide (h:Heap) (adr:List Addr):GSub h (hideAll h adr) adr:=fun _ _ e n=>hideAll_get _ e n
theorem enter_cells (B:Below A₀ base outer h₀) (F:Fr h₀ L s.heap m) (X₀:K.In h₀) (N:News h₀ L s.heap news) (T:Top p loose mean mg mb h₀) (hA:A.frames=some (env::outer)) (hf:env.frame=some L) (hke:env.scope.kind=.function)
    (ho:K.lookup f=some ⟨oc,od,.func (fnOf name qual params body scope dV kV doc pm an cdv ct),osl⟩) (hcd:codeIn K cdv qual=true) (hroom:A.depth<recursionLimit)
    (hbind:BindsTo s (fnOf name qual params body scope dV kV doc pm an cdv ct) args binds) (hkind:(binds.all fun y=>scope.names.lookup y.1 == some .local || scope.names.lookup y.1 == some .cell)=true)
    (hnd:((cellsFrom 0 scope.names []).map (·.1)).Nodup)
    (h:∀ g L' h₁ tk cells,Fr h₀ L g m→Fr g L' h₁ (bindL (envOfC qual scope L' f cdv).kindOf binds fun _=>none)→News g L' h₁ (cells++news) →
      CellsAre (bindC (envOfC qual scope L' f cdv).kindOf binds fun _=>none) (cellsFrom (L'+1) scope.names []) cells→Below A base (env::outer) g→K.In g→Top p loose mean mg mb g→(∀ p∈news,p.1<L')→GSub s.heap g (news.map (·.1)) →
      wpAny (model prog w) (A.deeper (envOfC qual scope L' f cdv)) (execs body (envOfC qual scope L' f cdv))
        (fun fl s'=>LeaveK h₀ L m g R (match fl with|.ret v=>v|_=>.none) s')
        (fun e s'=>wpAny (model prog w) (A.deeper (envOfC qual scope L' f cdv)) (leaving (envOfC qual scope L' f cdv) e) (fun _ s''=>R (.error e) s'') (fun e' s''=>R (.error e') s'') s')
        {s with heap:=h₁,toks:=tk})
    (hco:scope.isCoroutine=false) (hgen:scope.isGenerator=false) (hk:scope.kind=.function):codeAny (model prog w) A (.call (.ref f) args) R s:=by
  obtain ⟨FG,BG,st,lv⟩:=groundX (R:=R) B F N hA hf hke
  refine codeAny_call_function hroom ((X₀.keeps F.keep) _ _ ho) rfl hco hgen rfl (codeRec_of (X₀.keeps F.keep) hcd) (hbind _ _ _ _ ?_)
  refine wpAny_newFunctionEnv_cells hk (kindsX hkind _) fun env' he s' x=>?_
  subst he
  refine ⟨(T.nolimit.keeps F.keep).keeps x.toInCall.keep,codeAny_func ?_⟩
  obtain ⟨h₁,tk,rfl,_⟩:=x.done
  have hk₁:=x.toInCall.keep
  obtain ⟨cells,NC,Y⟩:=Cl.news (h₀:=s.heap) (Nat.le_refl _) fun n c hm=>⟨x.cell n c (lookup_of_mem_nodup (cellsFrom_names scope.names 0 (s.heap.objs.size+1) [] [] rfl ▸ hnd) hm),x.above n c hm⟩
  refine wpAny_mono (h _ s.heap.objs.size h₁ tk cells FG ⟨x.toInCall.ns,fun b o e=>hk₁ b o (of_hideAll _ e),Nat.le_of_eq (hideAll_size _ _)⟩ (fun p hp=>?_) Y BG (X₀.keeps st) (T.keeps st) (fun p hp=>Heap.lt_size (N p hp).1) (gsub_hide _ _)) (fun fl s' hl=>lv _ _ hl) fun _ _ y=>y
  rcases List.mem_append.mp hp with hp|hp
  · refine ⟨(NC p hp).1,(NC p hp).2.1, ?_⟩
    cases q:(hideAll s.heap (news.map (·.1))).get? p.1 with
    | none=>rfl
    | some o=>have:=of_hideAll _ q;rw [(NC p hp).2.2] at this;cases this
  · exact ⟨hk₁ _ _ (N p hp).1,Nat.ne_of_lt (Heap.lt_size (N p hp).1),hideAll_none _ (List.mem_map_of_mem hp)⟩
end
theorem gen_toks {M:Model} {A:Around} {st:Stmt} {rest:List Stmt} {env:Env} {Q:Flow→Shared→Prop} {E:PySem.Value→Shared→Prop} {h:Heap} {g:Array GenState} {d:Drawn} {o:OsState} {t:Nat}
    (k:∀ tk,wpAny M A (execs (st::rest) env) Q E {heap:=h,gens:=g,drawn:=d,toks:=tk,os:=o}):wpAny M A (execs (st::rest) env) Q E {heap:=h,gens:=g,drawn:=d,toks:=t+1,os:=o}:=k _
theorem room0 {d n l:Nat} (h:d+n<l):d<l:=Nat.lt_of_le_of_lt (Nat.le_add_right d n) h
theorem room1 {d a n l:Nat} (h:d+n<l) (e:a≤n):d+a<l:=Nat.lt_of_le_of_lt (Nat.add_le_add_left e d) h
theorem room2 {d a b n l:Nat} (h:d+n<l) (e:a+b≤n):d+a+b<l:=by rw [Nat.add_assoc];exact room1 h e
theorem room3 {d a b c n l:Nat} (h:d+n<l) (e:a+(b+c)≤n):d+a+b+c<l:=by rw [Nat.add_assoc (d+a)];exact room2 h e
end
section
def U {α β:Type} (f:α→β→Prop) (c:α×β):Prop:=f c.1 c.2
noncomputable def pick {α:Type} (P:α→Prop) (d:α):α:=@Classical.epsilon α ⟨d⟩ P
theorem pick_all {α:Type} {d:α} {P:α→Prop} (k:¬ P (pick P d)) (c:α) (h:P c):False :=
  k (@Classical.epsilon_spec α P ⟨c,h⟩)
noncomputable def df {α:Type} [i:Inhabited α]:α:=i.default
noncomputable def sW:World:=⟨fun _ _=>0,{strHash:=fun _=>0,shareClass:=fun _=>0,mergeTok:=fun _=>0,idOf:=fun _=>0,idOfShared:=fun _ _=>0,followText:=fun _=>false,idOfImm:=fun _=>0}⟩
end
section
set_option Elab.async false
set_option maxRecDepth 100000
set_option linter.unusedVariables false
set_option maxHeartbeats 4000000
def decCode:Code→Bool
  | .builtin id _=>Builtin.Bytes.decodersThatHold.contains id
  | _=>false
def GoodB (Γ:PySem.Ctx):Prop:=∀ x∈Γ.below,decCode x.1=false
def GoodC (Γ:PySem.Ctx):Prop:=decCode Γ.code=false∧GoodB Γ
def wpG {α:Type} (M:Model) (A:Around) (t:Sem α) (Q:α→Shared→Prop) (E:Value→Shared→Prop) (s:Shared):Prop :=
  ∀ Γ p,Γ.In A→GoodC Γ→Sem.wp M Γ t (fun a _ s'=>Q a s') (fun e _ s'=>E e s') p s
def codeG (M:Model) (A:Around) (c:Code) (R:Result→Shared→Prop) (s:Shared):Prop :=
  ∀ Γ p,Γ.code=c→Γ.Below A→GoodB Γ→wpCode M Γ R p s
def expF (a:Addr) (x:Code×Pos):Bool:=match x with
      | (.builtin "bytearray.__contains__" ⟨v::_,_⟩,_)|(.builtin "bytearray.__mod__" ⟨v::_,_⟩,_)
      | (.builtin "bytearray.__rmod__" ⟨_::v::_,_⟩,_)|(.builtin "_struct.pack_into.held" ⟨v::_,_⟩,_)=>Builtin.Bytes.sameRef v (.ref a)
      | (.builtin "bytearray.find.held" ⟨_::_::held,_⟩,_)=>held.any (Builtin.Bytes.sameRef (.ref a))
      | (.builtin id ⟨v::_,_⟩,_)=>Builtin.Bytes.sameRef v (.ref a) && Builtin.Bytes.decodersThatHold.contains id
      | _=>false
theorem exp_no {a:Addr} {x:Code×Pos} (hd:decCode x.1=false) (hg:x.1.isGuard=false):expF a x=false:=by
  obtain ⟨c,p⟩:=x
  cases c with
  | builtin id st =>
    have g:∀ n,guardIds.contains n=true→id≠n:=fun n hn e=>by
      subst e
      exact absurd hg (by show ¬ (guardIds.contains id=false);rw [hn];exact Bool.noConfusion)
    delta expF expF.match_1 expF._sparseCasesOn_1
    dsimp only
    refine (dif_neg (g "bytearray.__contains__" (by decide))).trans ?_
    refine (dif_neg (g "bytearray.__mod__" (by decide))).trans ?_
    refine (dif_neg (g "bytearray.__rmod__" (by decide))).trans ?_
    refine (dif_neg (g "_struct.pack_into.held" (by decide))).trans ?_
    refine (dif_neg (g "bytearray.find.held" (by decide))).trans ?_
    have hd':Builtin.Bytes.decodersThatHold.contains id=false:=hd
    obtain ⟨pos,kw⟩:=st
    cases pos with
    | nil=>rfl
    | cons v r=>exact (congrArg (Builtin.Bytes.sameRef v (.ref a) && ·) hd').trans (Bool.and_false _)
  | _=>rfl
section
variable {α β:Type} {M:Model} {A:Around} {E:Value→Shared→Prop} {s:Shared} {env:Env}
theorem wpG_of {t:Sem α} {Q:α→Shared→Prop} (h:wpAny M A t Q E s):wpG M A t Q E s:=fun Γ p hΓ _=>h Γ p hΓ
theorem codeG_of {c:Code} {R:Result→Shared→Prop} (h:codeAny M A c R s):codeG M A c R s:=fun Γ p hc hΓ _=>h Γ p hc hΓ
theorem wpG_pure {a:α} {Q:α→Shared→Prop} (h:Q a s):wpG M A (pure a) Q E s:=wpG_of (wpAny_pure h)
theorem wpG_mono {t:Sem α} {Q Q':α→Shared→Prop} {E':Value→Shared→Prop} (h:wpG M A t Q E s)
    (hQ:∀ a s,Q a s→Q' a s) (hE:∀ e s,E e s→E' e s):wpG M A t Q' E' s :=
  fun Γ p hΓ g=>Sem.wp_mono M Γ t (fun a _ s=>hQ a s) (fun e _ s=>hE e s) p s (h Γ p hΓ g)
theorem wpG_bind {m:Sem α} {f:α→Sem β} {Q:β→Shared→Prop} (h:wpG M A m (fun a s'=>wpG M A (f a) Q E s') E s) :
    wpG M A (m >>= f) Q E s:=fun Γ p hΓ g=>by
  rw [Sem.wp_bind']
  exact Sem.wp_mono M Γ m (fun a p' s' h'=>h' Γ p' hΓ g) (fun _ _ _ h'=>h') p s (h Γ p hΓ g)
theorem wpG_bindA {m:Sem α} {f:α→Sem β} {Q:β→Shared→Prop} (h:wpAny M A m (fun a s'=>wpG M A (f a) Q E s') E s) :
    wpG M A (m >>= f) Q E s:=wpG_bind (wpG_of h)
theorem wpG_onRaise {m:Sem α} {k:Value→Sem Unit} {Q:α→Shared→Prop}
    (h:wpG M A m Q (fun e s'=>wpAny M A (k e) (fun _ s''=>E e s'') E s') s):wpG M A (m.onRaise k) Q E s:=fun Γ p hΓ g=>by
  rw [Sem.wp_onRaise]
  exact Sem.wp_mono M Γ m (fun _ _ _ h'=>h') (fun e p' s' h'=>h' Γ p' hΓ) p s (h Γ p hΓ g)
theorem wpG_attempt {m:Sem α} {Q:Except Value α→Shared→Prop} (h:wpG M A m (fun a=>Q (.ok a)) (fun e=>Q (.error e)) s) :
    wpG M A m.attempt Q E s:=fun Γ p hΓ g=>by rw [Sem.wp_attempt];exact h Γ p hΓ g
theorem wpG_tryCatch {m:Sem α} {k:Value→Sem α} {Q:α→Shared→Prop} (h:wpG M A m Q (fun e s'=>wpAny M A (k e) Q E s') s) :
    wpG M A (tryCatch m k) Q E s:=fun Γ p hΓ g=>by
  rw [Sem.wp_tryCatch']
  exact Sem.wp_mono M Γ m (fun _ _ _ h'=>h') (fun e p' s' h'=>h' Γ p' hΓ) p s (h Γ p hΓ g)
theorem wpG_holding {vs:List Value} {m:Sem α} {Q:α→Shared→Prop} (h:wpG M A m Q E s):wpG M A (holding vs m) Q E s :=
  fun Γ p hΓ g=>by rw [Sem.wp_holding];exact h Γ p hΓ g
theorem good_enter {Γ:PySem.Ctx} (g:GoodC Γ) (c:Code) (h:Option Value) (p:Pos):GoodB (Γ.enter c h p):=fun x hx=>by
  have hx':x∈(Γ.code,p)::Γ.below:=hx
  rcases List.mem_cons.mp hx' with rfl|hx'
  · exact g.1
  · exact g.2 x hx'
theorem wpG_run {c:Code} {h:Option Value} {Q:Flow→Shared→Prop}
    (hc:codeG M (A.mark h) c (fun r s'=>match r with|.ok f=>Q f s'|.error e=>E e s') s) (hnb:h≠some byPass:=by intro x;cases x) :
    wpG M A (run c h) Q E s :=
  fun Γ p hΓ g=>by rw [Sem.wp_run];exact hc _ p rfl (hΓ.enter c h p hnb) (good_enter g c h p)
theorem wpG_runValue {c:Code} {Q:Value→Shared→Prop}
    (hc:codeG M A c (fun r s'=>match r with|.ok (.ret v)=>Q v s'|.ok _=>False|.error e=>E e s') s) :
    wpG M A (runValue c) Q E s:=fun Γ p hΓ g=>by rw [Sem.wp_runValue];exact hc _ p rfl (hΓ.enter c none p (by intro x;cases x)) (good_enter g c none p)
theorem wpG_call {f:Value} {pos:List Value} {kw:List (Str×Value)} {Q:Value→Shared→Prop}
    (hc:codeG M A (.call f ⟨pos,kw⟩) (fun r s'=>match r with|.ok (.ret v)=>Q v s'|.ok _=>False|.error e=>E e s') s) :
    wpG M A (call f pos kw) Q E s:=wpG_runValue hc
theorem codeG_mono {c:Code} {R R':Result→Shared→Prop} (h:codeG M A c R s) (hR:∀ r s,R r s→R' r s):codeG M A c R' s :=
  fun Γ p hc hΓ g=>wpCode_mono hR (h Γ p hc hΓ g)
theorem codeG_of_tree {c:Code} {R:Result→Shared→Prop} (hdc:decCode c=false)
    (h:wpG M (A.under c) (M.den c) (fun fin s'=>match fin with|.done f=>R (.ok f) s'|.again c'=>c'.quiet=true∧codeG M A c' R s')
      (fun e s'=>R (.error e) s') s):codeG M A c R s:=fun Γ p hc hΓ g=>by
  rw [wpCode_iff_wp,hc]
  refine Sem.wp_mono M Γ _ (fun fin p' s' h'=>?_) (fun _ _ _ h'=>h') p s (h Γ p (hc ▸ hΓ.in) ⟨by rw [hc];exact hdc,g⟩)
  cases fin with
  | done f=>exact h'
  | again c'=>exact ⟨h'.1,h'.2 (Γ.goto c') p' rfl (hΓ.goto c') g⟩
theorem codeG_loop {c:Code} {R:Result→Shared→Prop} (hdc:decCode c=false) (hq:c.quiet=true) (I:Nat→Shared→Prop)
    (turn:∀ n s,I n s→wpG M (A.under c) (M.den c)
      (fun fin s'=>match fin with|.done f=>R (.ok f) s'|.again c'=>c'=c∧∃ m,m<n∧I m s') (fun e s'=>R (.error e) s') s)
    (n:Nat) (h:I n s):codeG M A c R s:=by
  induction n using Nat.strongRecOn generalizing s with
  | ind n ih =>
    refine codeG_of_tree hdc (wpG_mono (turn n s h) (fun fin s' hf=>?_) fun _ _ h'=>h')
    cases fin with
    | done f=>exact hf
    | again c'=>obtain ⟨rfl,m,hm,hI⟩:=hf;exact ⟨hq,ih m hm hI⟩
theorem wpG_exported {a:Addr} {Q:Bool→Shared→Prop} (hg:A.guards=some []) (h:Q false s):wpG M A (Builtin.Bytes.exported (.ref a)) Q E s:=fun Γ p hΓ g=>by
  have key:∀ l:List (Code×Pos),(∀ x∈l,decCode x.1=false)→guardsOf l=[]→(l.any (expF a))=false:=by
    intro l hl hgu
    rw [List.any_eq_false]
    intro x hx
    have hgx:x.1.isGuard=false:=by
      cases q:x.1.isGuard with
      | false=>rfl
      | true =>
        have:x.1∈guardsOf l:=List.mem_filter.mpr ⟨List.mem_map_of_mem hx,q⟩
        rw [hgu] at this;cases this
    exact ne_true_of_eq_false (exp_no (hl x hx) hgx)
  have e:=key ((Γ.code,p)::Γ.below) (fun x hx=>by
    rcases List.mem_cons.mp hx with rfl|hx
    · exact g.1
    · exact g.2 x hx) (by rw [guardsOf_cons];exact hΓ.2.2.2.1 _ hg)
  have h2:=h
  rw [← e] at h2
  exact h2
end
end
section
set_option Elab.async false
set_option maxRecDepth 100000
set_option linter.unusedVariables false
set_option maxHeartbeats 4000000
def Γ₀:PySem.Ctx:=⟨.builtin "claim.caller" {},none,none,[],none⟩
theorem good₀:GoodC Γ₀:=⟨by decide +kernel,fun x hx=>nomatch hx⟩
def EndG (r:RowW) (s₀ s₁:Shared) (args:List WData) (x:Result) (s':Shared):Prop:=GoodWG r.claim (classAt s₀.heap) (ExcName.means s₀.heap) args s₁ x s'
abbrev WalkG (q:Program) (loose:List Str) (XP:(Str→Option Value)→Heap→Prop) (YP:World→Heap→Prop) (r:RowW) (d:DefRec) (kwd:List (Str×Expr)):Prop :=
  ∀ (w:World) (s₀ s₁:Shared) (mg mb:Str→Option Value),Ground q loose r.records XP w s₀ mg mb s₁.heap→YP w s₁.heap→∀ (a:Addr) (o:Obj) (pm cd doc dV kV:Value),s₁.heap.get? a=some o →
    o.data=.func {docDef d.name d.params d.body d.scope pm cd doc with defaults:=dV,kwdefaults:=kV}→s₁.heap.CodeRec cd d.name→Dflts mg s₁.heap d.params kwd dV kV→mg d.name=some (.ref a)→s₁.gens=#[] →
    ∀ (args:List WData) (vals:List Value) (as:List Addr),r.claim.pre args=true→WData.layableAll args=true→ReadsAllW r.records (classAt s₀.heap) s₁.heap vals args as→WellAll w.params s₁.heap vals args→(∀ a∈as,(a == sysModules)=false) →
      wpG (model r.prog w) callerA (PySem.call (.ref a) vals) (fun v=>EndG r s₀ s₁ args (.ok (.ret v))) (fun e=>EndG r s₀ s₁ args (.error e)) s₁
theorem thread_G {prog:Program} {w:World} {name:Str} {f:Value} {vs:List Value} {s:Shared} {mg:Str→Option Value} {P:Result→Shared→Prop} (hz:s.asleep) (hg:s.heap.Ns mainGlobals mg) (hf:mg name=some f)
    (h:wpG (model prog w) callerA (PySem.call f vs) (fun v=>P (.ok (.ret v))) (fun e=>P (.error e)) s) (hb:∀ r s',P r s'→AllBare s'.gens) :
    let t:Thread:=⟨(do match ← nsGet mainNs name with
      | some f=>do ret (← PySem.call f vs)
      | none=>unsupported "claim.caller:no-such-global" : Sem Fin),.builtin "claim.caller" {},default,[]⟩
    ∃ n r s₂ s₁,runN (denote table) prog w n s t=.halted (outcomeOf r) s₂∧schedN (denote table) prog w n (.single s t)=.halted (outcomeOf r) s₂∧s₂.forget=s₁.forget∧P r s₁:=by
  have key:wpG (model prog w) callerA (do match ← nsGet mainNs name with
      | some f=>do ret (← PySem.call f vs)
      | none=>unsupported "claim.caller:no-such-global" : Sem Fin) (fun fin s'=>∃ v,fin=.done (.ret v)∧P (.ok (.ret v)) s') (fun e s'=>P (.error e) s') s:=by
    refine wpG_bindA (wpAny_nsGet hg ?_)
    rw [hf]
    exact wpG_bind (wpG_mono h (fun v s' x=>wpG_pure ⟨v,rfl,x⟩) fun _ _ x=>x)
  obtain ⟨n,r,s₁,s₂,hs,hn,hfo,hR⟩:=wp_halts_full (M:=model prog w) (R:=P) hz
    (Sem.wp_mono (model prog w) Γ₀ _ (fun fin p' s' x=>by obtain ⟨v,rfl,y⟩:=x;exact ⟨y,leftWithCleanup_false_of_bare (hb _ _ y)⟩) (fun e p' s' x=>⟨x,leftWithCleanup_false_of_bare (hb _ _ x)⟩) default s (key Γ₀ default caller_in good₀))
  exact ⟨n,r,s₂,s₁,hn,hs,hfo,hR⟩
theorem of_pinned {b:Bool} {n m:Str} (h:n∈if b=true then [m] else []):n=m:=by
  cases b with
  | true=>exact List.mem_singleton.mp h
  | false=>exact nomatch h
theorem no_gen {α:Type} {a:Array α} {i:Nat} {x:α} {P:Prop} (h:a=#[]) (hx:a[i]? = some x):P:=by
  subst h
  exact nomatch hx
theorem PySem.W.holds_open {r:OpenRow} {q:Program} {loose:List Str} {Xt:Shared→Bool} {XP:(Str→Option Value)→Heap→Prop} {α:Type} {Yf:Shared→α} {Ya:World→α} {YP:World→Heap→Prop} {d:DefRec} {kwd:List (Str×Expr)} {N:Nat}
    (left:LeftO r.prog q loose Xt Yf Ya N) (hY:∀ w s,Yf s=Ya w→YP w s.heap) (hYk:∀ w h h',YP w h→(∀ b o,h.get? b=some o→h'.get? b=some o)→YP w h')
    (hX:∀ s,Xt s=true→XP (s.heap.nsMap mainGlobals) s.heap) (hXk:∀ mg h h',XP mg h→(∀ b o,h.get? b=some o→h'.get? b=some o)→XP mg h')
    (hdef:defOf q r.name=some (d,kwd)) (hp:r.prog.theDef r.name=some (d.params,d.body,d.scope)) (hk:kwWritten? d.params.kwonlyargs d.params.kw_defaults=some kwd) (hRf:∀ s,Xt s=true→RecFacts r.records s.heap) (hwr:(!r.writes || r.records.isEmpty)=true)
    (k1:r.wellSaid=true) (ok:(chainsOk q && opensWell r.prog && (frees r.toRowW && r.within.isEmpty))=true) (hb:r.prog.bare) (hw:r.toRowW.promised)
    (call:WalkG q loose XP YP r.toRowW d kwd):r.Holds:=by
  have ok1:=Bool.and_eq_true_iff.mp ok
  have ok2:=Bool.and_eq_true_iff.mp ok1.1
  have ok3:=Bool.and_eq_true_iff.mp ok1.2
  obtain ⟨hsame,hu,ha,hap,hm⟩:=frees_parts ok3.1
  have hnm:=defOf_name hdef
  have hXR:∀ s,Xt s=true→XP (s.heap.nsMap mainGlobals) s.heap∧RecFacts r.records s.heap:=fun s e=>⟨hX s e,hRf s e⟩
  refine ⟨k1,hw,⟨hb,ok2.2,by show r.toRowW.makers.map _=[];rw [hm];rfl⟩,hw.witness,fun w=>⟨(left.behind (XP:=fun mg h=>XP mg h∧RecFacts r.records h) hXR ok2.1 w).1,fun s' hs'=>?_⟩⟩
  refine Classical.byContradiction fun no=>?_
  obtain ⟨s₀,hf,hg0,s,hT,hz,hgens,hg,G00,y⟩:=(left.behind (XP:=fun mg h=>XP mg h∧RecFacts r.records h) hXR ok2.1 w).2 s' hs'
  have RF:=G00.X.2
  have G0:Ground q loose [] XP w s (s.heap.nsMap mainGlobals) (s.heap.nsMap builtinsNs) s.heap:={G00 with X:=G00.X.1}
  have hgs:s.gens=#[]:=Array.eq_empty_of_size_eq_zero (beq_iff_eq.mp hgens)
  have G:=RF.ground G0
  refine no ⟨s₀,hf,hg0,s,hT,fun n hn=>?_,RF.1,RF.2.1, ?_⟩
  · have e:n=r.name:=of_pinned hn
    rw [e]
    exact pinned_of_view hg G0 hdef hp hk
  intro args hpre hlay ord hord
  refine Classical.byContradiction fun no=>?_
  obtain ⟨⟨vs,s₁⟩,hlaid⟩:=Option.isSome_iff_exists.mp (layAllW_isSome (P:=w.params) (ord:=ord) G.has args r.args s (pre_splitW hpre).1)
  have keeps:=layAllW_keeps _ _ _ hlaid
  obtain ⟨g1,g2,g3,g4⟩:=layAllW_rest _ _ _ hlaid
  obtain ⟨as,hrd,hin,hold⟩:=reads_layAllW hord _ _ _ hlaid hlay s₁.heap (fun _ _ e=>e)
  have La:Laid r.records w s s₁ args vs as:=⟨⟨ord,hord,hlaid⟩,hrd,hin,hold,keeps,g1.trans hgs,g3⟩
  have G₁:=G.keeps hXk keeps
  obtain ⟨a,o,pm,cd,doc,dV,kV,h1,h2,h3,h4,h5⟩:=G₁.fn hdef
  have run:=call w s s₁ _ _ G₁ (hYk _ _ _ (hY w s y) keeps) a o pm cd doc dV kV h2 h3 h4 h5 (hnm ▸ h1) La.gens args vs as hpre hlay La.reads La.well (La.low G.low)
  have lay:=fun {x:Result} {s':Shared} (g:EndG r.toRowW s s₁ args x s')=>GoodWG.laid (c:=r.claim) hsame (List.isEmpty_iff.mp ok3.2) (ident_freeW hu ha hap) La g
  obtain ⟨n,x,s₃,s₂,hrun,hsched,hfo,hE⟩:=thread_G (P:=EndG r.toRowW s s₁ args) (name:=r.name) (Shared.asleep_of_life g4 hz) G₁.T.g h1 run fun x s' g=>(lay g).2.2
  obtain ⟨eh,_,_,eo,_⟩:=Shared.forget_eq hfo
  have z:=lay hE
  have ends:=z.1.congr eh
  have old:∀ b o,s₁.heap.get? b=some o→asItWas s₁.heap s₃.heap b o:=by rw [eh];exact hE.2.1.old
  refine no ⟨vs,s₁,hlaid,n,_,s₃,hsched, ?_,fun _ i x hx=>no_gen hgs hx,fun q=>⟨namesKept_of hT hg _ keeps old,noTable hwr q⟩,by rw [(runN_life _ _ _ hrun).trans g4],Shared.rest_eq (eo.trans z.2.1)⟩
  rcases ends with ⟨v,rfl,e1,e2,e3,e4,e5⟩|⟨e,ob,cls,rfl,e1,e2,e3,e4,e5⟩
  · exact .inl ⟨v,rfl,e1,e2,e3,fun b o y _=>e4 b o y,e5⟩
  · exact .inr ⟨e,ob,cls,rfl,e1,e2,e3,e4,fun b o y _=>e5 b o y⟩
end
section
set_option Elab.async false
set_option maxRecDepth 100000
set_option maxHeartbeats 4000000
set_option linter.unusedVariables false
noncomputable abbrev hd.pw:Program:=PySem.Challenge.rw_nu0167_01.row.toRowW.prog
noncomputable def hd.heap_39:Params→Frag:=fun P=>(nat_lit 2,⟨.none,none,(.dict #[⟨(PySem.PyData.keyHash P "type.__subclasses__.Exception.0"),(.str "type.__subclasses__.Exception.0" 234),(.int 48 0)⟩,⟨(PySem.PyData.keyHash P "type.__subclasses__.Exception.n"),(.str "type.__subclasses__.Exception.n" 235),(.int 1 0)⟩] 2),#[]⟩) ::
 (nat_lit 3,⟨(.type "dict"),none,(.dict #[⟨(PySem.PyData.keyHash P "__name__"),(.str "__name__" 165),(.str "law_nu0167_01" 676)⟩,⟨(PySem.PyData.keyHash P "__doc__"),(.str "__doc__" 166),.none⟩,⟨(PySem.PyData.keyHash P "__package__"),(.str "__package__" 167),.none⟩,⟨(PySem.PyData.keyHash P "__loader__"),(.str "__loader__" 168),(.builtin "__main__.__loader__#opaque")⟩,⟨(PySem.PyData.keyHash P "__spec__"),(.str "__spec__" 169),.none⟩,⟨(PySem.PyData.keyHash P "__annotations__"),(.str "__annotations__" 170),(.ref 6)⟩,⟨(PySem.PyData.keyHash P "__builtins__"),(.str "__builtins__" 171),(.ref 4)⟩,⟨(PySem.PyData.keyHash P "__file__"),(.str "__file__" 173),(.str "/claim/cut.py" 172)⟩,⟨(PySem.PyData.keyHash P "__cached__"),(.str "__cached__" 174),.none⟩,⟨(PySem.PyData.keyHash P "_wall"),(.str "_wall" 193),(.ref 21)⟩,⟨(PySem.PyData.keyHash P "ShapeError"),(.str "ShapeError" 237),(.ref 48)⟩,⟨(PySem.PyData.keyHash P "TableFault"),(.str "TableFault" 253),(.ref 61)⟩,⟨(PySem.PyData.keyHash P "FIELDS"),(.str "FIELDS" 257),(.int 4 256)⟩,⟨(PySem.PyData.keyHash P "MOST_FORM"),(.str "MOST_FORM" 259),(.int 255 258)⟩,⟨(PySem.PyData.keyHash P "LEAST_DEVICE"),(.str "LEAST_DEVICE" 261),(.int 16 260)⟩,⟨(PySem.PyData.keyHash P "Value"),(.str "Value" 310),(.ref 94)⟩,⟨(PySem.PyData.keyHash P "read_form"),(.str "read_form" 319),(.ref 105)⟩,⟨(PySem.PyData.keyHash P "size_of"),(.str "size_of" 325),(.ref 110)⟩,⟨(PySem.PyData.keyHash P "read_value"),(.str "read_value" 335),(.ref 117)⟩,⟨(PySem.PyData.keyHash P "write_value"),(.str "write_value" 346),(.ref 124)⟩,⟨(PySem.PyData.keyHash P "form_of"),(.str "form_of" 357),(.ref 131)⟩,⟨(PySem.PyData.keyHash P "add_value"),(.str "add_value" 366),(.ref 138)⟩,⟨(PySem.PyData.keyHash P "Info"),(.str "Info" 427),(.ref 169)⟩,⟨(PySem.PyData.keyHash P "check_room"),(.str "check_room" 438),(.ref 180)⟩,⟨(PySem.PyData.keyHash P "number_at"),(.str "number_at" 449),(.ref 187)⟩,⟨(PySem.PyData.keyHash P "signed"),(.str "signed" 457),(.ref 194)⟩,⟨(PySem.PyData.keyHash P "OctetsIn"),(.str "OctetsIn" 562),(.ref 280)⟩,⟨(PySem.PyData.keyHash P "number_octets"),(.str "number_octets" 568),(.ref 289)⟩,⟨(PySem.PyData.keyHash P "OctetsOut"),(.str "OctetsOut" 675),(.ref 376)⟩,⟨(PySem.PyData.keyHash P "_law_menu"),(.str "_law_menu" 688),(.ref 381)⟩,⟨(PySem.PyData.keyHash P "_law_draw"),(.str "_law_draw" 700),(.ref 388)⟩,⟨(PySem.PyData.keyHash P "_law_pen"),(.str "_law_pen" 707),(.ref 395)⟩,⟨(PySem.PyData.keyHash P "_law_ones"),(.str "_law_ones" 713),(.ref 400)⟩,⟨(PySem.PyData.keyHash P "_law_read"),(.str "_law_read" 726),(.ref 407)⟩,⟨(PySem.PyData.keyHash P "_law_due"),(.str "_law_due" 739),(.ref 414)⟩,⟨(PySem.PyData.keyHash P "_law_written"),(.str "_law_written" 750),(.ref 421)⟩,⟨(PySem.PyData.keyHash P "_law_bears"),(.str "_law_bears" 756),(.ref 426)⟩,⟨(PySem.PyData.keyHash P "law"),(.str "law" 762),(.ref 431)⟩] 38),#[]⟩) ::
 (nat_lit 15,⟨(.type "tuple"),none,(.seq #[] 0),#[]⟩) ::
 (nat_lit 17,⟨(.type "tuple"),none,(.seq #[(.str "k" 190)] 0),#[]⟩) ::
 (nat_lit 18,⟨(.type "tuple"),none,(.seq #[] 0),#[]⟩) ::
 (nat_lit 20,⟨(.type "code"),none,(.fields #[(.str "_wall" 187),(.str "_wall" 188),(.str "/claim/cut.py" 189),(.int 1 0),(.int 1 0),(.int 0 0),(.int 0 0),(.int 3 0),(.ref 15),(.bool true),(.int 181 0),(.ref 16),.none,(.ref 17),(.ref 18),(.ref 19),(.int 191 0),(.int 1 0),(.str "/claim/cut.py" 192)]),#[]⟩) ::
 (nat_lit 21,⟨(.type "function"),none,(.func ⟨"_wall","_wall",⟨[],[⟨"k",none,⟨1,10,1,11⟩⟩],none,[],[],none,[]⟩,(.stmts [(.While (.Constant (.bool true) 0 ⟨2,10,2,14⟩) [(.Pass ⟨3,8,3,12⟩)] [] ⟨2,4,3,12⟩)]),⟨.function,[("k",.local)],false,false,[]⟩,3,[],.none,.none,.none,(.str "__main__" 164),none,(.ref 20),.none,0⟩),#[]⟩) ::
 (nat_lit 22,⟨(.type "tuple"),none,(.seq #[(.type "Exception")] 0),#[]⟩) ::
 (nat_lit 25,⟨(.type "cell"),none,(.cell (some (.ref 48))),#[]⟩) ::
 (nat_lit 30,⟨(.type "tuple"),none,(.seq #[(.int (-1) 209)] 0),#[]⟩) ::
 (nat_lit 31,⟨(.type "tuple"),none,(.seq #[(.ref 25)] 0),#[]⟩) ::
 (nat_lit 32,⟨(.type "tuple"),none,(.seq #[(.str "__class__" 213)] 0),#[]⟩) ::
 (nat_lit 34,⟨(.type "tuple"),none,(.seq #[(.str "self" 214),(.str "what" 215),(.str "at" 216)] 0),#[]⟩) ::
 (nat_lit 35,⟨(.type "tuple"),none,(.seq #[] 0),#[]⟩) ::
 (nat_lit 37,⟨(.type "code"),none,(.fields #[(.str "__init__" 210),(.str "ShapeError.__init__" 211),(.str "/claim/cut.py" 212),(.int 7 0),(.int 3 0),(.int 0 0),(.int 0 0),(.int 3 0),(.ref 32),(.bool true),(.int 181 0),(.ref 33),.none,(.ref 34),(.ref 35),(.ref 36),(.int 217 0),(.int 7 0),(.str "/claim/cut.py" 218)]),#[]⟩) ::
 (nat_lit 38,⟨(.type "function"),none,(.func ⟨"__init__","ShapeError.__init__",⟨[],[⟨"self",none,⟨7,17,7,21⟩⟩,⟨"what",none,⟨7,23,7,27⟩⟩,⟨"at",none,⟨7,29,7,31⟩⟩],none,[],[],none,[(.UnaryOp .USub (.Constant (.int 1) 0 ⟨7,33,7,34⟩) ⟨7,32,7,34⟩)]⟩,(.stmts [(.Expr (.Call (.Attribute (.Call (.Name "super" ⟨8,8,8,13⟩) [] [] ⟨8,8,8,15⟩) "__init__" ⟨8,8,8,24⟩) [(.Name "what" ⟨8,25,8,29⟩)] [] ⟨8,8,8,30⟩) ⟨8,8,8,30⟩),(.Assign [(.Attribute (.Name "self" ⟨9,8,9,12⟩) "what" ⟨9,8,9,17⟩)] (.Name "what" ⟨9,20,9,24⟩) ⟨9,8,9,24⟩),(.Assign [(.Attribute (.Name "self" ⟨10,8,10,12⟩) "at" ⟨10,8,10,15⟩)] (.Name "at" ⟨10,18,10,20⟩) ⟨10,8,10,20⟩)]),⟨.function,[("self",.local),("what",.local),("at",.local),("__class__",.free),("super",.globalImplicit)],false,false,[]⟩,3,[("__class__",25)],(.ref 30),.none,.none,(.str "joinedhand.errors" 194),none,(.ref 37),(.ref 31),0⟩),#[]⟩) ::
 (nat_lit 39,⟨(.type "tuple"),none,(.seq #[] 0),#[]⟩) ::
 (nat_lit 41,⟨(.type "tuple"),none,(.seq #[(.str "self" 223)] 0),#[]⟩) ::
 (nat_lit 42,⟨(.type "tuple"),none,(.seq #[] 0),#[]⟩) ::
 (nat_lit 44,⟨(.type "code"),none,(.fields #[(.str "told" 220),(.str "ShapeError.told" 221),(.str "/claim/cut.py" 222),(.int 12 0),(.int 1 0),(.int 0 0),(.int 0 0),(.int 3 0),(.ref 39),(.bool true),(.int 181 0),(.ref 40),.none,(.ref 41),(.ref 42),(.ref 43),(.int 224 0),(.int 12 0),(.str "/claim/cut.py" 225)]),#[]⟩) ::
 (nat_lit 45,⟨(.type "function"),none,(.func ⟨"told","ShapeError.told",⟨[],[⟨"self",none,⟨12,13,12,17⟩⟩],none,[],[],none,[]⟩,(.stmts [(.Return (some (.Tuple [(.Attribute (.Name "self" ⟨13,16,13,20⟩) "what" ⟨13,16,13,25⟩),(.Attribute (.Name "self" ⟨13,27,13,31⟩) "at" ⟨13,27,13,34⟩)] 0 ⟨13,15,13,35⟩)) ⟨13,8,13,35⟩)]),⟨.function,[("self",.local)],false,false,[]⟩,3,[],.none,.none,.none,(.str "joinedhand.errors" 194),none,(.ref 44),.none,0⟩),#[]⟩) ::
 (nat_lit 46,⟨(.type "tuple"),none,(.seq #[(.str "at" 227),(.str "what" 228)] 0),#[]⟩) ::
 (nat_lit 47,⟨(.type "dict"),none,(.dict #[⟨(PySem.PyData.keyHash P "__module__"),(.str "__module__" 203),(.str "joinedhand.errors" 194)⟩,⟨(PySem.PyData.keyHash P "__firstlineno__"),(.str "__firstlineno__" 207),(.int 5 206)⟩,⟨(PySem.PyData.keyHash P "__init__"),(.str "__init__" 219),(.ref 38)⟩,⟨(PySem.PyData.keyHash P "told"),(.str "told" 226),(.ref 45)⟩,⟨(PySem.PyData.keyHash P "__static_attributes__"),(.str "__static_attributes__" 229),(.ref 46)⟩,⟨(PySem.PyData.keyHash P "__weakref__"),(.str "__weakref__" 232),(.ref 49)⟩,⟨(PySem.PyData.keyHash P "__doc__"),(.str "__doc__" 233),.none⟩] 4),#[]⟩) ::
 (nat_lit 48,⟨(.type "type"),none,(.cls ⟨"ShapeError",[(.type "Exception")],[(.ref 48),(.type "Exception"),(.type "BaseException"),(.type "object")],47,"ShapeError",true,[],[(.ref 61)],false,none,false⟩),#[(some (.ref 22)),none,(some (.str "ShapeError" 196)),(some (.str "ShapeError" 204)),(some (.builtin "Exception.__new__")),(some (.bool true))]⟩) ::
 (nat_lit 49,⟨(.type "getset_descriptor"),none,(.fields #[(.str "__weakref__" 231),(.ref 48),(.builtin "ExceptionGroup.__weakref__"),.none]),#[]⟩) ::
 (nat_lit 52,⟨(.type "tuple"),none,(.seq #[(.ref 48)] 0),#[]⟩) ::
 (nat_lit 59,⟨(.type "tuple"),none,(.seq #[] 0),#[]⟩) ::
 (nat_lit 60,⟨(.type "dict"),none,(.dict #[⟨(PySem.PyData.keyHash P "__module__"),(.str "__module__" 245),(.str "joinedhand.errors" 194)⟩,⟨(PySem.PyData.keyHash P "__firstlineno__"),(.str "__firstlineno__" 249),(.int 14 248)⟩,⟨(PySem.PyData.keyHash P "__static_attributes__"),(.str "__static_attributes__" 250),(.ref 59)⟩,⟨(PySem.PyData.keyHash P "__doc__"),(.str "__doc__" 251),.none⟩] 2),#[]⟩) ::
 (nat_lit 61,⟨(.type "type"),none,(.cls ⟨"TableFault",[(.ref 48)],[(.ref 61),(.ref 48),(.type "Exception"),(.type "BaseException"),(.type "object")],60,"TableFault",true,[],[],false,none,false⟩),#[(some (.ref 52)),none,(some (.str "TableFault" 238)),(some (.str "TableFault" 246)),(some (.builtin "Exception.__new__")),(some (.bool true))]⟩) ::
 (nat_lit 71,⟨(.type "tuple"),none,(.seq #[] 0),#[]⟩) ::
 (nat_lit 73,⟨(.type "tuple"),none,(.seq #[(.str "self" 277),(.str "x_offset" 278),(.str "y_offset" 279),(.str "x_advance" 280),(.str "y_advance" 281)] 0),#[]⟩) ::
 (nat_lit 74,⟨(.type "tuple"),none,(.seq #[] 0),#[]⟩) ::
 (nat_lit 76,⟨(.type "code"),none,(.fields #[(.str "__init__" 274),(.str "Value.__init__" 275),(.str "/claim/cut.py" 276),(.int 22 0),(.int 5 0),(.int 0 0),(.int 0 0),(.int 3 0),(.ref 71),(.bool true),(.int 181 0),(.ref 72),.none,(.ref 73),(.ref 74),(.ref 75),(.int 282 0),(.int 22 0),(.str "/claim/cut.py" 283)]),#[]⟩) ::
 (nat_lit 77,⟨(.type "function"),none,(.func ⟨"__init__","Value.__init__",⟨[],[⟨"self",none,⟨22,17,22,21⟩⟩,⟨"x_offset",none,⟨22,23,22,31⟩⟩,⟨"y_offset",none,⟨22,33,22,41⟩⟩,⟨"x_advance",none,⟨22,43,22,52⟩⟩,⟨"y_advance",none,⟨22,54,22,63⟩⟩],none,[],[],none,[]⟩,(.stmts [(.Assign [(.Attribute (.Name "self" ⟨23,8,23,12⟩) "x_offset" ⟨23,8,23,21⟩)] (.Name "x_offset" ⟨23,24,23,32⟩) ⟨23,8,23,32⟩),(.Assign [(.Attribute (.Name "self" ⟨24,8,24,12⟩) "y_offset" ⟨24,8,24,21⟩)] (.Name "y_offset" ⟨24,24,24,32⟩) ⟨24,8,24,32⟩),(.Assign [(.Attribute (.Name "self" ⟨25,8,25,12⟩) "x_advance" ⟨25,8,25,22⟩)] (.Name "x_advance" ⟨25,25,25,34⟩) ⟨25,8,25,34⟩),(.Assign [(.Attribute (.Name "self" ⟨26,8,26,12⟩) "y_advance" ⟨26,8,26,22⟩)] (.Name "y_advance" ⟨26,25,26,34⟩) ⟨26,8,26,34⟩)]),⟨.function,[("self",.local),("x_offset",.local),("y_offset",.local),("x_advance",.local),("y_advance",.local)],false,false,[]⟩,3,[],.none,.none,.none,(.str "joinedhand.values" 254),none,(.ref 76),.none,0⟩),#[]⟩) ::
 (nat_lit 78,⟨(.type "tuple"),none,(.seq #[] 0),#[]⟩) ::
 (nat_lit 80,⟨(.type "tuple"),none,(.seq #[(.str "self" 288)] 0),#[]⟩) ::
 (nat_lit 81,⟨(.type "tuple"),none,(.seq #[] 0),#[]⟩) ::
 (nat_lit 83,⟨(.type "code"),none,(.fields #[(.str "told" 285),(.str "Value.told" 286),(.str "/claim/cut.py" 287),(.int 28 0),(.int 1 0),(.int 0 0),(.int 0 0),(.int 3 0),(.ref 78),(.bool true),(.int 181 0),(.ref 79),.none,(.ref 80),(.ref 81),(.ref 82),(.int 289 0),(.int 28 0),(.str "/claim/cut.py" 290)]),#[]⟩) ::
 (nat_lit 84,⟨(.type "function"),none,(.func ⟨"told","Value.told",⟨[],[⟨"self",none,⟨28,13,28,17⟩⟩],none,[],[],none,[]⟩,(.stmts [(.Return (some (.Tuple [(.Attribute (.Name "self" ⟨29,16,29,20⟩) "x_offset" ⟨29,16,29,29⟩),(.Attribute (.Name "self" ⟨29,31,29,35⟩) "y_offset" ⟨29,31,29,44⟩),(.Attribute (.Name "self" ⟨29,46,29,50⟩) "x_advance" ⟨29,46,29,60⟩),(.Attribute (.Name "self" ⟨29,62,29,66⟩) "y_advance" ⟨29,62,29,76⟩)] 0 ⟨29,15,29,77⟩)) ⟨29,8,29,77⟩)]),⟨.function,[("self",.local)],false,false,[]⟩,3,[],.none,.none,.none,(.str "joinedhand.values" 254),none,(.ref 83),.none,0⟩),#[]⟩) ::
 (nat_lit 85,⟨(.type "tuple"),none,(.seq #[] 0),#[]⟩) ::
 (nat_lit 87,⟨(.type "tuple"),none,(.seq #[(.str "self" 295)] 0),#[]⟩) ::
 (nat_lit 88,⟨(.type "tuple"),none,(.seq #[] 0),#[]⟩) ::
 (nat_lit 90,⟨(.type "code"),none,(.fields #[(.str "is_nothing" 292),(.str "Value.is_nothing" 293),(.str "/claim/cut.py" 294),(.int 31 0),(.int 1 0),(.int 0 0),(.int 0 0),(.int 3 0),(.ref 85),(.bool true),(.int 181 0),(.ref 86),.none,(.ref 87),(.ref 88),(.ref 89),(.int 296 0),(.int 31 0),(.str "/claim/cut.py" 297)]),#[]⟩) ::
 (nat_lit 91,⟨(.type "function"),none,(.func ⟨"is_nothing","Value.is_nothing",⟨[],[⟨"self",none,⟨31,19,31,23⟩⟩],none,[],[],none,[]⟩,(.stmts [(.Return (some (.Compare (.Call (.Attribute (.Name "self" ⟨32,15,32,19⟩) "told" ⟨32,15,32,24⟩) [] [] ⟨32,15,32,26⟩) [.Eq] [(.Tuple [(.Constant (.int 0) 0 ⟨32,31,32,32⟩),(.Constant (.int 0) 0 ⟨32,34,32,35⟩),(.Constant (.int 0) 0 ⟨32,37,32,38⟩),(.Constant (.int 0) 0 ⟨32,40,32,41⟩)] 0 ⟨32,30,32,42⟩)] ⟨32,15,32,42⟩)) ⟨32,8,32,42⟩)]),⟨.function,[("self",.local)],false,false,[]⟩,3,[],.none,.none,.none,(.str "joinedhand.values" 254),none,(.ref 90),.none,0⟩),#[]⟩) ::
 (nat_lit 92,⟨(.type "tuple"),none,(.seq #[(.str "x_advance" 299),(.str "x_offset" 300),(.str "y_advance" 301),(.str "y_offset" 302)] 0),#[]⟩) ::
 (nat_lit 93,⟨(.type "dict"),none,(.dict #[⟨(PySem.PyData.keyHash P "__module__"),(.str "__module__" 269),(.str "joinedhand.values" 254)⟩,⟨(PySem.PyData.keyHash P "__firstlineno__"),(.str "__firstlineno__" 273),(.int 20 272)⟩,⟨(PySem.PyData.keyHash P "__init__"),(.str "__init__" 284),(.ref 77)⟩,⟨(PySem.PyData.keyHash P "told"),(.str "told" 291),(.ref 84)⟩,⟨(PySem.PyData.keyHash P "is_nothing"),(.str "is_nothing" 298),(.ref 91)⟩,⟨(PySem.PyData.keyHash P "__static_attributes__"),(.str "__static_attributes__" 303),(.ref 92)⟩,⟨(PySem.PyData.keyHash P "__dict__"),(.str "__dict__" 305),(.ref 95)⟩,⟨(PySem.PyData.keyHash P "__weakref__"),(.str "__weakref__" 307),(.ref 96)⟩,⟨(PySem.PyData.keyHash P "__doc__"),(.str "__doc__" 308),.none⟩] 4),#[]⟩) ::
 (nat_lit 94,⟨(.type "type"),none,(.cls ⟨"Value",[(.type "object")],[(.ref 94),(.type "object")],93,"Value",true,[],[],false,none,false⟩),#[none,none,(some (.str "Value" 262)),(some (.str "Value" 270)),(some (.builtin "object.__new__")),(some (.bool true))]⟩) ::
 (nat_lit 95,⟨(.type "getset_descriptor"),none,(.fields #[(.str "__dict__" 304),(.ref 94),(.builtin "function.__dict__"),(.builtin "function.__dict__#set")]),#[]⟩) ::
 (nat_lit 96,⟨(.type "getset_descriptor"),none,(.fields #[(.str "__weakref__" 306),(.ref 94),(.builtin "ExceptionGroup.__weakref__"),.none]),#[]⟩) ::
 (nat_lit 99,⟨(.type "tuple"),none,(.seq #[] 0),#[]⟩) ::
 (nat_lit 101,⟨(.type "tuple"),none,(.seq #[(.str "source" 314),(.str "place" 315),(.str "form" 316)] 0),#[]⟩) ::
 (nat_lit 102,⟨(.type "tuple"),none,(.seq #[] 0),#[]⟩) ::
 (nat_lit 104,⟨(.type "code"),none,(.fields #[(.str "read_form" 311),(.str "read_form" 312),(.str "/claim/cut.py" 313),(.int 33 0),(.int 1 0),(.int 0 0),(.int 0 0),(.int 3 0),(.ref 99),(.bool true),(.int 181 0),(.ref 100),.none,(.ref 101),(.ref 102),(.ref 103),(.int 317 0),(.int 33 0),(.str "/claim/cut.py" 318)]),#[]⟩) ::
 (nat_lit 105,⟨(.type "function"),none,(.func ⟨"read_form","read_form",⟨[],[⟨"source",none,⟨33,14,33,20⟩⟩],none,[],[],none,[]⟩,(.stmts [(.Assign [(.Name "place" ⟨34,4,34,9⟩)] (.Attribute (.Name "source" ⟨34,12,34,18⟩) "at" ⟨34,12,34,21⟩) ⟨34,4,34,21⟩),(.Assign [(.Name "form" ⟨35,4,35,8⟩)] (.Call (.Attribute (.Name "source" ⟨35,11,35,17⟩) "u16" ⟨35,11,35,21⟩) [] [] ⟨35,11,35,23⟩) ⟨35,4,35,23⟩),(.If (.Compare (.Name "form" ⟨36,7,36,11⟩) [.Gt] [(.Name "MOST_FORM" ⟨36,14,36,23⟩)] ⟨36,7,36,23⟩) [(.Raise (some (.Call (.Name "TableFault" ⟨37,14,37,24⟩) [(.Constant (.str "a format of values that there is not") 0 ⟨37,25,37,63⟩),(.Name "place" ⟨37,65,37,70⟩)] [] ⟨37,14,37,71⟩)) none ⟨37,8,37,71⟩)] [] ⟨36,4,37,71⟩),(.Return (some (.Name "form" ⟨38,11,38,15⟩)) ⟨38,4,38,15⟩)]),⟨.function,[("source",.local),("place",.local),("form",.local),("MOST_FORM",.globalImplicit),("TableFault",.globalImplicit)],false,false,[]⟩,3,[],.none,.none,.none,(.str "joinedhand.values" 254),none,(.ref 104),.none,0⟩),#[]⟩) ::
 (nat_lit 106,⟨(.type "tuple"),none,(.seq #[] 0),#[]⟩) ::
 (nat_lit 109,⟨(.type "code"),none,(.fields #[(.str "size_of" 320),(.str "size_of" 321),(.str "/claim/cut.py" 322),(.int 39 0),(.int 1 0),(.int 0 0),(.int 0 0),(.int 3 0),(.ref 106),(.bool true),(.int 181 0),(.ref 107),.none,.none,.none,(.ref 108),(.int 323 0),(.int 39 0),(.str "/claim/cut.py" 324)]),#[]⟩) ::
 (nat_lit 110,⟨(.type "function"),none,(.func ⟨"size_of","size_of",⟨[],[⟨"form",none,⟨39,12,39,16⟩⟩],none,[],[],none,[]⟩,(.stmts [(.Return (some (.BinOp (.Constant (.int 2) 0 ⟨40,11,40,12⟩) .Mult (.Call (.Name "len" ⟨40,15,40,18⟩) [(.ListComp (.Name "place" ⟨40,20,40,25⟩) [⟨(.Name "place" ⟨40,30,40,35⟩),(.Call (.Name "range" ⟨40,39,40,44⟩) [(.BinOp (.Constant (.int 2) 0 ⟨40,45,40,46⟩) .Mult (.Name "FIELDS" ⟨40,49,40,55⟩) ⟨40,45,40,55⟩)] [] ⟨40,39,40,56⟩),[(.Compare (.BinOp (.BinOp (.Name "form" ⟨40,60,40,64⟩) .RShift (.Name "place" ⟨40,68,40,73⟩) ⟨40,60,40,73⟩) .BitAnd (.Constant (.int 1) 0 ⟨40,76,40,77⟩) ⟨40,60,40,77⟩) [.Eq] [(.Constant (.int 1) 0 ⟨40,81,40,82⟩)] ⟨40,60,40,82⟩)],0⟩] ⟨.function,[(".0",.local),("place",.local),("form",.free)],false,false,[]⟩ ⟨40,19,40,83⟩)] [] ⟨40,15,40,84⟩) ⟨40,11,40,84⟩)) ⟨40,4,40,84⟩)]),⟨.function,[("form",.cell),("len",.globalImplicit),("range",.globalImplicit),("FIELDS",.globalImplicit)],false,false,[("fast",(.str "form")),("fast",(.str "place"))]⟩,3,[],.none,.none,.none,(.str "joinedhand.values" 254),none,(.ref 109),.none,0⟩),#[]⟩) ::
 (nat_lit 111,⟨(.type "tuple"),none,(.seq #[] 0),#[]⟩) ::
 (nat_lit 113,⟨(.type "tuple"),none,(.seq #[(.str "source" 329),(.str "form" 330),(.str "fields" 331),(.str "place" 332)] 0),#[]⟩) ::
 (nat_lit 114,⟨(.type "tuple"),none,(.seq #[] 0),#[]⟩) ::
 (nat_lit 116,⟨(.type "code"),none,(.fields #[(.str "read_value" 326),(.str "read_value" 327),(.str "/claim/cut.py" 328),(.int 41 0),(.int 2 0),(.int 0 0),(.int 0 0),(.int 3 0),(.ref 111),(.bool true),(.int 181 0),(.ref 112),.none,(.ref 113),(.ref 114),(.ref 115),(.int 333 0),(.int 41 0),(.str "/claim/cut.py" 334)]),#[]⟩) ::
 (nat_lit 117,⟨(.type "function"),none,(.func ⟨"read_value","read_value",⟨[],[⟨"source",none,⟨41,15,41,21⟩⟩,⟨"form",none,⟨41,23,41,27⟩⟩],none,[],[],none,[]⟩,(.stmts [(.Assign [(.Name "fields" ⟨42,4,42,10⟩)] (.List [] ⟨42,13,42,15⟩) ⟨42,4,42,15⟩),(.For (.Name "place" ⟨43,8,43,13⟩) (.Call (.Name "range" ⟨43,17,43,22⟩) [(.Name "FIELDS" ⟨43,23,43,29⟩)] [] ⟨43,17,43,30⟩) [(.Expr (.Call (.Attribute (.Name "fields" ⟨44,8,44,14⟩) "append" ⟨44,8,44,21⟩) [(.IfExp (.Compare (.BinOp (.BinOp (.Name "form" ⟨44,38,44,42⟩) .RShift (.Name "place" ⟨44,46,44,51⟩) ⟨44,38,44,51⟩) .BitAnd (.Constant (.int 1) 0 ⟨44,54,44,55⟩) ⟨44,38,44,55⟩) [.Eq] [(.Constant (.int 1) 0 ⟨44,59,44,60⟩)] ⟨44,38,44,60⟩) (.Call (.Attribute (.Name "source" ⟨44,22,44,28⟩) "i16" ⟨44,22,44,32⟩) [] [] ⟨44,22,44,34⟩) (.Constant (.int 0) 0 ⟨44,66,44,67⟩) ⟨44,22,44,67⟩)] [] ⟨44,8,44,68⟩) ⟨44,8,44,68⟩)] [] ⟨43,4,44,68⟩),(.For (.Name "place" ⟨45,8,45,13⟩) (.Call (.Name "range" ⟨45,17,45,22⟩) [(.Name "FIELDS" ⟨45,23,45,29⟩),(.BinOp (.Constant (.int 2) 0 ⟨45,31,45,32⟩) .Mult (.Name "FIELDS" ⟨45,35,45,41⟩) ⟨45,31,45,41⟩)] [] ⟨45,17,45,42⟩) [(.If (.Compare (.BinOp (.BinOp (.Name "form" ⟨46,11,46,15⟩) .RShift (.Name "place" ⟨46,19,46,24⟩) ⟨46,11,46,24⟩) .BitAnd (.Constant (.int 1) 0 ⟨46,27,46,28⟩) ⟨46,11,46,28⟩) [.Eq] [(.Constant (.int 1) 0 ⟨46,32,46,33⟩)] ⟨46,11,46,33⟩) [(.Expr (.Call (.Attribute (.Name "source" ⟨47,12,47,18⟩) "u16" ⟨47,12,47,22⟩) [] [] ⟨47,12,47,24⟩) ⟨47,12,47,24⟩)] [] ⟨46,8,47,24⟩)] [] ⟨45,4,47,24⟩),(.Return (some (.Call (.Name "Value" ⟨48,11,48,16⟩) [(.Subscript (.Name "fields" ⟨48,17,48,23⟩) (.Constant (.int 0) 0 ⟨48,24,48,25⟩) ⟨48,17,48,26⟩),(.Subscript (.Name "fields" ⟨48,28,48,34⟩) (.Constant (.int 1) 0 ⟨48,35,48,36⟩) ⟨48,28,48,37⟩),(.Subscript (.Name "fields" ⟨48,39,48,45⟩) (.Constant (.int 2) 0 ⟨48,46,48,47⟩) ⟨48,39,48,48⟩),(.Subscript (.Name "fields" ⟨48,50,48,56⟩) (.Constant (.int 3) 0 ⟨48,57,48,58⟩) ⟨48,50,48,59⟩)] [] ⟨48,11,48,60⟩)) ⟨48,4,48,60⟩)]),⟨.function,[("source",.local),("form",.local),("fields",.local),("place",.local),("range",.globalImplicit),("FIELDS",.globalImplicit),("Value",.globalImplicit)],false,false,[]⟩,3,[],.none,.none,.none,(.str "joinedhand.values" 254),none,(.ref 116),.none,0⟩),#[]⟩) ::
 (nat_lit 118,⟨(.type "tuple"),none,(.seq #[] 0),#[]⟩) ::
 (nat_lit 120,⟨(.type "tuple"),none,(.seq #[(.str "target" 339),(.str "value" 340),(.str "form" 341),(.str "place" 342),(.str "field" 343)] 0),#[]⟩) ::
 (nat_lit 121,⟨(.type "tuple"),none,(.seq #[] 0),#[]⟩) ::
 (nat_lit 123,⟨(.type "code"),none,(.fields #[(.str "write_value" 336),(.str "write_value" 337),(.str "/claim/cut.py" 338),(.int 49 0),(.int 3 0),(.int 0 0),(.int 0 0),(.int 3 0),(.ref 118),(.bool true),(.int 181 0),(.ref 119),.none,(.ref 120),(.ref 121),(.ref 122),(.int 344 0),(.int 49 0),(.str "/claim/cut.py" 345)]),#[]⟩) ::
 (nat_lit 124,⟨(.type "function"),none,(.func ⟨"write_value","write_value",⟨[],[⟨"target",none,⟨49,16,49,22⟩⟩,⟨"value",none,⟨49,24,49,29⟩⟩,⟨"form",none,⟨49,31,49,35⟩⟩],none,[],[],none,[]⟩,(.stmts [(.If (.Compare (.Name "form" ⟨50,7,50,11⟩) [.GtE] [(.Name "LEAST_DEVICE" ⟨50,15,50,27⟩)] ⟨50,7,50,27⟩) [(.Raise (some (.Call (.Name "TableFault" ⟨51,14,51,24⟩) [(.Constant (.str "a format of values with devices") 0 ⟨51,25,51,58⟩)] [] ⟨51,14,51,59⟩)) none ⟨51,8,51,59⟩)] [] ⟨50,4,51,59⟩),(.For (.Tuple [(.Name "place" ⟨52,8,52,13⟩),(.Name "field" ⟨52,15,52,20⟩)] 0 ⟨52,8,52,20⟩) (.Call (.Name "enumerate" ⟨52,24,52,33⟩) [(.Call (.Attribute (.Name "value" ⟨52,34,52,39⟩) "told" ⟨52,34,52,44⟩) [] [] ⟨52,34,52,46⟩)] [] ⟨52,24,52,47⟩) [(.If (.Compare (.BinOp (.BinOp (.Name "form" ⟨53,11,53,15⟩) .RShift (.Name "place" ⟨53,19,53,24⟩) ⟨53,11,53,24⟩) .BitAnd (.Constant (.int 1) 0 ⟨53,27,53,28⟩) ⟨53,11,53,28⟩) [.Eq] [(.Constant (.int 1) 0 ⟨53,32,53,33⟩)] ⟨53,11,53,33⟩) [(.Expr (.Call (.Attribute (.Name "target" ⟨54,12,54,18⟩) "i16" ⟨54,12,54,22⟩) [(.Name "field" ⟨54,23,54,28⟩)] [] ⟨54,12,54,29⟩) ⟨54,12,54,29⟩)] [(.If (.Compare (.Name "field" ⟨55,13,55,18⟩) [.NotEq] [(.Constant (.int 0) 0 ⟨55,22,55,23⟩)] ⟨55,13,55,23⟩) [(.Raise (some (.Call (.Name "TableFault" ⟨56,18,56,28⟩) [(.Constant (.str "a value that its format has no place for") 0 ⟨56,29,56,71⟩)] [] ⟨56,18,56,72⟩)) none ⟨56,12,56,72⟩)] [] ⟨55,8,56,72⟩)] ⟨53,8,56,72⟩)] [] ⟨52,4,56,72⟩)]),⟨.function,[("target",.local),("value",.local),("form",.local),("place",.local),("field",.local),("LEAST_DEVICE",.globalImplicit),("TableFault",.globalImplicit),("enumerate",.globalImplicit)],false,false,[]⟩,3,[],.none,.none,.none,(.str "joinedhand.values" 254),none,(.ref 123),.none,0⟩),#[]⟩) ::
 (nat_lit 125,⟨(.type "tuple"),none,(.seq #[] 0),#[]⟩) ::
 (nat_lit 127,⟨(.type "tuple"),none,(.seq #[(.str "values" 350),(.str "form" 351),(.str "value" 352),(.str "place" 353),(.str "field" 354)] 0),#[]⟩) ::
 (nat_lit 128,⟨(.type "tuple"),none,(.seq #[] 0),#[]⟩) ::
 (nat_lit 130,⟨(.type "code"),none,(.fields #[(.str "form_of" 347),(.str "form_of" 348),(.str "/claim/cut.py" 349),(.int 57 0),(.int 1 0),(.int 0 0),(.int 0 0),(.int 3 0),(.ref 125),(.bool true),(.int 181 0),(.ref 126),.none,(.ref 127),(.ref 128),(.ref 129),(.int 355 0),(.int 57 0),(.str "/claim/cut.py" 356)]),#[]⟩) ::
 (nat_lit 131,⟨(.type "function"),none,(.func ⟨"form_of","form_of",⟨[],[⟨"values",none,⟨57,12,57,18⟩⟩],none,[],[],none,[]⟩,(.stmts [(.Assign [(.Name "form" ⟨58,4,58,8⟩)] (.Constant (.int 0) 0 ⟨58,11,58,12⟩) ⟨58,4,58,12⟩),(.For (.Name "value" ⟨59,8,59,13⟩) (.Name "values" ⟨59,17,59,23⟩) [(.For (.Tuple [(.Name "place" ⟨60,12,60,17⟩),(.Name "field" ⟨60,19,60,24⟩)] 0 ⟨60,12,60,24⟩) (.Call (.Name "enumerate" ⟨60,28,60,37⟩) [(.Call (.Attribute (.Name "value" ⟨60,38,60,43⟩) "told" ⟨60,38,60,48⟩) [] [] ⟨60,38,60,50⟩)] [] ⟨60,28,60,51⟩) [(.If (.Compare (.Name "field" ⟨61,15,61,20⟩) [.NotEq] [(.Constant (.int 0) 0 ⟨61,24,61,25⟩)] ⟨61,15,61,25⟩) [(.Assign [(.Name "form" ⟨62,16,62,20⟩)] (.BinOp (.Name "form" ⟨62,23,62,27⟩) .BitOr (.BinOp (.Constant (.int 1) 0 ⟨62,30,62,31⟩) .LShift (.Name "place" ⟨62,35,62,40⟩) ⟨62,30,62,40⟩) ⟨62,23,62,40⟩) ⟨62,16,62,40⟩)] [] ⟨61,12,62,40⟩)] [] ⟨60,8,62,40⟩)] [] ⟨59,4,62,40⟩),(.Return (some (.Name "form" ⟨63,11,63,15⟩)) ⟨63,4,63,15⟩)]),⟨.function,[("values",.local),("form",.local),("value",.local),("place",.local),("field",.local),("enumerate",.globalImplicit)],false,false,[]⟩,3,[],.none,.none,.none,(.str "joinedhand.values" 254),none,(.ref 130),.none,0⟩),#[]⟩) ::
 (nat_lit 132,⟨(.type "tuple"),none,(.seq #[] 0),#[]⟩) ::
 (nat_lit 134,⟨(.type "tuple"),none,(.seq #[(.str "info" 361),(.str "value" 362),(.str "is_backward" 363)] 0),#[]⟩) ::
 (nat_lit 135,⟨(.type "tuple"),none,(.seq #[] 0),#[]⟩) ::
 (nat_lit 137,⟨(.type "code"),none,(.fields #[(.str "add_value" 358),(.str "add_value" 359),(.str "/claim/cut.py" 360),(.int 64 0),(.int 3 0),(.int 0 0),(.int 0 0),(.int 3 0),(.ref 132),(.bool true),(.int 181 0),(.ref 133),.none,(.ref 134),(.ref 135),(.ref 136),(.int 364 0),(.int 64 0),(.str "/claim/cut.py" 365)]),#[]⟩) ::
 (nat_lit 138,⟨(.type "function"),none,(.func ⟨"add_value","add_value",⟨[],[⟨"info",none,⟨64,14,64,18⟩⟩,⟨"value",none,⟨64,20,64,25⟩⟩,⟨"is_backward",none,⟨64,27,64,38⟩⟩],none,[],[],none,[]⟩,(.stmts [(.Assign [(.Attribute (.Name "info" ⟨65,4,65,8⟩) "x_offset" ⟨65,4,65,17⟩)] (.BinOp (.Attribute (.Name "info" ⟨65,20,65,24⟩) "x_offset" ⟨65,20,65,33⟩) .Add (.Attribute (.Name "value" ⟨65,36,65,41⟩) "x_offset" ⟨65,36,65,50⟩) ⟨65,20,65,50⟩) ⟨65,4,65,50⟩),(.Assign [(.Attribute (.Name "info" ⟨66,4,66,8⟩) "y_offset" ⟨66,4,66,17⟩)] (.BinOp (.Attribute (.Name "info" ⟨66,20,66,24⟩) "y_offset" ⟨66,20,66,33⟩) .Add (.Attribute (.Name "value" ⟨66,36,66,41⟩) "y_offset" ⟨66,36,66,50⟩) ⟨66,20,66,50⟩) ⟨66,4,66,50⟩),(.Assign [(.Attribute (.Name "info" ⟨67,4,67,8⟩) "x_advance" ⟨67,4,67,18⟩)] (.BinOp (.Attribute (.Name "info" ⟨67,21,67,25⟩) "x_advance" ⟨67,21,67,35⟩) .Add (.Attribute (.Name "value" ⟨67,38,67,43⟩) "x_advance" ⟨67,38,67,53⟩) ⟨67,21,67,53⟩) ⟨67,4,67,53⟩)]),⟨.function,[("info",.local),("value",.local),("is_backward",.local)],false,false,[]⟩,3,[],.none,.none,.none,(.str "joinedhand.values" 254),none,(.ref 137),.none,0⟩),#[]⟩) ::
 (nat_lit 146,⟨(.type "tuple"),none,(.seq #[] 0),#[]⟩) ::
 (nat_lit 148,⟨(.type "tuple"),none,(.seq #[(.str "self" 384),(.str "code" 385),(.str "glyph" 386),(.str "cluster" 387)] 0),#[]⟩) ::
 (nat_lit 149,⟨(.type "tuple"),none,(.seq #[] 0),#[]⟩) ::
 (nat_lit 151,⟨(.type "code"),none,(.fields #[(.str "__init__" 381),(.str "Info.__init__" 382),(.str "/claim/cut.py" 383),(.int 71 0),(.int 4 0),(.int 0 0),(.int 0 0),(.int 3 0),(.ref 146),(.bool true),(.int 181 0),(.ref 147),.none,(.ref 148),(.ref 149),(.ref 150),(.int 388 0),(.int 71 0),(.str "/claim/cut.py" 389)]),#[]⟩) ::
 (nat_lit 152,⟨(.type "function"),none,(.func ⟨"__init__","Info.__init__",⟨[],[⟨"self",none,⟨71,17,71,21⟩⟩,⟨"code",none,⟨71,23,71,27⟩⟩,⟨"glyph",none,⟨71,29,71,34⟩⟩,⟨"cluster",none,⟨71,36,71,43⟩⟩],none,[],[],none,[]⟩,(.stmts [(.Assign [(.Attribute (.Name "self" ⟨72,8,72,12⟩) "code" ⟨72,8,72,17⟩)] (.Name "code" ⟨72,20,72,24⟩) ⟨72,8,72,24⟩),(.Assign [(.Attribute (.Name "self" ⟨73,8,73,12⟩) "glyph" ⟨73,8,73,18⟩)] (.Name "glyph" ⟨73,21,73,26⟩) ⟨73,8,73,26⟩),(.Assign [(.Attribute (.Name "self" ⟨74,8,74,12⟩) "cluster" ⟨74,8,74,20⟩)] (.Name "cluster" ⟨74,23,74,30⟩) ⟨74,8,74,30⟩),(.Assign [(.Attribute (.Name "self" ⟨75,8,75,12⟩) "mask" ⟨75,8,75,17⟩)] (.Constant (.int 0) 0 ⟨75,20,75,21⟩) ⟨75,8,75,21⟩),(.Assign [(.Attribute (.Name "self" ⟨76,8,76,12⟩) "is_unsafe" ⟨76,8,76,22⟩)] (.Constant (.bool false) 0 ⟨76,25,76,30⟩) ⟨76,8,76,30⟩),(.Assign [(.Attribute (.Name "self" ⟨77,8,77,12⟩) "lig_id" ⟨77,8,77,19⟩)] (.Constant (.int 0) 0 ⟨77,22,77,23⟩) ⟨77,8,77,23⟩),(.Assign [(.Attribute (.Name "self" ⟨78,8,78,12⟩) "lig_part" ⟨78,8,78,21⟩)] (.Constant (.int 0) 0 ⟨78,24,78,25⟩) ⟨78,8,78,25⟩),(.Assign [(.Attribute (.Name "self" ⟨79,8,79,12⟩) "lig_count" ⟨79,8,79,22⟩)] (.Constant (.int 0) 0 ⟨79,25,79,26⟩) ⟨79,8,79,26⟩),(.Assign [(.Attribute (.Name "self" ⟨80,8,80,12⟩) "kind" ⟨80,8,80,17⟩)] (.Constant (.str "") 0 ⟨80,20,80,22⟩) ⟨80,8,80,22⟩),(.Assign [(.Attribute (.Name "self" ⟨81,8,81,12⟩) "x_advance" ⟨81,8,81,22⟩)] (.Constant (.int 0) 0 ⟨81,25,81,26⟩) ⟨81,8,81,26⟩),(.Assign [(.Attribute (.Name "self" ⟨82,8,82,12⟩) "y_advance" ⟨82,8,82,22⟩)] (.Constant (.int 0) 0 ⟨82,25,82,26⟩) ⟨82,8,82,26⟩),(.Assign [(.Attribute (.Name "self" ⟨83,8,83,12⟩) "x_offset" ⟨83,8,83,21⟩)] (.Constant (.int 0) 0 ⟨83,24,83,25⟩) ⟨83,8,83,25⟩),(.Assign [(.Attribute (.Name "self" ⟨84,8,84,12⟩) "y_offset" ⟨84,8,84,21⟩)] (.Constant (.int 0) 0 ⟨84,24,84,25⟩) ⟨84,8,84,25⟩),(.Assign [(.Attribute (.Name "self" ⟨85,8,85,12⟩) "parent" ⟨85,8,85,19⟩)] (.Constant (.int 0) 0 ⟨85,22,85,23⟩) ⟨85,8,85,23⟩),(.Assign [(.Attribute (.Name "self" ⟨86,8,86,12⟩) "bond" ⟨86,8,86,17⟩)] (.Constant (.str "") 0 ⟨86,20,86,22⟩) ⟨86,8,86,22⟩)]),⟨.function,[("self",.local),("code",.local),("glyph",.local),("cluster",.local)],false,false,[]⟩,3,[],.none,.none,.none,(.str "joinedhand.buffer" 367),none,(.ref 151),.none,0⟩),#[]⟩) ::
 (nat_lit 153,⟨(.type "tuple"),none,(.seq #[] 0),#[]⟩) ::
 (nat_lit 155,⟨(.type "tuple"),none,(.seq #[(.str "self" 394)] 0),#[]⟩) ::
 (nat_lit 156,⟨(.type "tuple"),none,(.seq #[] 0),#[]⟩) ::
 (nat_lit 158,⟨(.type "code"),none,(.fields #[(.str "copied" 391),(.str "Info.copied" 392),(.str "/claim/cut.py" 393),(.int 88 0),(.int 1 0),(.int 0 0),(.int 0 0),(.int 3 0),(.ref 153),(.bool true),(.int 181 0),(.ref 154),.none,(.ref 155),(.ref 156),(.ref 157),(.int 395 0),(.int 88 0),(.str "/claim/cut.py" 396)]),#[]⟩) ::
 (nat_lit 159,⟨(.type "function"),none,(.func ⟨"copied","Info.copied",⟨[],[⟨"self",none,⟨88,15,88,19⟩⟩],none,[],[],none,[]⟩,(.stmts [(.Expr (.Call (.Name "_wall" ⟨89,8,89,13⟩) [(.Constant (.int 0) 0 ⟨89,14,89,15⟩)] [] ⟨89,8,89,16⟩) ⟨89,8,89,16⟩)]),⟨.function,[("self",.local),("_wall",.globalImplicit)],false,false,[]⟩,3,[],.none,.none,.none,(.str "joinedhand.buffer" 367),none,(.ref 158),.none,0⟩),#[]⟩) ::
 (nat_lit 160,⟨(.type "tuple"),none,(.seq #[] 0),#[]⟩) ::
 (nat_lit 162,⟨(.type "tuple"),none,(.seq #[(.str "self" 401)] 0),#[]⟩) ::
 (nat_lit 163,⟨(.type "tuple"),none,(.seq #[] 0),#[]⟩) ::
 (nat_lit 165,⟨(.type "code"),none,(.fields #[(.str "told" 398),(.str "Info.told" 399),(.str "/claim/cut.py" 400),(.int 91 0),(.int 1 0),(.int 0 0),(.int 0 0),(.int 3 0),(.ref 160),(.bool true),(.int 181 0),(.ref 161),.none,(.ref 162),(.ref 163),(.ref 164),(.int 402 0),(.int 91 0),(.str "/claim/cut.py" 403)]),#[]⟩) ::
 (nat_lit 166,⟨(.type "function"),none,(.func ⟨"told","Info.told",⟨[],[⟨"self",none,⟨91,13,91,17⟩⟩],none,[],[],none,[]⟩,(.stmts [(.Return (some (.Tuple [(.Attribute (.Name "self" ⟨92,16,92,20⟩) "glyph" ⟨92,16,92,26⟩),(.Attribute (.Name "self" ⟨92,28,92,32⟩) "cluster" ⟨92,28,92,40⟩),(.Attribute (.Name "self" ⟨92,42,92,46⟩) "x_advance" ⟨92,42,92,56⟩),(.Attribute (.Name "self" ⟨92,58,92,62⟩) "y_advance" ⟨92,58,92,72⟩),(.Attribute (.Name "self" ⟨92,74,92,78⟩) "x_offset" ⟨92,74,92,87⟩),(.Attribute (.Name "self" ⟨92,89,92,93⟩) "y_offset" ⟨92,89,92,102⟩)] 0 ⟨92,15,92,103⟩)) ⟨92,8,92,103⟩)]),⟨.function,[("self",.local)],false,false,[]⟩,3,[],.none,.none,.none,(.str "joinedhand.buffer" 367),none,(.ref 165),.none,0⟩),#[]⟩) ::
 (nat_lit 167,⟨(.type "tuple"),none,(.seq #[(.str "bond" 405),(.str "cluster" 406),(.str "code" 407),(.str "glyph" 408),(.str "is_unsafe" 409),(.str "kind" 410),(.str "lig_count" 411),(.str "lig_id" 412),(.str "lig_part" 413),(.str "mask" 414),(.str "parent" 415),(.str "x_advance" 416),(.str "x_offset" 417),(.str "y_advance" 418),(.str "y_offset" 419)] 0),#[]⟩) ::
 (nat_lit 168,⟨(.type "dict"),none,(.dict #[⟨(PySem.PyData.keyHash P "__module__"),(.str "__module__" 376),(.str "joinedhand.buffer" 367)⟩,⟨(PySem.PyData.keyHash P "__firstlineno__"),(.str "__firstlineno__" 380),(.int 69 379)⟩,⟨(PySem.PyData.keyHash P "__init__"),(.str "__init__" 390),(.ref 152)⟩,⟨(PySem.PyData.keyHash P "copied"),(.str "copied" 397),(.ref 159)⟩,⟨(PySem.PyData.keyHash P "told"),(.str "told" 404),(.ref 166)⟩,⟨(PySem.PyData.keyHash P "__static_attributes__"),(.str "__static_attributes__" 420),(.ref 167)⟩,⟨(PySem.PyData.keyHash P "__dict__"),(.str "__dict__" 422),(.ref 170)⟩,⟨(PySem.PyData.keyHash P "__weakref__"),(.str "__weakref__" 424),(.ref 171)⟩,⟨(PySem.PyData.keyHash P "__doc__"),(.str "__doc__" 425),.none⟩] 4),#[]⟩) ::
 (nat_lit 169,⟨(.type "type"),none,(.cls ⟨"Info",[(.type "object")],[(.ref 169),(.type "object")],168,"Info",true,[],[],false,none,false⟩),#[none,none,(some (.str "Info" 369)),(some (.str "Info" 377)),(some (.builtin "object.__new__")),(some (.bool true))]⟩) ::
 (nat_lit 170,⟨(.type "getset_descriptor"),none,(.fields #[(.str "__dict__" 421),(.ref 169),(.builtin "function.__dict__"),(.builtin "function.__dict__#set")]),#[]⟩) ::
 (nat_lit 171,⟨(.type "getset_descriptor"),none,(.fields #[(.str "__weakref__" 423),(.ref 169),(.builtin "ExceptionGroup.__weakref__"),.none]),#[]⟩) ::
 (nat_lit 174,⟨(.type "tuple"),none,(.seq #[] 0),#[]⟩) ::
 (nat_lit 176,⟨(.type "tuple"),none,(.seq #[(.str "data" 433),(.str "at" 434),(.str "count" 435)] 0),#[]⟩) ::
 (nat_lit 177,⟨(.type "tuple"),none,(.seq #[] 0),#[]⟩) ::
 (nat_lit 179,⟨(.type "code"),none,(.fields #[(.str "check_room" 430),(.str "check_room" 431),(.str "/claim/cut.py" 432),(.int 94 0),(.int 3 0),(.int 0 0),(.int 0 0),(.int 3 0),(.ref 174),(.bool true),(.int 181 0),(.ref 175),.none,(.ref 176),(.ref 177),(.ref 178),(.int 436 0),(.int 94 0),(.str "/claim/cut.py" 437)]),#[]⟩) ::
 (nat_lit 180,⟨(.type "function"),none,(.func ⟨"check_room","check_room",⟨[],[⟨"data",none,⟨94,15,94,19⟩⟩,⟨"at",none,⟨94,21,94,23⟩⟩,⟨"count",none,⟨94,25,94,30⟩⟩],none,[],[],none,[]⟩,(.stmts [(.If (.BoolOp .Or [(.Compare (.Name "at" ⟨95,7,95,9⟩) [.Lt] [(.Constant (.int 0) 0 ⟨95,12,95,13⟩)] ⟨95,7,95,13⟩),(.Compare (.BinOp (.Name "at" ⟨95,17,95,19⟩) .Add (.Name "count" ⟨95,22,95,27⟩) ⟨95,17,95,27⟩) [.Gt] [(.Call (.Name "len" ⟨95,30,95,33⟩) [(.Name "data" ⟨95,34,95,38⟩)] [] ⟨95,30,95,39⟩)] ⟨95,17,95,39⟩)] ⟨95,7,95,39⟩) [(.Raise (some (.Call (.Name "TableFault" ⟨96,14,96,24⟩) [(.Constant (.str "the table ends") 0 ⟨96,25,96,41⟩),(.Name "at" ⟨96,43,96,45⟩)] [] ⟨96,14,96,46⟩)) none ⟨96,8,96,46⟩)] [] ⟨95,4,96,46⟩)]),⟨.function,[("data",.local),("at",.local),("count",.local),("len",.globalImplicit),("TableFault",.globalImplicit)],false,false,[]⟩,3,[],.none,.none,.none,(.str "joinedhand.octets" 428),none,(.ref 179),.none,0⟩),#[]⟩) ::
 (nat_lit 181,⟨(.type "tuple"),none,(.seq #[] 0),#[]⟩) ::
 (nat_lit 183,⟨(.type "tuple"),none,(.seq #[(.str "data" 442),(.str "at" 443),(.str "count" 444),(.str "total" 445),(.str "code" 446)] 0),#[]⟩) ::
 (nat_lit 184,⟨(.type "tuple"),none,(.seq #[] 0),#[]⟩) ::
 (nat_lit 186,⟨(.type "code"),none,(.fields #[(.str "number_at" 439),(.str "number_at" 440),(.str "/claim/cut.py" 441),(.int 97 0),(.int 3 0),(.int 0 0),(.int 0 0),(.int 3 0),(.ref 181),(.bool true),(.int 181 0),(.ref 182),.none,(.ref 183),(.ref 184),(.ref 185),(.int 447 0),(.int 97 0),(.str "/claim/cut.py" 448)]),#[]⟩) ::
 (nat_lit 187,⟨(.type "function"),none,(.func ⟨"number_at","number_at",⟨[],[⟨"data",none,⟨97,14,97,18⟩⟩,⟨"at",none,⟨97,20,97,22⟩⟩,⟨"count",none,⟨97,24,97,29⟩⟩],none,[],[],none,[]⟩,(.stmts [(.Expr (.Call (.Name "check_room" ⟨98,4,98,14⟩) [(.Name "data" ⟨98,15,98,19⟩),(.Name "at" ⟨98,21,98,23⟩),(.Name "count" ⟨98,25,98,30⟩)] [] ⟨98,4,98,31⟩) ⟨98,4,98,31⟩),(.Assign [(.Name "total" ⟨99,4,99,9⟩)] (.Constant (.int 0) 0 ⟨99,12,99,13⟩) ⟨99,4,99,13⟩),(.For (.Name "code" ⟨100,8,100,12⟩) (.Subscript (.Name "data" ⟨100,16,100,20⟩) (.Slice (some (.Name "at" ⟨100,21,100,23⟩)) (some (.BinOp (.Name "at" ⟨100,24,100,26⟩) .Add (.Name "count" ⟨100,29,100,34⟩) ⟨100,24,100,34⟩)) none ⟨100,21,100,34⟩) ⟨100,16,100,35⟩) [(.Assign [(.Name "total" ⟨101,8,101,13⟩)] (.BinOp (.BinOp (.Name "total" ⟨101,16,101,21⟩) .LShift (.Constant (.int 8) 0 ⟨101,25,101,26⟩) ⟨101,16,101,26⟩) .BitOr (.Name "code" ⟨101,29,101,33⟩) ⟨101,16,101,33⟩) ⟨101,8,101,33⟩)] [] ⟨100,4,101,33⟩),(.Return (some (.Name "total" ⟨102,11,102,16⟩)) ⟨102,4,102,16⟩)]),⟨.function,[("data",.local),("at",.local),("count",.local),("total",.local),("code",.local),("check_room",.globalImplicit)],false,false,[]⟩,3,[],.none,.none,.none,(.str "joinedhand.octets" 428),none,(.ref 186),.none,0⟩),#[]⟩) ::
 (nat_lit 188,⟨(.type "tuple"),none,(.seq #[] 0),#[]⟩) ::
 (nat_lit 190,⟨(.type "tuple"),none,(.seq #[(.str "number" 453),(.str "bits" 454)] 0),#[]⟩) ::
 (nat_lit 191,⟨(.type "tuple"),none,(.seq #[] 0),#[]⟩) ::
 (nat_lit 193,⟨(.type "code"),none,(.fields #[(.str "signed" 450),(.str "signed" 451),(.str "/claim/cut.py" 452),(.int 103 0),(.int 2 0),(.int 0 0),(.int 0 0),(.int 3 0),(.ref 188),(.bool true),(.int 181 0),(.ref 189),.none,(.ref 190),(.ref 191),(.ref 192),(.int 455 0),(.int 103 0),(.str "/claim/cut.py" 456)]),#[]⟩) ::
 (nat_lit 194,⟨(.type "function"),none,(.func ⟨"signed","signed",⟨[],[⟨"number",none,⟨103,11,103,17⟩⟩,⟨"bits",none,⟨103,19,103,23⟩⟩],none,[],[],none,[]⟩,(.stmts [(.If (.Compare (.BinOp (.Name "number" ⟨104,7,104,13⟩) .RShift (.BinOp (.Name "bits" ⟨104,17,104,21⟩) .Sub (.Constant (.int 1) 0 ⟨104,24,104,25⟩) ⟨104,17,104,25⟩) ⟨104,7,104,25⟩) [.Eq] [(.Constant (.int 1) 0 ⟨104,29,104,30⟩)] ⟨104,7,104,30⟩) [(.Return (some (.BinOp (.Name "number" ⟨105,15,105,21⟩) .Sub (.BinOp (.Constant (.int 1) 0 ⟨105,25,105,26⟩) .LShift (.Name "bits" ⟨105,30,105,34⟩) ⟨105,25,105,34⟩) ⟨105,15,105,35⟩)) ⟨105,8,105,35⟩)] [] ⟨104,4,105,35⟩),(.Return (some (.Name "number" ⟨106,11,106,17⟩)) ⟨106,4,106,17⟩)]),⟨.function,[("number",.local),("bits",.local)],false,false,[]⟩,3,[],.none,.none,.none,(.str "joinedhand.octets" 428),none,(.ref 193),.none,0⟩),#[]⟩) ::
 (nat_lit 202,⟨(.type "tuple"),none,(.seq #[(.int 0 470)] 0),#[]⟩) ::
 (nat_lit 203,⟨(.type "tuple"),none,(.seq #[] 0),#[]⟩) ::
 (nat_lit 205,⟨(.type "tuple"),none,(.seq #[(.str "self" 474),(.str "data" 475),(.str "at" 476)] 0),#[]⟩) ::
 (nat_lit 206,⟨(.type "tuple"),none,(.seq #[] 0),#[]⟩) ::
 (nat_lit 208,⟨(.type "code"),none,(.fields #[(.str "__init__" 471),(.str "OctetsIn.__init__" 472),(.str "/claim/cut.py" 473),(.int 109 0),(.int 3 0),(.int 0 0),(.int 0 0),(.int 3 0),(.ref 203),(.bool true),(.int 181 0),(.ref 204),.none,(.ref 205),(.ref 206),(.ref 207),(.int 477 0),(.int 109 0),(.str "/claim/cut.py" 478)]),#[]⟩) ::
 (nat_lit 209,⟨(.type "function"),none,(.func ⟨"__init__","OctetsIn.__init__",⟨[],[⟨"self",none,⟨109,17,109,21⟩⟩,⟨"data",none,⟨109,23,109,27⟩⟩,⟨"at",none,⟨109,29,109,31⟩⟩],none,[],[],none,[(.Constant (.int 0) 0 ⟨109,32,109,33⟩)]⟩,(.stmts [(.Assign [(.Attribute (.Name "self" ⟨110,8,110,12⟩) "data" ⟨110,8,110,17⟩)] (.Name "data" ⟨110,20,110,24⟩) ⟨110,8,110,24⟩),(.Assign [(.Attribute (.Name "self" ⟨111,8,111,12⟩) "at" ⟨111,8,111,15⟩)] (.Name "at" ⟨111,18,111,20⟩) ⟨111,8,111,20⟩)]),⟨.function,[("self",.local),("data",.local),("at",.local)],false,false,[]⟩,3,[],(.ref 202),.none,.none,(.str "joinedhand.octets" 428),none,(.ref 208),.none,0⟩),#[]⟩) ::
 (nat_lit 210,⟨(.type "tuple"),none,(.seq #[] 0),#[]⟩) ::
 (nat_lit 212,⟨(.type "tuple"),none,(.seq #[(.str "self" 483),(.str "count" 484)] 0),#[]⟩) ::
 (nat_lit 213,⟨(.type "tuple"),none,(.seq #[] 0),#[]⟩) ::
 (nat_lit 215,⟨(.type "code"),none,(.fields #[(.str "need" 480),(.str "OctetsIn.need" 481),(.str "/claim/cut.py" 482),(.int 113 0),(.int 2 0),(.int 0 0),(.int 0 0),(.int 3 0),(.ref 210),(.bool true),(.int 181 0),(.ref 211),.none,(.ref 212),(.ref 213),(.ref 214),(.int 485 0),(.int 113 0),(.str "/claim/cut.py" 486)]),#[]⟩) ::
 (nat_lit 216,⟨(.type "function"),none,(.func ⟨"need","OctetsIn.need",⟨[],[⟨"self",none,⟨113,13,113,17⟩⟩,⟨"count",none,⟨113,19,113,24⟩⟩],none,[],[],none,[]⟩,(.stmts [(.Expr (.Call (.Name "check_room" ⟨114,8,114,18⟩) [(.Attribute (.Name "self" ⟨114,19,114,23⟩) "data" ⟨114,19,114,28⟩),(.Attribute (.Name "self" ⟨114,30,114,34⟩) "at" ⟨114,30,114,37⟩),(.Name "count" ⟨114,39,114,44⟩)] [] ⟨114,8,114,45⟩) ⟨114,8,114,45⟩)]),⟨.function,[("self",.local),("count",.local),("check_room",.globalImplicit)],false,false,[]⟩,3,[],.none,.none,.none,(.str "joinedhand.octets" 428),none,(.ref 215),.none,0⟩),#[]⟩) ::
 (nat_lit 217,⟨(.type "tuple"),none,(.seq #[] 0),#[]⟩) ::
 (nat_lit 219,⟨(.type "tuple"),none,(.seq #[(.str "self" 491),(.str "count" 492),(.str "found" 493)] 0),#[]⟩) ::
 (nat_lit 220,⟨(.type "tuple"),none,(.seq #[] 0),#[]⟩) ::
 (nat_lit 222,⟨(.type "code"),none,(.fields #[(.str "number" 488),(.str "OctetsIn.number" 489),(.str "/claim/cut.py" 490),(.int 116 0),(.int 2 0),(.int 0 0),(.int 0 0),(.int 3 0),(.ref 217),(.bool true),(.int 181 0),(.ref 218),.none,(.ref 219),(.ref 220),(.ref 221),(.int 494 0),(.int 116 0),(.str "/claim/cut.py" 495)]),#[]⟩) ::
 (nat_lit 223,⟨(.type "function"),none,(.func ⟨"number","OctetsIn.number",⟨[],[⟨"self",none,⟨116,15,116,19⟩⟩,⟨"count",none,⟨116,21,116,26⟩⟩],none,[],[],none,[]⟩,(.stmts [(.Assign [(.Name "found" ⟨117,8,117,13⟩)] (.Call (.Name "number_at" ⟨117,16,117,25⟩) [(.Attribute (.Name "self" ⟨117,26,117,30⟩) "data" ⟨117,26,117,35⟩),(.Attribute (.Name "self" ⟨117,37,117,41⟩) "at" ⟨117,37,117,44⟩),(.Name "count" ⟨117,46,117,51⟩)] [] ⟨117,16,117,52⟩) ⟨117,8,117,52⟩),(.Assign [(.Attribute (.Name "self" ⟨118,8,118,12⟩) "at" ⟨118,8,118,15⟩)] (.BinOp (.Attribute (.Name "self" ⟨118,18,118,22⟩) "at" ⟨118,18,118,25⟩) .Add (.Name "count" ⟨118,28,118,33⟩) ⟨118,18,118,33⟩) ⟨118,8,118,33⟩),(.Return (some (.Name "found" ⟨119,15,119,20⟩)) ⟨119,8,119,20⟩)]),⟨.function,[("self",.local),("count",.local),("found",.local),("number_at",.globalImplicit)],false,false,[]⟩,3,[],.none,.none,.none,(.str "joinedhand.octets" 428),none,(.ref 222),.none,0⟩),#[]⟩) ::
 (nat_lit 224,⟨(.type "tuple"),none,(.seq #[] 0),#[]⟩) ::
 (nat_lit 226,⟨(.type "tuple"),none,(.seq #[(.str "self" 500)] 0),#[]⟩) ::
 (nat_lit 227,⟨(.type "tuple"),none,(.seq #[] 0),#[]⟩) ::
 (nat_lit 229,⟨(.type "code"),none,(.fields #[(.str "u8" 497),(.str "OctetsIn.u8" 498),(.str "/claim/cut.py" 499),(.int 121 0),(.int 1 0),(.int 0 0),(.int 0 0),(.int 3 0),(.ref 224),(.bool true),(.int 181 0),(.ref 225),.none,(.ref 226),(.ref 227),(.ref 228),(.int 501 0),(.int 121 0),(.str "/claim/cut.py" 502)]),#[]⟩) ::
 (nat_lit 230,⟨(.type "function"),none,(.func ⟨"u8","OctetsIn.u8",⟨[],[⟨"self",none,⟨121,11,121,15⟩⟩],none,[],[],none,[]⟩,(.stmts [(.Expr (.Call (.Name "_wall" ⟨122,8,122,13⟩) [(.Constant (.int 1) 0 ⟨122,14,122,15⟩)] [] ⟨122,8,122,16⟩) ⟨122,8,122,16⟩)]),⟨.function,[("self",.local),("_wall",.globalImplicit)],false,false,[]⟩,3,[],.none,.none,.none,(.str "joinedhand.octets" 428),none,(.ref 229),.none,0⟩),#[]⟩) ::
 (nat_lit 231,⟨(.type "tuple"),none,(.seq #[] 0),#[]⟩) ::
 (nat_lit 233,⟨(.type "tuple"),none,(.seq #[(.str "self" 507)] 0),#[]⟩) ::
 (nat_lit 234,⟨(.type "tuple"),none,(.seq #[] 0),#[]⟩) ::
 (nat_lit 236,⟨(.type "code"),none,(.fields #[(.str "u16" 504),(.str "OctetsIn.u16" 505),(.str "/claim/cut.py" 506),(.int 124 0),(.int 1 0),(.int 0 0),(.int 0 0),(.int 3 0),(.ref 231),(.bool true),(.int 181 0),(.ref 232),.none,(.ref 233),(.ref 234),(.ref 235),(.int 508 0),(.int 124 0),(.str "/claim/cut.py" 509)]),#[]⟩) ::
 (nat_lit 237,⟨(.type "function"),none,(.func ⟨"u16","OctetsIn.u16",⟨[],[⟨"self",none,⟨124,12,124,16⟩⟩],none,[],[],none,[]⟩,(.stmts [(.Return (some (.Call (.Attribute (.Name "self" ⟨125,15,125,19⟩) "number" ⟨125,15,125,26⟩) [(.Constant (.int 2) 0 ⟨125,27,125,28⟩)] [] ⟨125,15,125,29⟩)) ⟨125,8,125,29⟩)]),⟨.function,[("self",.local)],false,false,[]⟩,3,[],.none,.none,.none,(.str "joinedhand.octets" 428),none,(.ref 236),.none,0⟩),#[]⟩) ::
 (nat_lit 238,⟨(.type "tuple"),none,(.seq #[] 0),#[]⟩) ::
 (nat_lit 240,⟨(.type "tuple"),none,(.seq #[(.str "self" 514)] 0),#[]⟩) ::
 (nat_lit 241,⟨(.type "tuple"),none,(.seq #[] 0),#[]⟩) ::
 (nat_lit 243,⟨(.type "code"),none,(.fields #[(.str "i16" 511),(.str "OctetsIn.i16" 512),(.str "/claim/cut.py" 513),(.int 127 0),(.int 1 0),(.int 0 0),(.int 0 0),(.int 3 0),(.ref 238),(.bool true),(.int 181 0),(.ref 239),.none,(.ref 240),(.ref 241),(.ref 242),(.int 515 0),(.int 127 0),(.str "/claim/cut.py" 516)]),#[]⟩) ::
 (nat_lit 244,⟨(.type "function"),none,(.func ⟨"i16","OctetsIn.i16",⟨[],[⟨"self",none,⟨127,12,127,16⟩⟩],none,[],[],none,[]⟩,(.stmts [(.Return (some (.Call (.Name "signed" ⟨128,15,128,21⟩) [(.Call (.Attribute (.Name "self" ⟨128,22,128,26⟩) "number" ⟨128,22,128,33⟩) [(.Constant (.int 2) 0 ⟨128,34,128,35⟩)] [] ⟨128,22,128,36⟩),(.Constant (.int 16) 0 ⟨128,38,128,40⟩)] [] ⟨128,15,128,41⟩)) ⟨128,8,128,41⟩)]),⟨.function,[("self",.local),("signed",.globalImplicit)],false,false,[]⟩,3,[],.none,.none,.none,(.str "joinedhand.octets" 428),none,(.ref 243),.none,0⟩),#[]⟩) ::
 (nat_lit 245,⟨(.type "tuple"),none,(.seq #[] 0),#[]⟩) ::
 (nat_lit 247,⟨(.type "tuple"),none,(.seq #[(.str "self" 521)] 0),#[]⟩) ::
 (nat_lit 248,⟨(.type "tuple"),none,(.seq #[] 0),#[]⟩) ::
 (nat_lit 250,⟨(.type "code"),none,(.fields #[(.str "u24" 518),(.str "OctetsIn.u24" 519),(.str "/claim/cut.py" 520),(.int 130 0),(.int 1 0),(.int 0 0),(.int 0 0),(.int 3 0),(.ref 245),(.bool true),(.int 181 0),(.ref 246),.none,(.ref 247),(.ref 248),(.ref 249),(.int 522 0),(.int 130 0),(.str "/claim/cut.py" 523)]),#[]⟩) ::
 (nat_lit 251,⟨(.type "function"),none,(.func ⟨"u24","OctetsIn.u24",⟨[],[⟨"self",none,⟨130,12,130,16⟩⟩],none,[],[],none,[]⟩,(.stmts [(.Expr (.Call (.Name "_wall" ⟨131,8,131,13⟩) [(.Constant (.int 2) 0 ⟨131,14,131,15⟩)] [] ⟨131,8,131,16⟩) ⟨131,8,131,16⟩)]),⟨.function,[("self",.local),("_wall",.globalImplicit)],false,false,[]⟩,3,[],.none,.none,.none,(.str "joinedhand.octets" 428),none,(.ref 250),.none,0⟩),#[]⟩) ::
 (nat_lit 252,⟨(.type "tuple"),none,(.seq #[] 0),#[]⟩) ::
 (nat_lit 254,⟨(.type "tuple"),none,(.seq #[(.str "self" 528)] 0),#[]⟩) ::
 (nat_lit 255,⟨(.type "tuple"),none,(.seq #[] 0),#[]⟩) ::
 (nat_lit 257,⟨(.type "code"),none,(.fields #[(.str "u32" 525),(.str "OctetsIn.u32" 526),(.str "/claim/cut.py" 527),(.int 133 0),(.int 1 0),(.int 0 0),(.int 0 0),(.int 3 0),(.ref 252),(.bool true),(.int 181 0),(.ref 253),.none,(.ref 254),(.ref 255),(.ref 256),(.int 529 0),(.int 133 0),(.str "/claim/cut.py" 530)]),#[]⟩) ::
 (nat_lit 258,⟨(.type "function"),none,(.func ⟨"u32","OctetsIn.u32",⟨[],[⟨"self",none,⟨133,12,133,16⟩⟩],none,[],[],none,[]⟩,(.stmts [(.Expr (.Call (.Name "_wall" ⟨134,8,134,13⟩) [(.Constant (.int 3) 0 ⟨134,14,134,15⟩)] [] ⟨134,8,134,16⟩) ⟨134,8,134,16⟩)]),⟨.function,[("self",.local),("_wall",.globalImplicit)],false,false,[]⟩,3,[],.none,.none,.none,(.str "joinedhand.octets" 428),none,(.ref 257),.none,0⟩),#[]⟩) ::
 (nat_lit 259,⟨(.type "tuple"),none,(.seq #[] 0),#[]⟩) ::
 (nat_lit 261,⟨(.type "tuple"),none,(.seq #[(.str "self" 535)] 0),#[]⟩) ::
 (nat_lit 262,⟨(.type "tuple"),none,(.seq #[] 0),#[]⟩) ::
 (nat_lit 264,⟨(.type "code"),none,(.fields #[(.str "tag" 532),(.str "OctetsIn.tag" 533),(.str "/claim/cut.py" 534),(.int 136 0),(.int 1 0),(.int 0 0),(.int 0 0),(.int 3 0),(.ref 259),(.bool true),(.int 181 0),(.ref 260),.none,(.ref 261),(.ref 262),(.ref 263),(.int 536 0),(.int 136 0),(.str "/claim/cut.py" 537)]),#[]⟩) ::
 (nat_lit 265,⟨(.type "function"),none,(.func ⟨"tag","OctetsIn.tag",⟨[],[⟨"self",none,⟨136,12,136,16⟩⟩],none,[],[],none,[]⟩,(.stmts [(.Expr (.Call (.Name "_wall" ⟨137,8,137,13⟩) [(.Constant (.int 4) 0 ⟨137,14,137,15⟩)] [] ⟨137,8,137,16⟩) ⟨137,8,137,16⟩)]),⟨.function,[("self",.local),("_wall",.globalImplicit)],false,false,[]⟩,3,[],.none,.none,.none,(.str "joinedhand.octets" 428),none,(.ref 264),.none,0⟩),#[]⟩) ::
 (nat_lit 266,⟨(.type "tuple"),none,(.seq #[] 0),#[]⟩) ::
 (nat_lit 269,⟨(.type "code"),none,(.fields #[(.str "rows" 539),(.str "OctetsIn.rows" 540),(.str "/claim/cut.py" 541),(.int 139 0),(.int 2 0),(.int 0 0),(.int 0 0),(.int 3 0),(.ref 266),(.bool true),(.int 181 0),(.ref 267),.none,.none,.none,(.ref 268),(.int 542 0),(.int 139 0),(.str "/claim/cut.py" 543)]),#[]⟩) ::
 (nat_lit 270,⟨(.type "function"),none,(.func ⟨"rows","OctetsIn.rows",⟨[],[⟨"self",none,⟨139,13,139,17⟩⟩,⟨"count",none,⟨139,19,139,24⟩⟩],none,[],[],none,[]⟩,(.stmts [(.Expr (.Call (.Attribute (.Name "self" ⟨140,8,140,12⟩) "need" ⟨140,8,140,17⟩) [(.BinOp (.Constant (.int 2) 0 ⟨140,18,140,19⟩) .Mult (.Name "count" ⟨140,22,140,27⟩) ⟨140,18,140,27⟩)] [] ⟨140,8,140,28⟩) ⟨140,8,140,28⟩),(.Return (some (.ListComp (.Call (.Attribute (.Name "self" ⟨141,16,141,20⟩) "u16" ⟨141,16,141,24⟩) [] [] ⟨141,16,141,26⟩) [⟨(.Name "turn" ⟨141,31,141,35⟩),(.Call (.Name "range" ⟨141,39,141,44⟩) [(.Name "count" ⟨141,45,141,50⟩)] [] ⟨141,39,141,51⟩),[],0⟩] ⟨.function,[(".0",.local),("turn",.local),("self",.free)],false,false,[]⟩ ⟨141,15,141,52⟩)) ⟨141,8,141,52⟩)]),⟨.function,[("self",.cell),("count",.local),("range",.globalImplicit)],false,false,[("fast",(.str "self")),("fast",(.str "count")),("fast",(.str "turn"))]⟩,3,[],.none,.none,.none,(.str "joinedhand.octets" 428),none,(.ref 269),.none,0⟩),#[]⟩) ::
 (nat_lit 271,⟨(.type "tuple"),none,(.seq #[] 0),#[]⟩) ::
 (nat_lit 273,⟨(.type "tuple"),none,(.seq #[(.str "self" 548),(.str "offset" 549)] 0),#[]⟩) ::
 (nat_lit 274,⟨(.type "tuple"),none,(.seq #[] 0),#[]⟩) ::
 (nat_lit 276,⟨(.type "code"),none,(.fields #[(.str "here" 545),(.str "OctetsIn.here" 546),(.str "/claim/cut.py" 547),(.int 143 0),(.int 2 0),(.int 0 0),(.int 0 0),(.int 3 0),(.ref 271),(.bool true),(.int 181 0),(.ref 272),.none,(.ref 273),(.ref 274),(.ref 275),(.int 550 0),(.int 143 0),(.str "/claim/cut.py" 551)]),#[]⟩) ::
 (nat_lit 277,⟨(.type "function"),none,(.func ⟨"here","OctetsIn.here",⟨[],[⟨"self",none,⟨143,13,143,17⟩⟩,⟨"offset",none,⟨143,19,143,25⟩⟩],none,[],[],none,[]⟩,(.stmts [(.Return (some (.Call (.Name "OctetsIn" ⟨144,15,144,23⟩) [(.Attribute (.Name "self" ⟨144,24,144,28⟩) "data" ⟨144,24,144,33⟩),(.Name "offset" ⟨144,35,144,41⟩)] [] ⟨144,15,144,42⟩)) ⟨144,8,144,42⟩)]),⟨.function,[("self",.local),("offset",.local),("OctetsIn",.globalImplicit)],false,false,[]⟩,3,[],.none,.none,.none,(.str "joinedhand.octets" 428),none,(.ref 276),.none,0⟩),#[]⟩) ::
 (nat_lit 278,⟨(.type "tuple"),none,(.seq #[(.str "at" 553),(.str "data" 554)] 0),#[]⟩) ::
 (nat_lit 279,⟨(.type "dict"),none,(.dict #[⟨(PySem.PyData.keyHash P "__module__"),(.str "__module__" 465),(.str "joinedhand.octets" 428)⟩,⟨(PySem.PyData.keyHash P "__firstlineno__"),(.str "__firstlineno__" 469),(.int 107 468)⟩,⟨(PySem.PyData.keyHash P "__init__"),(.str "__init__" 479),(.ref 209)⟩,⟨(PySem.PyData.keyHash P "need"),(.str "need" 487),(.ref 216)⟩,⟨(PySem.PyData.keyHash P "number"),(.str "number" 496),(.ref 223)⟩,⟨(PySem.PyData.keyHash P "u8"),(.str "u8" 503),(.ref 230)⟩,⟨(PySem.PyData.keyHash P "u16"),(.str "u16" 510),(.ref 237)⟩,⟨(PySem.PyData.keyHash P "i16"),(.str "i16" 517),(.ref 244)⟩,⟨(PySem.PyData.keyHash P "u24"),(.str "u24" 524),(.ref 251)⟩,⟨(PySem.PyData.keyHash P "u32"),(.str "u32" 531),(.ref 258)⟩,⟨(PySem.PyData.keyHash P "tag"),(.str "tag" 538),(.ref 265)⟩,⟨(PySem.PyData.keyHash P "rows"),(.str "rows" 544),(.ref 270)⟩,⟨(PySem.PyData.keyHash P "here"),(.str "here" 552),(.ref 277)⟩,⟨(PySem.PyData.keyHash P "__static_attributes__"),(.str "__static_attributes__" 555),(.ref 278)⟩,⟨(PySem.PyData.keyHash P "__dict__"),(.str "__dict__" 557),(.ref 281)⟩,⟨(PySem.PyData.keyHash P "__weakref__"),(.str "__weakref__" 559),(.ref 282)⟩,⟨(PySem.PyData.keyHash P "__doc__"),(.str "__doc__" 560),.none⟩] 4),#[]⟩) ::
 (nat_lit 280,⟨(.type "type"),none,(.cls ⟨"OctetsIn",[(.type "object")],[(.ref 280),(.type "object")],279,"OctetsIn",true,[],[],false,none,false⟩),#[none,none,(some (.str "OctetsIn" 458)),(some (.str "OctetsIn" 466)),(some (.builtin "object.__new__")),(some (.bool true))]⟩) ::
 (nat_lit 281,⟨(.type "getset_descriptor"),none,(.fields #[(.str "__dict__" 556),(.ref 280),(.builtin "function.__dict__"),(.builtin "function.__dict__#set")]),#[]⟩) ::
 (nat_lit 282,⟨(.type "getset_descriptor"),none,(.fields #[(.str "__weakref__" 558),(.ref 280),(.builtin "ExceptionGroup.__weakref__"),.none]),#[]⟩) ::
 (nat_lit 285,⟨(.type "tuple"),none,(.seq #[] 0),#[]⟩) ::
 (nat_lit 288,⟨(.type "code"),none,(.fields #[(.str "number_octets" 563),(.str "number_octets" 564),(.str "/claim/cut.py" 565),(.int 145 0),(.int 2 0),(.int 0 0),(.int 0 0),(.int 3 0),(.ref 285),(.bool true),(.int 181 0),(.ref 286),.none,.none,.none,(.ref 287),(.int 566 0),(.int 145 0),(.str "/claim/cut.py" 567)]),#[]⟩) ::
 (nat_lit 289,⟨(.type "function"),none,(.func ⟨"number_octets","number_octets",⟨[],[⟨"number",none,⟨145,18,145,24⟩⟩,⟨"count",none,⟨145,26,145,31⟩⟩],none,[],[],none,[]⟩,(.stmts [(.If (.BoolOp .Or [(.Compare (.Name "number" ⟨146,7,146,13⟩) [.Lt] [(.Constant (.int 0) 0 ⟨146,16,146,17⟩)] ⟨146,7,146,17⟩),(.Compare (.BinOp (.Name "number" ⟨146,21,146,27⟩) .RShift (.BinOp (.Constant (.int 8) 0 ⟨146,31,146,32⟩) .Mult (.Name "count" ⟨146,35,146,40⟩) ⟨146,31,146,40⟩) ⟨146,21,146,40⟩) [.Gt] [(.Constant (.int 0) 0 ⟨146,43,146,44⟩)] ⟨146,21,146,44⟩)] ⟨146,7,146,44⟩) [(.Raise (some (.Call (.Name "TableFault" ⟨147,14,147,24⟩) [(.BinOp (.Constant (.str "no room for the number ") 0 ⟨147,25,147,50⟩) .Add (.Call (.Name "str" ⟨147,53,147,56⟩) [(.Name "number" ⟨147,57,147,63⟩)] [] ⟨147,53,147,64⟩) ⟨147,25,147,64⟩)] [] ⟨147,14,147,65⟩)) none ⟨147,8,147,65⟩)] [] ⟨146,4,147,65⟩),(.Return (some (.Call (.Name "bytes" ⟨148,11,148,16⟩) [(.ListComp (.BinOp (.BinOp (.Name "number" ⟨148,18,148,24⟩) .RShift (.BinOp (.Constant (.int 8) 0 ⟨148,28,148,29⟩) .Mult (.Name "place" ⟨148,32,148,37⟩) ⟨148,28,148,37⟩) ⟨148,18,148,37⟩) .BitAnd (.Constant (.int 255) 0 ⟨148,40,148,43⟩) ⟨148,18,148,43⟩) [⟨(.Name "place" ⟨148,48,148,53⟩),(.Call (.Name "range" ⟨148,57,148,62⟩) [(.BinOp (.Name "count" ⟨148,63,148,68⟩) .Sub (.Constant (.int 1) 0 ⟨148,71,148,72⟩) ⟨148,63,148,72⟩),(.UnaryOp .USub (.Constant (.int 1) 0 ⟨148,75,148,76⟩) ⟨148,74,148,76⟩),(.UnaryOp .USub (.Constant (.int 1) 0 ⟨148,79,148,80⟩) ⟨148,78,148,80⟩)] [] ⟨148,57,148,81⟩),[],0⟩] ⟨.function,[(".0",.local),("place",.local),("number",.free)],false,false,[]⟩ ⟨148,17,148,82⟩)] [] ⟨148,11,148,83⟩)) ⟨148,4,148,83⟩)]),⟨.function,[("number",.cell),("count",.local),("TableFault",.globalImplicit),("str",.globalImplicit),("bytes",.globalImplicit),("range",.globalImplicit)],false,false,[("fast",(.str "number")),("fast",(.str "count")),("fast",(.str "place"))]⟩,3,[],.none,.none,.none,(.str "joinedhand.octets" 428),none,(.ref 288),.none,0⟩),#[]⟩) ::
 (nat_lit 297,⟨(.type "tuple"),none,(.seq #[] 0),#[]⟩) ::
 (nat_lit 299,⟨(.type "tuple"),none,(.seq #[(.str "self" 584)] 0),#[]⟩) ::
 (nat_lit 300,⟨(.type "tuple"),none,(.seq #[] 0),#[]⟩) ::
 (nat_lit 302,⟨(.type "code"),none,(.fields #[(.str "__init__" 581),(.str "OctetsOut.__init__" 582),(.str "/claim/cut.py" 583),(.int 151 0),(.int 1 0),(.int 0 0),(.int 0 0),(.int 3 0),(.ref 297),(.bool true),(.int 181 0),(.ref 298),.none,(.ref 299),(.ref 300),(.ref 301),(.int 585 0),(.int 151 0),(.str "/claim/cut.py" 586)]),#[]⟩) ::
 (nat_lit 303,⟨(.type "function"),none,(.func ⟨"__init__","OctetsOut.__init__",⟨[],[⟨"self",none,⟨151,17,151,21⟩⟩],none,[],[],none,[]⟩,(.stmts [(.Assign [(.Attribute (.Name "self" ⟨152,8,152,12⟩) "made" ⟨152,8,152,17⟩)] (.Call (.Name "bytearray" ⟨152,20,152,29⟩) [] [] ⟨152,20,152,31⟩) ⟨152,8,152,31⟩)]),⟨.function,[("self",.local),("bytearray",.globalImplicit)],false,false,[]⟩,3,[],.none,.none,.none,(.str "joinedhand.octets" 428),none,(.ref 302),.none,0⟩),#[]⟩) ::
 (nat_lit 304,⟨(.type "tuple"),none,(.seq #[] 0),#[]⟩) ::
 (nat_lit 306,⟨(.type "tuple"),none,(.seq #[(.str "self" 591),(.str "number" 592)] 0),#[]⟩) ::
 (nat_lit 307,⟨(.type "tuple"),none,(.seq #[] 0),#[]⟩) ::
 (nat_lit 309,⟨(.type "code"),none,(.fields #[(.str "u8" 588),(.str "OctetsOut.u8" 589),(.str "/claim/cut.py" 590),(.int 154 0),(.int 2 0),(.int 0 0),(.int 0 0),(.int 3 0),(.ref 304),(.bool true),(.int 181 0),(.ref 305),.none,(.ref 306),(.ref 307),(.ref 308),(.int 593 0),(.int 154 0),(.str "/claim/cut.py" 594)]),#[]⟩) ::
 (nat_lit 310,⟨(.type "function"),none,(.func ⟨"u8","OctetsOut.u8",⟨[],[⟨"self",none,⟨154,11,154,15⟩⟩,⟨"number",none,⟨154,17,154,23⟩⟩],none,[],[],none,[]⟩,(.stmts [(.Expr (.Call (.Name "_wall" ⟨155,8,155,13⟩) [(.Constant (.int 5) 0 ⟨155,14,155,15⟩)] [] ⟨155,8,155,16⟩) ⟨155,8,155,16⟩)]),⟨.function,[("self",.local),("number",.local),("_wall",.globalImplicit)],false,false,[]⟩,3,[],.none,.none,.none,(.str "joinedhand.octets" 428),none,(.ref 309),.none,0⟩),#[]⟩) ::
 (nat_lit 311,⟨(.type "tuple"),none,(.seq #[] 0),#[]⟩) ::
 (nat_lit 313,⟨(.type "tuple"),none,(.seq #[(.str "self" 599),(.str "number" 600)] 0),#[]⟩) ::
 (nat_lit 314,⟨(.type "tuple"),none,(.seq #[] 0),#[]⟩) ::
 (nat_lit 316,⟨(.type "code"),none,(.fields #[(.str "u16" 596),(.str "OctetsOut.u16" 597),(.str "/claim/cut.py" 598),(.int 157 0),(.int 2 0),(.int 0 0),(.int 0 0),(.int 3 0),(.ref 311),(.bool true),(.int 181 0),(.ref 312),.none,(.ref 313),(.ref 314),(.ref 315),(.int 601 0),(.int 157 0),(.str "/claim/cut.py" 602)]),#[]⟩) ::
 (nat_lit 317,⟨(.type "function"),none,(.func ⟨"u16","OctetsOut.u16",⟨[],[⟨"self",none,⟨157,12,157,16⟩⟩,⟨"number",none,⟨157,18,157,24⟩⟩],none,[],[],none,[]⟩,(.stmts [(.Expr (.Call (.Attribute (.Attribute (.Name "self" ⟨158,8,158,12⟩) "made" ⟨158,8,158,17⟩) "extend" ⟨158,8,158,24⟩) [(.Call (.Name "number_octets" ⟨158,25,158,38⟩) [(.Name "number" ⟨158,39,158,45⟩),(.Constant (.int 2) 0 ⟨158,47,158,48⟩)] [] ⟨158,25,158,49⟩)] [] ⟨158,8,158,50⟩) ⟨158,8,158,50⟩)]),⟨.function,[("self",.local),("number",.local),("number_octets",.globalImplicit)],false,false,[]⟩,3,[],.none,.none,.none,(.str "joinedhand.octets" 428),none,(.ref 316),.none,0⟩),#[]⟩) ::
 (nat_lit 318,⟨(.type "tuple"),none,(.seq #[] 0),#[]⟩) ::
 (nat_lit 320,⟨(.type "tuple"),none,(.seq #[(.str "self" 607),(.str "number" 608)] 0),#[]⟩) ::
 (nat_lit 321,⟨(.type "tuple"),none,(.seq #[] 0),#[]⟩) ::
 (nat_lit 323,⟨(.type "code"),none,(.fields #[(.str "i16" 604),(.str "OctetsOut.i16" 605),(.str "/claim/cut.py" 606),(.int 160 0),(.int 2 0),(.int 0 0),(.int 0 0),(.int 3 0),(.ref 318),(.bool true),(.int 181 0),(.ref 319),.none,(.ref 320),(.ref 321),(.ref 322),(.int 609 0),(.int 160 0),(.str "/claim/cut.py" 610)]),#[]⟩) ::
 (nat_lit 324,⟨(.type "function"),none,(.func ⟨"i16","OctetsOut.i16",⟨[],[⟨"self",none,⟨160,12,160,16⟩⟩,⟨"number",none,⟨160,18,160,24⟩⟩],none,[],[],none,[]⟩,(.stmts [(.If (.UnaryOp .Not (.Compare (.UnaryOp .USub (.Constant (.int 32768) 0 ⟨161,16,161,21⟩) ⟨161,15,161,21⟩) [.LtE,.LtE] [(.Name "number" ⟨161,25,161,31⟩),(.Constant (.int 32767) 0 ⟨161,35,161,40⟩)] ⟨161,15,161,40⟩) ⟨161,11,161,40⟩) [(.Raise (some (.Call (.Name "TableFault" ⟨162,18,162,28⟩) [(.BinOp (.Constant (.str "no room for the number ") 0 ⟨162,29,162,54⟩) .Add (.Call (.Name "str" ⟨162,57,162,60⟩) [(.Name "number" ⟨162,61,162,67⟩)] [] ⟨162,57,162,68⟩) ⟨162,29,162,68⟩)] [] ⟨162,18,162,69⟩)) none ⟨162,12,162,69⟩)] [] ⟨161,8,162,69⟩),(.Expr (.Call (.Attribute (.Attribute (.Name "self" ⟨163,8,163,12⟩) "made" ⟨163,8,163,17⟩) "extend" ⟨163,8,163,24⟩) [(.Call (.Name "number_octets" ⟨163,25,163,38⟩) [(.BinOp (.Name "number" ⟨163,39,163,45⟩) .BitAnd (.Constant (.int 65535) 0 ⟨163,48,163,53⟩) ⟨163,39,163,53⟩),(.Constant (.int 2) 0 ⟨163,55,163,56⟩)] [] ⟨163,25,163,57⟩)] [] ⟨163,8,163,58⟩) ⟨163,8,163,58⟩)]),⟨.function,[("self",.local),("number",.local),("TableFault",.globalImplicit),("str",.globalImplicit),("number_octets",.globalImplicit)],false,false,[]⟩,3,[],.none,.none,.none,(.str "joinedhand.octets" 428),none,(.ref 323),.none,0⟩),#[]⟩) ::
 (nat_lit 325,⟨(.type "tuple"),none,(.seq #[] 0),#[]⟩) ::
 (nat_lit 327,⟨(.type "tuple"),none,(.seq #[(.str "self" 615),(.str "number" 616)] 0),#[]⟩) ::
 (nat_lit 328,⟨(.type "tuple"),none,(.seq #[] 0),#[]⟩) ::
 (nat_lit 330,⟨(.type "code"),none,(.fields #[(.str "u24" 612),(.str "OctetsOut.u24" 613),(.str "/claim/cut.py" 614),(.int 165 0),(.int 2 0),(.int 0 0),(.int 0 0),(.int 3 0),(.ref 325),(.bool true),(.int 181 0),(.ref 326),.none,(.ref 327),(.ref 328),(.ref 329),(.int 617 0),(.int 165 0),(.str "/claim/cut.py" 618)]),#[]⟩) ::
 (nat_lit 331,⟨(.type "function"),none,(.func ⟨"u24","OctetsOut.u24",⟨[],[⟨"self",none,⟨165,12,165,16⟩⟩,⟨"number",none,⟨165,18,165,24⟩⟩],none,[],[],none,[]⟩,(.stmts [(.Expr (.Call (.Name "_wall" ⟨166,8,166,13⟩) [(.Constant (.int 6) 0 ⟨166,14,166,15⟩)] [] ⟨166,8,166,16⟩) ⟨166,8,166,16⟩)]),⟨.function,[("self",.local),("number",.local),("_wall",.globalImplicit)],false,false,[]⟩,3,[],.none,.none,.none,(.str "joinedhand.octets" 428),none,(.ref 330),.none,0⟩),#[]⟩) ::
 (nat_lit 332,⟨(.type "tuple"),none,(.seq #[] 0),#[]⟩) ::
 (nat_lit 334,⟨(.type "tuple"),none,(.seq #[(.str "self" 623),(.str "number" 624)] 0),#[]⟩) ::
 (nat_lit 335,⟨(.type "tuple"),none,(.seq #[] 0),#[]⟩) ::
 (nat_lit 337,⟨(.type "code"),none,(.fields #[(.str "u32" 620),(.str "OctetsOut.u32" 621),(.str "/claim/cut.py" 622),(.int 168 0),(.int 2 0),(.int 0 0),(.int 0 0),(.int 3 0),(.ref 332),(.bool true),(.int 181 0),(.ref 333),.none,(.ref 334),(.ref 335),(.ref 336),(.int 625 0),(.int 168 0),(.str "/claim/cut.py" 626)]),#[]⟩) ::
 (nat_lit 338,⟨(.type "function"),none,(.func ⟨"u32","OctetsOut.u32",⟨[],[⟨"self",none,⟨168,12,168,16⟩⟩,⟨"number",none,⟨168,18,168,24⟩⟩],none,[],[],none,[]⟩,(.stmts [(.Expr (.Call (.Name "_wall" ⟨169,8,169,13⟩) [(.Constant (.int 7) 0 ⟨169,14,169,15⟩)] [] ⟨169,8,169,16⟩) ⟨169,8,169,16⟩)]),⟨.function,[("self",.local),("number",.local),("_wall",.globalImplicit)],false,false,[]⟩,3,[],.none,.none,.none,(.str "joinedhand.octets" 428),none,(.ref 337),.none,0⟩),#[]⟩) ::
 (nat_lit 339,⟨(.type "tuple"),none,(.seq #[] 0),#[]⟩) ::
 (nat_lit 341,⟨(.type "tuple"),none,(.seq #[(.str "self" 631),(.str "text" 632)] 0),#[]⟩) ::
 (nat_lit 342,⟨(.type "tuple"),none,(.seq #[] 0),#[]⟩) ::
 (nat_lit 344,⟨(.type "code"),none,(.fields #[(.str "tag" 628),(.str "OctetsOut.tag" 629),(.str "/claim/cut.py" 630),(.int 171 0),(.int 2 0),(.int 0 0),(.int 0 0),(.int 3 0),(.ref 339),(.bool true),(.int 181 0),(.ref 340),.none,(.ref 341),(.ref 342),(.ref 343),(.int 633 0),(.int 171 0),(.str "/claim/cut.py" 634)]),#[]⟩) ::
 (nat_lit 345,⟨(.type "function"),none,(.func ⟨"tag","OctetsOut.tag",⟨[],[⟨"self",none,⟨171,12,171,16⟩⟩,⟨"text",none,⟨171,18,171,22⟩⟩],none,[],[],none,[]⟩,(.stmts [(.Expr (.Call (.Name "_wall" ⟨172,8,172,13⟩) [(.Constant (.int 8) 0 ⟨172,14,172,15⟩)] [] ⟨172,8,172,16⟩) ⟨172,8,172,16⟩)]),⟨.function,[("self",.local),("text",.local),("_wall",.globalImplicit)],false,false,[]⟩,3,[],.none,.none,.none,(.str "joinedhand.octets" 428),none,(.ref 344),.none,0⟩),#[]⟩) ::
 (nat_lit 346,⟨(.type "tuple"),none,(.seq #[] 0),#[]⟩) ::
 (nat_lit 348,⟨(.type "tuple"),none,(.seq #[(.str "self" 639),(.str "numbers" 640),(.str "number" 641)] 0),#[]⟩) ::
 (nat_lit 349,⟨(.type "tuple"),none,(.seq #[] 0),#[]⟩) ::
 (nat_lit 351,⟨(.type "code"),none,(.fields #[(.str "rows" 636),(.str "OctetsOut.rows" 637),(.str "/claim/cut.py" 638),(.int 174 0),(.int 2 0),(.int 0 0),(.int 0 0),(.int 3 0),(.ref 346),(.bool true),(.int 181 0),(.ref 347),.none,(.ref 348),(.ref 349),(.ref 350),(.int 642 0),(.int 174 0),(.str "/claim/cut.py" 643)]),#[]⟩) ::
 (nat_lit 352,⟨(.type "function"),none,(.func ⟨"rows","OctetsOut.rows",⟨[],[⟨"self",none,⟨174,13,174,17⟩⟩,⟨"numbers",none,⟨174,19,174,26⟩⟩],none,[],[],none,[]⟩,(.stmts [(.For (.Name "number" ⟨175,12,175,18⟩) (.Name "numbers" ⟨175,22,175,29⟩) [(.Expr (.Call (.Attribute (.Name "self" ⟨176,12,176,16⟩) "u16" ⟨176,12,176,20⟩) [(.Name "number" ⟨176,21,176,27⟩)] [] ⟨176,12,176,28⟩) ⟨176,12,176,28⟩)] [] ⟨175,8,176,28⟩)]),⟨.function,[("self",.local),("numbers",.local),("number",.local)],false,false,[]⟩,3,[],.none,.none,.none,(.str "joinedhand.octets" 428),none,(.ref 351),.none,0⟩),#[]⟩) ::
 (nat_lit 353,⟨(.type "tuple"),none,(.seq #[] 0),#[]⟩) ::
 (nat_lit 355,⟨(.type "tuple"),none,(.seq #[(.str "self" 648),(.str "octets" 649)] 0),#[]⟩) ::
 (nat_lit 356,⟨(.type "tuple"),none,(.seq #[] 0),#[]⟩) ::
 (nat_lit 358,⟨(.type "code"),none,(.fields #[(.str "add" 645),(.str "OctetsOut.add" 646),(.str "/claim/cut.py" 647),(.int 178 0),(.int 2 0),(.int 0 0),(.int 0 0),(.int 3 0),(.ref 353),(.bool true),(.int 181 0),(.ref 354),.none,(.ref 355),(.ref 356),(.ref 357),(.int 650 0),(.int 178 0),(.str "/claim/cut.py" 651)]),#[]⟩) ::
 (nat_lit 359,⟨(.type "function"),none,(.func ⟨"add","OctetsOut.add",⟨[],[⟨"self",none,⟨178,12,178,16⟩⟩,⟨"octets",none,⟨178,18,178,24⟩⟩],none,[],[],none,[]⟩,(.stmts [(.Expr (.Call (.Name "_wall" ⟨179,8,179,13⟩) [(.Constant (.int 9) 0 ⟨179,14,179,15⟩)] [] ⟨179,8,179,16⟩) ⟨179,8,179,16⟩)]),⟨.function,[("self",.local),("octets",.local),("_wall",.globalImplicit)],false,false,[]⟩,3,[],.none,.none,.none,(.str "joinedhand.octets" 428),none,(.ref 358),.none,0⟩),#[]⟩) ::
 (nat_lit 360,⟨(.type "tuple"),none,(.seq #[] 0),#[]⟩) ::
 (nat_lit 362,⟨(.type "tuple"),none,(.seq #[(.str "self" 656)] 0),#[]⟩) ::
 (nat_lit 363,⟨(.type "tuple"),none,(.seq #[] 0),#[]⟩) ::
 (nat_lit 365,⟨(.type "code"),none,(.fields #[(.str "size" 653),(.str "OctetsOut.size" 654),(.str "/claim/cut.py" 655),(.int 181 0),(.int 1 0),(.int 0 0),(.int 0 0),(.int 3 0),(.ref 360),(.bool true),(.int 181 0),(.ref 361),.none,(.ref 362),(.ref 363),(.ref 364),(.int 657 0),(.int 181 0),(.str "/claim/cut.py" 658)]),#[]⟩) ::
 (nat_lit 366,⟨(.type "function"),none,(.func ⟨"size","OctetsOut.size",⟨[],[⟨"self",none,⟨181,13,181,17⟩⟩],none,[],[],none,[]⟩,(.stmts [(.Return (some (.Call (.Name "len" ⟨182,15,182,18⟩) [(.Attribute (.Name "self" ⟨182,19,182,23⟩) "made" ⟨182,19,182,28⟩)] [] ⟨182,15,182,29⟩)) ⟨182,8,182,29⟩)]),⟨.function,[("self",.local),("len",.globalImplicit)],false,false,[]⟩,3,[],.none,.none,.none,(.str "joinedhand.octets" 428),none,(.ref 365),.none,0⟩),#[]⟩) ::
 (nat_lit 367,⟨(.type "tuple"),none,(.seq #[] 0),#[]⟩) ::
 (nat_lit 369,⟨(.type "tuple"),none,(.seq #[(.str "self" 663)] 0),#[]⟩) ::
 (nat_lit 370,⟨(.type "tuple"),none,(.seq #[] 0),#[]⟩) ::
 (nat_lit 372,⟨(.type "code"),none,(.fields #[(.str "octets" 660),(.str "OctetsOut.octets" 661),(.str "/claim/cut.py" 662),(.int 184 0),(.int 1 0),(.int 0 0),(.int 0 0),(.int 3 0),(.ref 367),(.bool true),(.int 181 0),(.ref 368),.none,(.ref 369),(.ref 370),(.ref 371),(.int 664 0),(.int 184 0),(.str "/claim/cut.py" 665)]),#[]⟩) ::
 (nat_lit 373,⟨(.type "function"),none,(.func ⟨"octets","OctetsOut.octets",⟨[],[⟨"self",none,⟨184,15,184,19⟩⟩],none,[],[],none,[]⟩,(.stmts [(.Return (some (.Call (.Name "bytes" ⟨185,15,185,20⟩) [(.Attribute (.Name "self" ⟨185,21,185,25⟩) "made" ⟨185,21,185,30⟩)] [] ⟨185,15,185,31⟩)) ⟨185,8,185,31⟩)]),⟨.function,[("self",.local),("bytes",.globalImplicit)],false,false,[]⟩,3,[],.none,.none,.none,(.str "joinedhand.octets" 428),none,(.ref 372),.none,0⟩),#[]⟩) ::
 (nat_lit 374,⟨(.type "tuple"),none,(.seq #[(.str "made" 667)] 0),#[]⟩) ::
 (nat_lit 375,⟨(.type "dict"),none,(.dict #[⟨(PySem.PyData.keyHash P "__module__"),(.str "__module__" 576),(.str "joinedhand.octets" 428)⟩,⟨(PySem.PyData.keyHash P "__firstlineno__"),(.str "__firstlineno__" 580),(.int 149 579)⟩,⟨(PySem.PyData.keyHash P "__init__"),(.str "__init__" 587),(.ref 303)⟩,⟨(PySem.PyData.keyHash P "u8"),(.str "u8" 595),(.ref 310)⟩,⟨(PySem.PyData.keyHash P "u16"),(.str "u16" 603),(.ref 317)⟩,⟨(PySem.PyData.keyHash P "i16"),(.str "i16" 611),(.ref 324)⟩,⟨(PySem.PyData.keyHash P "u24"),(.str "u24" 619),(.ref 331)⟩,⟨(PySem.PyData.keyHash P "u32"),(.str "u32" 627),(.ref 338)⟩,⟨(PySem.PyData.keyHash P "tag"),(.str "tag" 635),(.ref 345)⟩,⟨(PySem.PyData.keyHash P "rows"),(.str "rows" 644),(.ref 352)⟩,⟨(PySem.PyData.keyHash P "add"),(.str "add" 652),(.ref 359)⟩,⟨(PySem.PyData.keyHash P "size"),(.str "size" 659),(.ref 366)⟩,⟨(PySem.PyData.keyHash P "octets"),(.str "octets" 666),(.ref 373)⟩,⟨(PySem.PyData.keyHash P "__static_attributes__"),(.str "__static_attributes__" 668),(.ref 374)⟩,⟨(PySem.PyData.keyHash P "__dict__"),(.str "__dict__" 670),(.ref 377)⟩,⟨(PySem.PyData.keyHash P "__weakref__"),(.str "__weakref__" 672),(.ref 378)⟩,⟨(PySem.PyData.keyHash P "__doc__"),(.str "__doc__" 673),.none⟩] 4),#[]⟩) ::
 (nat_lit 376,⟨(.type "type"),none,(.cls ⟨"OctetsOut",[(.type "object")],[(.ref 376),(.type "object")],375,"OctetsOut",true,[],[],false,none,false⟩),#[none,none,(some (.str "OctetsOut" 569)),(some (.str "OctetsOut" 577)),(some (.builtin "object.__new__")),(some (.bool true))]⟩) ::
 (nat_lit 377,⟨(.type "getset_descriptor"),none,(.fields #[(.str "__dict__" 669),(.ref 376),(.builtin "function.__dict__"),(.builtin "function.__dict__#set")]),#[]⟩) ::
 (nat_lit 378,⟨(.type "getset_descriptor"),none,(.fields #[(.str "__weakref__" 671),(.ref 376),(.builtin "ExceptionGroup.__weakref__"),.none]),#[]⟩) ::
 (nat_lit 381,⟨(.type "tuple"),none,(.seq #[(.int 0 678),(.int 0 679),(.int 1 680),(.int (-1) 682),(.int 700 683),(.int 32767 684),(.int (-32768) 686),(.int 5 687)] 0),#[]⟩) ::
 (nat_lit 382,⟨(.type "tuple"),none,(.seq #[] 0),#[]⟩) ::
 (nat_lit 384,⟨(.type "tuple"),none,(.seq #[(.str "pen" 692),(.str "many" 693),(.str "digit" 694),(.str "spot" 695),(.str "cell" 696),(.str "great" 697)] 0),#[]⟩) ::
 (nat_lit 385,⟨(.type "tuple"),none,(.seq #[] 0),#[]⟩) ::
 (nat_lit 387,⟨(.type "code"),none,(.fields #[(.str "_law_draw" 689),(.str "_law_draw" 690),(.str "/claim/cut.py" 691),(.int 188 0),(.int 2 0),(.int 0 0),(.int 0 0),(.int 3 0),(.ref 382),(.bool true),(.int 181 0),(.ref 383),.none,(.ref 384),(.ref 385),(.ref 386),(.int 698 0),(.int 188 0),(.str "/claim/cut.py" 699)]),#[]⟩) ::
 (nat_lit 388,⟨(.type "function"),none,(.func ⟨"_law_draw","_law_draw",⟨[],[⟨"pen",none,⟨188,14,188,17⟩⟩,⟨"many",none,⟨188,19,188,23⟩⟩],none,[],[],none,[]⟩,(.stmts [(.If (.Compare (.Subscript (.Name "pen" ⟨189,7,189,10⟩) (.Constant (.int 2) 0 ⟨189,11,189,12⟩) ⟨189,7,189,13⟩) [.Gt] [(.Constant (.int 0) 0 ⟨189,16,189,17⟩)] ⟨189,7,189,17⟩) [(.Assign [(.Name "digit" ⟨190,8,190,13⟩)] (.BinOp (.Subscript (.Name "pen" ⟨190,16,190,19⟩) (.Constant (.int 2) 0 ⟨190,20,190,21⟩) ⟨190,16,190,22⟩) .Mod (.Name "many" ⟨190,25,190,29⟩) ⟨190,16,190,29⟩) ⟨190,8,190,29⟩),(.Assign [(.Subscript (.Name "pen" ⟨191,8,191,11⟩) (.Constant (.int 2) 0 ⟨191,12,191,13⟩) ⟨191,8,191,14⟩)] (.BinOp (.Subscript (.Name "pen" ⟨191,17,191,20⟩) (.Constant (.int 2) 0 ⟨191,21,191,22⟩) ⟨191,17,191,23⟩) .FloorDiv (.Name "many" ⟨191,27,191,31⟩) ⟨191,17,191,31⟩) ⟨191,8,191,31⟩),(.Return (some (.Name "digit" ⟨192,15,192,20⟩)) ⟨192,8,192,20⟩)] [] ⟨189,4,192,20⟩),(.Assign [(.Name "spot" ⟨193,4,193,8⟩)] (.Subscript (.Name "pen" ⟨193,11,193,14⟩) (.Constant (.int 1) 0 ⟨193,15,193,16⟩) ⟨193,11,193,17⟩) ⟨193,4,193,17⟩),(.Assign [(.Subscript (.Name "pen" ⟨194,4,194,7⟩) (.Constant (.int 1) 0 ⟨194,8,194,9⟩) ⟨194,4,194,10⟩)] (.BinOp (.Name "spot" ⟨194,13,194,17⟩) .Add (.Constant (.int 1) 0 ⟨194,20,194,21⟩) ⟨194,13,194,21⟩) ⟨194,4,194,21⟩),(.If (.Compare (.Name "spot" ⟨195,7,195,11⟩) [.GtE] [(.Call (.Name "len" ⟨195,15,195,18⟩) [(.Subscript (.Name "pen" ⟨195,19,195,22⟩) (.Constant (.int 0) 0 ⟨195,23,195,24⟩) ⟨195,19,195,25⟩)] [] ⟨195,15,195,26⟩)] ⟨195,7,195,26⟩) [(.Return (some (.BinOp (.BinOp (.BinOp (.BinOp (.BinOp (.Subscript (.Name "pen" ⟨196,16,196,19⟩) (.Constant (.int 3) 0 ⟨196,20,196,21⟩) ⟨196,16,196,22⟩) .Add (.Constant (.int 5) 0 ⟨196,25,196,26⟩) ⟨196,16,196,26⟩) .Mult (.BinOp (.Name "spot" ⟨196,31,196,35⟩) .Add (.Constant (.int 3) 0 ⟨196,38,196,39⟩) ⟨196,31,196,39⟩) ⟨196,15,196,40⟩) .Mult (.BinOp (.Name "spot" ⟨196,44,196,48⟩) .Add (.Constant (.int 11) 0 ⟨196,51,196,53⟩) ⟨196,44,196,53⟩) ⟨196,15,196,54⟩) .FloorDiv (.Constant (.int 7) 0 ⟨196,58,196,59⟩) ⟨196,15,196,59⟩) .Mod (.Name "many" ⟨196,62,196,66⟩) ⟨196,15,196,66⟩)) ⟨196,8,196,66⟩)] [] ⟨195,4,196,66⟩),(.Assign [(.Name "cell" ⟨197,4,197,8⟩)] (.Subscript (.Subscript (.Name "pen" ⟨197,11,197,14⟩) (.Constant (.int 0) 0 ⟨197,15,197,16⟩) ⟨197,11,197,17⟩) (.Name "spot" ⟨197,18,197,22⟩) ⟨197,11,197,23⟩) ⟨197,4,197,23⟩),(.If (.Compare (.Call (.Name "abs" ⟨198,7,198,10⟩) [(.Name "cell" ⟨198,11,198,15⟩)] [] ⟨198,7,198,16⟩) [.Lt] [(.BinOp (.Constant (.int 10) 0 ⟨198,19,198,21⟩) .Pow (.Constant (.int 18) 0 ⟨198,25,198,27⟩) ⟨198,19,198,27⟩)] ⟨198,7,198,27⟩) [(.Return (some (.BinOp (.Name "cell" ⟨199,15,199,19⟩) .Mod (.Name "many" ⟨199,22,199,26⟩) ⟨199,15,199,26⟩)) ⟨199,8,199,26⟩)] [] ⟨198,4,199,26⟩),(.Assign [(.Name "great" ⟨200,4,200,9⟩)] (.BinOp (.BinOp (.Constant (.int 2) 0 ⟨200,12,200,13⟩) .Mult (.BinOp (.Call (.Name "abs" ⟨200,17,200,20⟩) [(.Name "cell" ⟨200,21,200,25⟩)] [] ⟨200,17,200,26⟩) .Sub (.BinOp (.Constant (.int 10) 0 ⟨200,29,200,31⟩) .Pow (.Constant (.int 18) 0 ⟨200,35,200,37⟩) ⟨200,29,200,37⟩) ⟨200,17,200,37⟩) ⟨200,12,200,38⟩) .Add (.IfExp (.Compare (.Name "cell" ⟨200,47,200,51⟩) [.Lt] [(.Constant (.int 0) 0 ⟨200,54,200,55⟩)] ⟨200,47,200,55⟩) (.Constant (.int 1) 0 ⟨200,42,200,43⟩) (.Constant (.int 0) 0 ⟨200,61,200,62⟩) ⟨200,42,200,62⟩) ⟨200,12,200,63⟩) ⟨200,4,200,63⟩),(.Assign [(.Subscript (.Name "pen" ⟨201,4,201,7⟩) (.Constant (.int 2) 0 ⟨201,8,201,9⟩) ⟨201,4,201,10⟩)] (.BinOp (.Name "great" ⟨201,13,201,18⟩) .FloorDiv (.Name "many" ⟨201,22,201,26⟩) ⟨201,13,201,26⟩) ⟨201,4,201,26⟩),(.Return (some (.BinOp (.Name "great" ⟨202,11,202,16⟩) .Mod (.Name "many" ⟨202,19,202,23⟩) ⟨202,11,202,23⟩)) ⟨202,4,202,23⟩)]),⟨.function,[("pen",.local),("many",.local),("digit",.local),("spot",.local),("cell",.local),("great",.local),("len",.globalImplicit),("abs",.globalImplicit)],false,false,[]⟩,3,[],.none,.none,.none,(.str "law_nu0167_01" 676),none,(.ref 387),.none,0⟩),#[]⟩) ::
 (nat_lit 389,⟨(.type "tuple"),none,(.seq #[] 0),#[]⟩) ::
 (nat_lit 391,⟨(.type "tuple"),none,(.seq #[(.str "script" 704)] 0),#[]⟩) ::
 (nat_lit 392,⟨(.type "tuple"),none,(.seq #[] 0),#[]⟩) ::
 (nat_lit 394,⟨(.type "code"),none,(.fields #[(.str "_law_pen" 701),(.str "_law_pen" 702),(.str "/claim/cut.py" 703),(.int 203 0),(.int 1 0),(.int 0 0),(.int 0 0),(.int 3 0),(.ref 389),(.bool true),(.int 181 0),(.ref 390),.none,(.ref 391),(.ref 392),(.ref 393),(.int 705 0),(.int 203 0),(.str "/claim/cut.py" 706)]),#[]⟩) ::
 (nat_lit 395,⟨(.type "function"),none,(.func ⟨"_law_pen","_law_pen",⟨[],[⟨"script",none,⟨203,13,203,19⟩⟩],none,[],[],none,[]⟩,(.stmts [(.Return (some (.List [(.Call (.Name "list" ⟨204,12,204,16⟩) [(.Subscript (.Name "script" ⟨204,17,204,23⟩) (.Slice none (some (.Constant (.int 63) 0 ⟨204,25,204,27⟩)) none ⟨204,24,204,27⟩) ⟨204,17,204,28⟩)] [] ⟨204,12,204,29⟩),(.Constant (.int 0) 0 ⟨204,31,204,32⟩),(.Constant (.int 0) 0 ⟨204,34,204,35⟩),(.BinOp (.Call (.Name "abs" ⟨204,37,204,40⟩) [(.Call (.Name "sum" ⟨204,41,204,44⟩) [(.Subscript (.Name "script" ⟨204,45,204,51⟩) (.Slice none (some (.Constant (.int 63) 0 ⟨204,53,204,55⟩)) none ⟨204,52,204,55⟩) ⟨204,45,204,56⟩)] [] ⟨204,41,204,57⟩)] [] ⟨204,37,204,58⟩) .Mod (.Constant (.int 1009) 0 ⟨204,61,204,65⟩) ⟨204,37,204,65⟩)] ⟨204,11,204,66⟩)) ⟨204,4,204,66⟩)]),⟨.function,[("script",.local),("list",.globalImplicit),("abs",.globalImplicit),("sum",.globalImplicit)],false,false,[]⟩,3,[],.none,.none,.none,(.str "law_nu0167_01" 676),none,(.ref 394),.none,0⟩),#[]⟩) ::
 (nat_lit 396,⟨(.type "tuple"),none,(.seq #[] 0),#[]⟩) ::
 (nat_lit 399,⟨(.type "code"),none,(.fields #[(.str "_law_ones" 708),(.str "_law_ones" 709),(.str "/claim/cut.py" 710),(.int 205 0),(.int 1 0),(.int 0 0),(.int 0 0),(.int 3 0),(.ref 396),(.bool true),(.int 181 0),(.ref 397),.none,.none,.none,(.ref 398),(.int 711 0),(.int 205 0),(.str "/claim/cut.py" 712)]),#[]⟩) ::
 (nat_lit 400,⟨(.type "function"),none,(.func ⟨"_law_ones","_law_ones",⟨[],[⟨"form",none,⟨205,14,205,18⟩⟩],none,[],[],none,[]⟩,(.stmts [(.Return (some (.Call (.Name "len" ⟨206,11,206,14⟩) [(.ListComp (.Name "bit" ⟨206,16,206,19⟩) [⟨(.Name "bit" ⟨206,24,206,27⟩),(.Call (.Name "range" ⟨206,31,206,36⟩) [(.Constant (.int 8) 0 ⟨206,37,206,38⟩)] [] ⟨206,31,206,39⟩),[(.Compare (.BinOp (.BinOp (.Name "form" ⟨206,43,206,47⟩) .FloorDiv (.BinOp (.Constant (.int 2) 0 ⟨206,51,206,52⟩) .Pow (.Name "bit" ⟨206,56,206,59⟩) ⟨206,51,206,59⟩) ⟨206,43,206,59⟩) .Mod (.Constant (.int 2) 0 ⟨206,62,206,63⟩) ⟨206,43,206,63⟩) [.Eq] [(.Constant (.int 1) 0 ⟨206,67,206,68⟩)] ⟨206,43,206,68⟩)],0⟩] ⟨.function,[(".0",.local),("bit",.local),("form",.free)],false,false,[]⟩ ⟨206,15,206,69⟩)] [] ⟨206,11,206,70⟩)) ⟨206,4,206,70⟩)]),⟨.function,[("form",.cell),("len",.globalImplicit),("range",.globalImplicit)],false,false,[("fast",(.str "form")),("fast",(.str "bit"))]⟩,3,[],.none,.none,.none,(.str "law_nu0167_01" 676),none,(.ref 399),.none,0⟩),#[]⟩) ::
 (nat_lit 401,⟨(.type "tuple"),none,(.seq #[] 0),#[]⟩) ::
 (nat_lit 403,⟨(.type "tuple"),none,(.seq #[(.str "data" 717),(.str "at" 718),(.str "source" 719),(.str "caught" 720),(.str "found" 721),(.str "form" 722),(.str "error" 723)] 0),#[]⟩) ::
 (nat_lit 404,⟨(.type "tuple"),none,(.seq #[] 0),#[]⟩) ::
 (nat_lit 406,⟨(.type "code"),none,(.fields #[(.str "_law_read" 714),(.str "_law_read" 715),(.str "/claim/cut.py" 716),(.int 207 0),(.int 2 0),(.int 0 0),(.int 0 0),(.int 3 0),(.ref 401),(.bool true),(.int 181 0),(.ref 402),.none,(.ref 403),(.ref 404),(.ref 405),(.int 724 0),(.int 207 0),(.str "/claim/cut.py" 725)]),#[]⟩) ::
 (nat_lit 407,⟨(.type "function"),none,(.func ⟨"_law_read","_law_read",⟨[],[⟨"data",none,⟨207,14,207,18⟩⟩,⟨"at",none,⟨207,20,207,22⟩⟩],none,[],[],none,[]⟩,(.stmts [(.Assign [(.Tuple [(.Name "source" ⟨208,4,208,10⟩),(.Name "caught" ⟨208,12,208,18⟩),(.Name "found" ⟨208,20,208,25⟩)] 0 ⟨208,4,208,25⟩)] (.Tuple [(.Call (.Name "OctetsIn" ⟨208,29,208,37⟩) [(.Name "data" ⟨208,38,208,42⟩),(.Name "at" ⟨208,44,208,46⟩)] [] ⟨208,29,208,47⟩),(.Constant .none 0 ⟨208,49,208,53⟩),(.Constant .none 0 ⟨208,55,208,59⟩)] 0 ⟨208,28,208,60⟩) ⟨208,4,208,60⟩),(.Try [(.Assign [(.Name "form" ⟨210,8,210,12⟩)] (.Call (.Name "read_form" ⟨210,15,210,24⟩) [(.Name "source" ⟨210,25,210,31⟩)] [] ⟨210,15,210,32⟩) ⟨210,8,210,32⟩),(.Assign [(.Name "found" ⟨211,8,211,13⟩)] (.Tuple [(.Call (.Name "size_of" ⟨211,17,211,24⟩) [(.Name "form" ⟨211,25,211,29⟩)] [] ⟨211,17,211,30⟩),(.Call (.Attribute (.Call (.Name "read_value" ⟨211,32,211,42⟩) [(.Name "source" ⟨211,43,211,49⟩),(.Name "form" ⟨211,51,211,55⟩)] [] ⟨211,32,211,56⟩) "told" ⟨211,32,211,61⟩) [] [] ⟨211,32,211,63⟩),(.Attribute (.Name "source" ⟨211,65,211,71⟩) "at" ⟨211,65,211,74⟩)] 0 ⟨211,16,211,75⟩) ⟨211,8,211,75⟩)] [(.ExceptHandler (some (.Name "TableFault" ⟨212,11,212,21⟩)) (some "error") [(.Assign [(.Name "caught" ⟨213,8,213,14⟩)] (.Name "error" ⟨213,17,213,22⟩) ⟨213,8,213,22⟩)] ⟨212,4,213,22⟩)] [] [] ⟨209,4,213,22⟩),(.Return (some (.IfExp (.Compare (.Name "caught" ⟨214,20,214,26⟩) [.Is] [(.Constant .none 0 ⟨214,30,214,34⟩)] ⟨214,20,214,34⟩) (.Name "found" ⟨214,11,214,16⟩) (.Tuple [(.Constant (.str "fault") 0 ⟨214,41,214,48⟩),(.Attribute (.Name "caught" ⟨214,50,214,56⟩) "at" ⟨214,50,214,59⟩)] 0 ⟨214,40,214,60⟩) ⟨214,11,214,60⟩)) ⟨214,4,214,60⟩)]),⟨.function,[("data",.local),("at",.local),("source",.local),("caught",.local),("found",.local),("form",.local),("error",.local),("OctetsIn",.globalImplicit),("read_form",.globalImplicit),("size_of",.globalImplicit),("read_value",.globalImplicit),("TableFault",.globalImplicit)],false,false,[]⟩,3,[],.none,.none,.none,(.str "law_nu0167_01" 676),none,(.ref 406),.none,0⟩),#[]⟩) ::
 (nat_lit 408,⟨(.type "tuple"),none,(.seq #[] 0),#[]⟩) ::
 (nat_lit 410,⟨(.type "tuple"),none,(.seq #[(.str "data" 730),(.str "at" 731),(.str "form" 732),(.str "place" 733),(.str "fields" 734),(.str "bit" 735),(.str "number" 736)] 0),#[]⟩) ::
 (nat_lit 411,⟨(.type "tuple"),none,(.seq #[] 0),#[]⟩) ::
 (nat_lit 413,⟨(.type "code"),none,(.fields #[(.str "_law_due" 727),(.str "_law_due" 728),(.str "/claim/cut.py" 729),(.int 215 0),(.int 2 0),(.int 0 0),(.int 0 0),(.int 3 0),(.ref 408),(.bool true),(.int 181 0),(.ref 409),.none,(.ref 410),(.ref 411),(.ref 412),(.int 737 0),(.int 215 0),(.str "/claim/cut.py" 738)]),#[]⟩) ::
 (nat_lit 414,⟨(.type "function"),none,(.func ⟨"_law_due","_law_due",⟨[],[⟨"data",none,⟨215,13,215,17⟩⟩,⟨"at",none,⟨215,19,215,21⟩⟩],none,[],[],none,[]⟩,(.stmts [(.If (.Compare (.BinOp (.Name "at" ⟨216,7,216,9⟩) .Add (.Constant (.int 2) 0 ⟨216,12,216,13⟩) ⟨216,7,216,13⟩) [.Gt] [(.Call (.Name "len" ⟨216,16,216,19⟩) [(.Name "data" ⟨216,20,216,24⟩)] [] ⟨216,16,216,25⟩)] ⟨216,7,216,25⟩) [(.Return (some (.Tuple [(.Constant (.str "fault") 0 ⟨217,16,217,23⟩),(.Name "at" ⟨217,25,217,27⟩)] 0 ⟨217,15,217,28⟩)) ⟨217,8,217,28⟩)] [] ⟨216,4,217,28⟩),(.Assign [(.Tuple [(.Name "form" ⟨218,4,218,8⟩),(.Name "place" ⟨218,10,218,15⟩),(.Name "fields" ⟨218,17,218,23⟩)] 0 ⟨218,4,218,23⟩)] (.Tuple [(.BinOp (.BinOp (.Constant (.int 256) 0 ⟨218,27,218,30⟩) .Mult (.Subscript (.Name "data" ⟨218,33,218,37⟩) (.Name "at" ⟨218,38,218,40⟩) ⟨218,33,218,41⟩) ⟨218,27,218,41⟩) .Add (.Subscript (.Name "data" ⟨218,44,218,48⟩) (.BinOp (.Name "at" ⟨218,49,218,51⟩) .Add (.Constant (.int 1) 0 ⟨218,54,218,55⟩) ⟨218,49,218,55⟩) ⟨218,44,218,56⟩) ⟨218,27,218,56⟩),(.BinOp (.Name "at" ⟨218,58,218,60⟩) .Add (.Constant (.int 2) 0 ⟨218,63,218,64⟩) ⟨218,58,218,64⟩),(.List [] ⟨218,66,218,68⟩)] 0 ⟨218,26,218,69⟩) ⟨218,4,218,69⟩),(.If (.Compare (.Name "form" ⟨219,7,219,11⟩) [.Gt] [(.Constant (.int 255) 0 ⟨219,14,219,17⟩)] ⟨219,7,219,17⟩) [(.Return (some (.Tuple [(.Constant (.str "fault") 0 ⟨220,16,220,23⟩),(.Name "at" ⟨220,25,220,27⟩)] 0 ⟨220,15,220,28⟩)) ⟨220,8,220,28⟩)] [] ⟨219,4,220,28⟩),(.For (.Name "bit" ⟨221,8,221,11⟩) (.Call (.Name "range" ⟨221,15,221,20⟩) [(.Constant (.int 8) 0 ⟨221,21,221,22⟩)] [] ⟨221,15,221,23⟩) [(.Assign [(.Name "number" ⟨222,8,222,14⟩)] (.Constant (.int 0) 0 ⟨222,17,222,18⟩) ⟨222,8,222,18⟩),(.If (.Compare (.BinOp (.BinOp (.Name "form" ⟨223,11,223,15⟩) .FloorDiv (.BinOp (.Constant (.int 2) 0 ⟨223,19,223,20⟩) .Pow (.Name "bit" ⟨223,24,223,27⟩) ⟨223,19,223,27⟩) ⟨223,11,223,27⟩) .Mod (.Constant (.int 2) 0 ⟨223,30,223,31⟩) ⟨223,11,223,31⟩) [.Eq] [(.Constant (.int 1) 0 ⟨223,35,223,36⟩)] ⟨223,11,223,36⟩) [(.If (.Compare (.BinOp (.Name "place" ⟨224,15,224,20⟩) .Add (.Constant (.int 2) 0 ⟨224,23,224,24⟩) ⟨224,15,224,24⟩) [.Gt] [(.Call (.Name "len" ⟨224,27,224,30⟩) [(.Name "data" ⟨224,31,224,35⟩)] [] ⟨224,27,224,36⟩)] ⟨224,15,224,36⟩) [(.Return (some (.Tuple [(.Constant (.str "fault") 0 ⟨225,24,225,31⟩),(.Name "place" ⟨225,33,225,38⟩)] 0 ⟨225,23,225,39⟩)) ⟨225,16,225,39⟩)] [] ⟨224,12,225,39⟩),(.Assign [(.Name "number" ⟨226,12,226,18⟩)] (.BinOp (.BinOp (.Constant (.int 256) 0 ⟨226,21,226,24⟩) .Mult (.Subscript (.Name "data" ⟨226,27,226,31⟩) (.Name "place" ⟨226,32,226,37⟩) ⟨226,27,226,38⟩) ⟨226,21,226,38⟩) .Add (.Subscript (.Name "data" ⟨226,41,226,45⟩) (.BinOp (.Name "place" ⟨226,46,226,51⟩) .Add (.Constant (.int 1) 0 ⟨226,54,226,55⟩) ⟨226,46,226,55⟩) ⟨226,41,226,56⟩) ⟨226,21,226,56⟩) ⟨226,12,226,56⟩),(.Assign [(.Name "place" ⟨227,12,227,17⟩)] (.BinOp (.Name "place" ⟨227,20,227,25⟩) .Add (.Constant (.int 2) 0 ⟨227,28,227,29⟩) ⟨227,20,227,29⟩) ⟨227,12,227,29⟩)] [] ⟨223,8,227,29⟩),(.Expr (.Call (.Attribute (.Name "fields" ⟨228,8,228,14⟩) "append" ⟨228,8,228,21⟩) [(.IfExp (.Compare (.Name "number" ⟨228,32,228,38⟩) [.Lt] [(.Constant (.int 32768) 0 ⟨228,41,228,46⟩)] ⟨228,32,228,46⟩) (.Name "number" ⟨228,22,228,28⟩) (.BinOp (.Name "number" ⟨228,52,228,58⟩) .Sub (.Constant (.int 65536) 0 ⟨228,61,228,66⟩) ⟨228,52,228,66⟩) ⟨228,22,228,66⟩)] [] ⟨228,8,228,67⟩) ⟨228,8,228,67⟩)] [] ⟨221,4,228,67⟩),(.Return (some (.Tuple [(.BinOp (.Constant (.int 2) 0 ⟨229,12,229,13⟩) .Mult (.Call (.Name "_law_ones" ⟨229,16,229,25⟩) [(.Name "form" ⟨229,26,229,30⟩)] [] ⟨229,16,229,31⟩) ⟨229,12,229,31⟩),(.Call (.Name "tuple" ⟨229,33,229,38⟩) [(.Subscript (.Name "fields" ⟨229,39,229,45⟩) (.Slice none (some (.Constant (.int 4) 0 ⟨229,47,229,48⟩)) none ⟨229,46,229,48⟩) ⟨229,39,229,49⟩)] [] ⟨229,33,229,50⟩),(.Name "place" ⟨229,52,229,57⟩)] 0 ⟨229,11,229,58⟩)) ⟨229,4,229,58⟩)]),⟨.function,[("data",.local),("at",.local),("form",.local),("place",.local),("fields",.local),("bit",.local),("number",.local),("len",.globalImplicit),("range",.globalImplicit),("_law_ones",.globalImplicit),("tuple",.globalImplicit)],false,false,[]⟩,3,[],.none,.none,.none,(.str "law_nu0167_01" 676),none,(.ref 413),.none,0⟩),#[]⟩) ::
 (nat_lit 415,⟨(.type "tuple"),none,(.seq #[] 0),#[]⟩) ::
 (nat_lit 417,⟨(.type "tuple"),none,(.seq #[(.str "value" 743),(.str "form" 744),(.str "target" 745),(.str "caught" 746),(.str "error" 747)] 0),#[]⟩) ::
 (nat_lit 418,⟨(.type "tuple"),none,(.seq #[] 0),#[]⟩) ::
 (nat_lit 420,⟨(.type "code"),none,(.fields #[(.str "_law_written" 740),(.str "_law_written" 741),(.str "/claim/cut.py" 742),(.int 230 0),(.int 2 0),(.int 0 0),(.int 0 0),(.int 3 0),(.ref 415),(.bool true),(.int 181 0),(.ref 416),.none,(.ref 417),(.ref 418),(.ref 419),(.int 748 0),(.int 230 0),(.str "/claim/cut.py" 749)]),#[]⟩) ::
 (nat_lit 421,⟨(.type "function"),none,(.func ⟨"_law_written","_law_written",⟨[],[⟨"value",none,⟨230,17,230,22⟩⟩,⟨"form",none,⟨230,24,230,28⟩⟩],none,[],[],none,[]⟩,(.stmts [(.Assign [(.Tuple [(.Name "target" ⟨231,4,231,10⟩),(.Name "caught" ⟨231,12,231,18⟩)] 0 ⟨231,4,231,18⟩)] (.Tuple [(.Call (.Name "OctetsOut" ⟨231,22,231,31⟩) [] [] ⟨231,22,231,33⟩),(.Constant .none 0 ⟨231,35,231,39⟩)] 0 ⟨231,21,231,40⟩) ⟨231,4,231,40⟩),(.Try [(.Expr (.Call (.Name "write_value" ⟨233,8,233,19⟩) [(.Name "target" ⟨233,20,233,26⟩),(.Name "value" ⟨233,28,233,33⟩),(.Name "form" ⟨233,35,233,39⟩)] [] ⟨233,8,233,40⟩) ⟨233,8,233,40⟩)] [(.ExceptHandler (some (.Name "TableFault" ⟨234,11,234,21⟩)) (some "error") [(.Assign [(.Name "caught" ⟨235,8,235,14⟩)] (.Name "error" ⟨235,17,235,22⟩) ⟨235,8,235,22⟩)] ⟨234,4,235,22⟩)] [] [] ⟨232,4,235,22⟩),(.If (.Compare (.Name "caught" ⟨236,7,236,13⟩) [.IsNot] [(.Constant .none 0 ⟨236,21,236,25⟩)] ⟨236,7,236,25⟩) [(.Return (some (.Constant .none 0 ⟨237,15,237,19⟩)) ⟨237,8,237,19⟩)] [] ⟨236,4,237,19⟩),(.Return (some (.Tuple [(.Call (.Attribute (.Name "target" ⟨238,12,238,18⟩) "size" ⟨238,12,238,23⟩) [] [] ⟨238,12,238,25⟩),(.Call (.Attribute (.Call (.Name "read_value" ⟨238,27,238,37⟩) [(.Call (.Name "OctetsIn" ⟨238,38,238,46⟩) [(.Call (.Attribute (.Name "target" ⟨238,47,238,53⟩) "octets" ⟨238,47,238,60⟩) [] [] ⟨238,47,238,62⟩)] [] ⟨238,38,238,63⟩),(.Name "form" ⟨238,65,238,69⟩)] [] ⟨238,27,238,70⟩) "told" ⟨238,27,238,75⟩) [] [] ⟨238,27,238,77⟩)] 0 ⟨238,11,238,78⟩)) ⟨238,4,238,78⟩)]),⟨.function,[("value",.local),("form",.local),("target",.local),("caught",.local),("error",.local),("OctetsOut",.globalImplicit),("write_value",.globalImplicit),("TableFault",.globalImplicit),("read_value",.globalImplicit),("OctetsIn",.globalImplicit)],false,false,[]⟩,3,[],.none,.none,.none,(.str "law_nu0167_01" 676),none,(.ref 420),.none,0⟩),#[]⟩) ::
 (nat_lit 422,⟨(.type "tuple"),none,(.seq #[] 0),#[]⟩) ::
 (nat_lit 425,⟨(.type "code"),none,(.fields #[(.str "_law_bears" 751),(.str "_law_bears" 752),(.str "/claim/cut.py" 753),(.int 239 0),(.int 2 0),(.int 0 0),(.int 0 0),(.int 3 0),(.ref 422),(.bool true),(.int 181 0),(.ref 423),.none,.none,.none,(.ref 424),(.int 754 0),(.int 239 0),(.str "/claim/cut.py" 755)]),#[]⟩) ::
 (nat_lit 426,⟨(.type "function"),none,(.func ⟨"_law_bears","_law_bears",⟨[],[⟨"form",none,⟨239,15,239,19⟩⟩,⟨"fields",none,⟨239,21,239,27⟩⟩],none,[],[],none,[]⟩,(.stmts [(.Return (some (.Compare (.ListComp (.Name "bit" ⟨240,12,240,15⟩) [⟨(.Name "bit" ⟨240,20,240,23⟩),(.Call (.Name "range" ⟨240,27,240,32⟩) [(.Constant (.int 4) 0 ⟨240,33,240,34⟩)] [] ⟨240,27,240,35⟩),[(.BoolOp .And [(.Compare (.Subscript (.Name "fields" ⟨240,39,240,45⟩) (.Name "bit" ⟨240,46,240,49⟩) ⟨240,39,240,50⟩) [.NotEq] [(.Constant (.int 0) 0 ⟨240,54,240,55⟩)] ⟨240,39,240,55⟩),(.Compare (.BinOp (.BinOp (.Name "form" ⟨240,60,240,64⟩) .FloorDiv (.BinOp (.Constant (.int 2) 0 ⟨240,68,240,69⟩) .Pow (.Name "bit" ⟨240,73,240,76⟩) ⟨240,68,240,76⟩) ⟨240,60,240,76⟩) .Mod (.Constant (.int 2) 0 ⟨240,79,240,80⟩) ⟨240,60,240,80⟩) [.Eq] [(.Constant (.int 0) 0 ⟨240,84,240,85⟩)] ⟨240,60,240,85⟩)] ⟨240,39,240,85⟩)],0⟩] ⟨.function,[(".0",.local),("bit",.local),("fields",.free),("form",.free)],false,false,[]⟩ ⟨240,11,240,86⟩) [.Eq] [(.List [] ⟨240,90,240,92⟩)] ⟨240,11,240,92⟩)) ⟨240,4,240,92⟩)]),⟨.function,[("form",.cell),("fields",.cell),("range",.globalImplicit)],false,false,[("fast",(.str "form")),("fast",(.str "fields")),("fast",(.str "bit"))]⟩,3,[],.none,.none,.none,(.str "law_nu0167_01" 676),none,(.ref 425),.none,0⟩),#[]⟩) ::
 (nat_lit 427,⟨(.type "tuple"),none,(.seq #[] 0),#[]⟩) ::
 (nat_lit 430,⟨(.type "code"),none,(.fields #[(.str "law" 757),(.str "law" 758),(.str "/claim/cut.py" 759),(.int 241 0),(.int 1 0),(.int 0 0),(.int 0 0),(.int 3 0),(.ref 427),(.bool true),(.int 181 0),(.ref 428),.none,.none,.none,(.ref 429),(.int 760 0),(.int 241 0),(.str "/claim/cut.py" 761)]),#[]⟩) ::
 (nat_lit 431,⟨(.type "function"),none,(.func ⟨"law","law",⟨[],[⟨"script",none,⟨241,8,241,14⟩⟩],none,[],[],none,[]⟩,(.stmts [(.Assign [(.Name "pen" ⟨242,4,242,7⟩)] (.Call (.Name "_law_pen" ⟨242,10,242,18⟩) [(.Name "script" ⟨242,19,242,25⟩)] [] ⟨242,10,242,26⟩) ⟨242,4,242,26⟩),(.Assign [(.Tuple [(.Name "form" ⟨243,4,243,8⟩),(.Name "size" ⟨243,10,243,14⟩)] 0 ⟨243,4,243,14⟩)] (.Tuple [(.BinOp (.Call (.Name "_law_draw" ⟨243,18,243,27⟩) [(.Name "pen" ⟨243,28,243,31⟩),(.Constant (.int 300) 0 ⟨243,33,243,36⟩)] [] ⟨243,18,243,37⟩) .Mult (.BinOp (.Constant (.int 1) 0 ⟨243,41,243,42⟩) .Add (.Call (.Name "_law_draw" ⟨243,45,243,54⟩) [(.Name "pen" ⟨243,55,243,58⟩),(.Constant (.int 2) 0 ⟨243,60,243,61⟩)] [] ⟨243,45,243,62⟩) ⟨243,41,243,62⟩) ⟨243,18,243,63⟩),(.Call (.Name "_law_draw" ⟨243,65,243,74⟩) [(.Name "pen" ⟨243,75,243,78⟩),(.Constant (.int 21) 0 ⟨243,80,243,82⟩)] [] ⟨243,65,243,83⟩)] 0 ⟨243,17,243,84⟩) ⟨243,4,243,84⟩),(.Assign [(.Name "data" ⟨244,4,244,8⟩)] (.Call (.Name "bytes" ⟨244,11,244,16⟩) [(.BinOp (.List [(.BinOp (.Name "form" ⟨244,18,244,22⟩) .FloorDiv (.Constant (.int 256) 0 ⟨244,26,244,29⟩) ⟨244,18,244,29⟩),(.BinOp (.Name "form" ⟨244,31,244,35⟩) .Mod (.Constant (.int 256) 0 ⟨244,38,244,41⟩) ⟨244,31,244,41⟩)] ⟨244,17,244,42⟩) .Add (.ListComp (.Call (.Name "_law_draw" ⟨244,46,244,55⟩) [(.Name "pen" ⟨244,56,244,59⟩),(.Constant (.int 256) 0 ⟨244,61,244,64⟩)] [] ⟨244,46,244,65⟩) [⟨(.Name "spot" ⟨244,70,244,74⟩),(.Call (.Name "range" ⟨244,78,244,83⟩) [(.Name "size" ⟨244,84,244,88⟩)] [] ⟨244,78,244,89⟩),[],0⟩] ⟨.function,[(".0",.local),("spot",.local),("_law_draw",.globalImplicit),("pen",.free)],false,false,[]⟩ ⟨244,45,244,90⟩) ⟨244,17,244,90⟩)] [] ⟨244,11,244,91⟩) ⟨244,4,244,91⟩),(.For (.Name "at" ⟨245,8,245,10⟩) (.Tuple [(.Constant (.int 0) 0 ⟨245,15,245,16⟩),(.Constant (.int 2) 0 ⟨245,18,245,19⟩),(.Call (.Name "max" ⟨245,21,245,24⟩) [(.Constant (.int 0) 0 ⟨245,25,245,26⟩),(.BinOp (.Call (.Name "len" ⟨245,28,245,31⟩) [(.Name "data" ⟨245,32,245,36⟩)] [] ⟨245,28,245,37⟩) .Sub (.Constant (.int 1) 0 ⟨245,40,245,41⟩) ⟨245,28,245,41⟩)] [] ⟨245,21,245,42⟩)] 0 ⟨245,14,245,43⟩) [(.If (.Compare (.Call (.Name "_law_read" ⟨246,11,246,20⟩) [(.Name "data" ⟨246,21,246,25⟩),(.Name "at" ⟨246,27,246,29⟩)] [] ⟨246,11,246,30⟩) [.NotEq] [(.Call (.Name "_law_due" ⟨246,34,246,42⟩) [(.Name "data" ⟨246,43,246,47⟩),(.Name "at" ⟨246,49,246,51⟩)] [] ⟨246,34,246,52⟩)] ⟨246,11,246,52⟩) [(.Return (some (.Constant (.bool false) 0 ⟨247,19,247,24⟩)) ⟨247,12,247,24⟩)] [] ⟨246,8,247,24⟩)] [] ⟨245,4,247,24⟩),(.Assign [(.Name "rows" ⟨248,4,248,8⟩)] (.ListComp (.Call (.Name "tuple" ⟨248,12,248,17⟩) [(.ListComp (.Subscript (.Name "_law_menu" ⟨248,19,248,28⟩) (.Call (.Name "_law_draw" ⟨248,29,248,38⟩) [(.Name "pen" ⟨248,39,248,42⟩),(.Constant (.int 8) 0 ⟨248,44,248,45⟩)] [] ⟨248,29,248,46⟩) ⟨248,19,248,47⟩) [⟨(.Name "bit" ⟨248,52,248,55⟩),(.Call (.Name "range" ⟨248,59,248,64⟩) [(.Constant (.int 4) 0 ⟨248,65,248,66⟩)] [] ⟨248,59,248,67⟩),[],0⟩] ⟨.function,[(".0",.local),("bit",.local),("_law_menu",.globalImplicit),("_law_draw",.globalImplicit),("pen",.free)],false,false,[]⟩ ⟨248,18,248,68⟩)] [] ⟨248,12,248,69⟩) [⟨(.Name "spot" ⟨248,74,248,78⟩),(.Call (.Name "range" ⟨248,82,248,87⟩) [(.Call (.Name "_law_draw" ⟨248,88,248,97⟩) [(.Name "pen" ⟨248,98,248,101⟩),(.Constant (.int 6) 0 ⟨248,103,248,104⟩)] [] ⟨248,88,248,105⟩)] [] ⟨248,82,248,106⟩),[],0⟩] ⟨.function,[(".0",.local),("spot",.local),("tuple",.globalImplicit),("range",.globalImplicit),("pen",.free)],false,false,[]⟩ ⟨248,11,248,107⟩) ⟨248,4,248,107⟩),(.Assign [(.Name "values" ⟨249,4,249,10⟩)] (.ListComp (.Call (.Name "Value" ⟨249,14,249,19⟩) [(.Subscript (.Name "row" ⟨249,20,249,23⟩) (.Constant (.int 0) 0 ⟨249,24,249,25⟩) ⟨249,20,249,26⟩),(.Subscript (.Name "row" ⟨249,28,249,31⟩) (.Constant (.int 1) 0 ⟨249,32,249,33⟩) ⟨249,28,249,34⟩),(.Subscript (.Name "row" ⟨249,36,249,39⟩) (.Constant (.int 2) 0 ⟨249,40,249,41⟩) ⟨249,36,249,42⟩),(.Subscript (.Name "row" ⟨249,44,249,47⟩) (.Constant (.int 3) 0 ⟨249,48,249,49⟩) ⟨249,44,249,50⟩)] [] ⟨249,14,249,51⟩) [⟨(.Name "row" ⟨249,56,249,59⟩),(.Name "rows" ⟨249,63,249,67⟩),[],0⟩] ⟨.function,[(".0",.local),("row",.local),("Value",.globalImplicit)],false,false,[]⟩ ⟨249,13,249,68⟩) ⟨249,4,249,68⟩),(.Assign [(.Name "whole" ⟨250,4,250,9⟩)] (.ListComp (.Name "one" ⟨250,13,250,16⟩) [⟨(.Name "one" ⟨250,21,250,24⟩),(.Call (.Name "range" ⟨250,28,250,33⟩) [(.Constant (.int 16) 0 ⟨250,34,250,36⟩)] [] ⟨250,28,250,37⟩),[(.Compare (.ListComp (.Name "row" ⟨250,42,250,45⟩) [⟨(.Name "row" ⟨250,50,250,53⟩),(.Name "rows" ⟨250,57,250,61⟩),[(.UnaryOp .Not (.Call (.Name "_law_bears" ⟨250,69,250,79⟩) [(.Name "one" ⟨250,80,250,83⟩),(.Name "row" ⟨250,85,250,88⟩)] [] ⟨250,69,250,89⟩) ⟨250,65,250,89⟩)],0⟩] ⟨.function,[(".0",.local),("row",.local),("_law_bears",.globalImplicit),("one",.free)],false,false,[]⟩ ⟨250,41,250,90⟩) [.Eq] [(.List [] ⟨250,94,250,96⟩)] ⟨250,41,250,96⟩)],0⟩] ⟨.function,[(".0",.local),("one",.cell),("rows",.free)],false,false,[]⟩ ⟨250,12,250,97⟩) ⟨250,4,250,97⟩),(.If (.Compare (.Call (.Name "form_of" ⟨251,7,251,14⟩) [(.Name "values" ⟨251,15,251,21⟩)] [] ⟨251,7,251,22⟩) [.NotEq] [(.Subscript (.Call (.Name "min" ⟨251,26,251,29⟩) [(.ListComp (.Tuple [(.Call (.Name "_law_ones" ⟨251,32,251,41⟩) [(.Name "one" ⟨251,42,251,45⟩)] [] ⟨251,32,251,46⟩),(.Name "one" ⟨251,48,251,51⟩)] 0 ⟨251,31,251,52⟩) [⟨(.Name "one" ⟨251,57,251,60⟩),(.Name "whole" ⟨251,64,251,69⟩),[],0⟩] ⟨.function,[(".0",.local),("one",.local),("_law_ones",.globalImplicit)],false,false,[]⟩ ⟨251,30,251,70⟩)] [] ⟨251,26,251,71⟩) (.Constant (.int 1) 0 ⟨251,72,251,73⟩) ⟨251,26,251,74⟩)] ⟨251,7,251,74⟩) [(.Return (some (.Constant (.bool false) 0 ⟨252,15,252,20⟩)) ⟨252,8,252,20⟩)] [] ⟨251,4,252,20⟩),(.Assign [(.Tuple [(.Name "info" ⟨253,4,253,8⟩),(.Name "is_backward" ⟨253,10,253,21⟩)] 0 ⟨253,4,253,21⟩)] (.Tuple [(.Call (.Name "Info" ⟨253,25,253,29⟩) [(.Constant (.int 65) 0 ⟨253,30,253,32⟩),(.Constant (.int 3) 0 ⟨253,34,253,35⟩),(.Constant (.int 7) 0 ⟨253,37,253,38⟩)] [] ⟨253,25,253,39⟩),(.Compare (.Call (.Name "_law_draw" ⟨253,41,253,50⟩) [(.Name "pen" ⟨253,51,253,54⟩),(.Constant (.int 2) 0 ⟨253,56,253,57⟩)] [] ⟨253,41,253,58⟩) [.Eq] [(.Constant (.int 1) 0 ⟨253,62,253,63⟩)] ⟨253,41,253,63⟩)] 0 ⟨253,24,253,64⟩) ⟨253,4,253,64⟩),(.Assign [(.Name "sums" ⟨254,4,254,8⟩)] (.List [(.Constant (.int 9) 0 ⟨254,12,254,13⟩),(.UnaryOp .USub (.Constant (.int 4) 0 ⟨254,16,254,17⟩) ⟨254,15,254,17⟩),(.Constant (.int 100) 0 ⟨254,19,254,22⟩),(.Constant (.int 2) 0 ⟨254,24,254,25⟩)] ⟨254,11,254,26⟩) ⟨254,4,254,26⟩),(.Assign [(.Tuple [(.Attribute (.Name "info" ⟨255,4,255,8⟩) "x_offset" ⟨255,4,255,17⟩),(.Attribute (.Name "info" ⟨255,19,255,23⟩) "y_offset" ⟨255,19,255,32⟩),(.Attribute (.Name "info" ⟨255,34,255,38⟩) "x_advance" ⟨255,34,255,48⟩),(.Attribute (.Name "info" ⟨255,50,255,54⟩) "y_advance" ⟨255,50,255,64⟩)] 0 ⟨255,4,255,64⟩)] (.Tuple [(.Subscript (.Name "sums" ⟨255,68,255,72⟩) (.Constant (.int 0) 0 ⟨255,73,255,74⟩) ⟨255,68,255,75⟩),(.Subscript (.Name "sums" ⟨255,77,255,81⟩) (.Constant (.int 1) 0 ⟨255,82,255,83⟩) ⟨255,77,255,84⟩),(.Subscript (.Name "sums" ⟨255,86,255,90⟩) (.Constant (.int 2) 0 ⟨255,91,255,92⟩) ⟨255,86,255,93⟩),(.Subscript (.Name "sums" ⟨255,95,255,99⟩) (.Constant (.int 3) 0 ⟨255,100,255,101⟩) ⟨255,95,255,102⟩)] 0 ⟨255,67,255,103⟩) ⟨255,4,255,103⟩),(.For (.Tuple [(.Name "row" ⟨256,8,256,11⟩),(.Name "value" ⟨256,13,256,18⟩)] 0 ⟨256,8,256,18⟩) (.Call (.Name "zip" ⟨256,22,256,25⟩) [(.Name "rows" ⟨256,26,256,30⟩),(.Name "values" ⟨256,32,256,38⟩)] [] ⟨256,22,256,39⟩) [(.For (.Name "one" ⟨257,12,257,15⟩) (.Call (.Name "range" ⟨257,19,257,24⟩) [(.Constant (.int 16) 0 ⟨257,25,257,27⟩)] [] ⟨257,19,257,28⟩) [(.Assign [(.Name "due" ⟨258,12,258,15⟩)] (.IfExp (.Call (.Name "_law_bears" ⟨258,47,258,57⟩) [(.Name "one" ⟨258,58,258,61⟩),(.Name "row" ⟨258,63,258,66⟩)] [] ⟨258,47,258,67⟩) (.Tuple [(.BinOp (.Constant (.int 2) 0 ⟨258,19,258,20⟩) .Mult (.Call (.Name "_law_ones" ⟨258,23,258,32⟩) [(.Name "one" ⟨258,33,258,36⟩)] [] ⟨258,23,258,37⟩) ⟨258,19,258,37⟩),(.Name "row" ⟨258,39,258,42⟩)] 0 ⟨258,18,258,43⟩) (.Constant .none 0 ⟨258,73,258,77⟩) ⟨258,18,258,77⟩) ⟨258,12,258,77⟩),(.If (.Compare (.Call (.Name "_law_written" ⟨259,15,259,27⟩) [(.Name "value" ⟨259,28,259,33⟩),(.Name "one" ⟨259,35,259,38⟩)] [] ⟨259,15,259,39⟩) [.NotEq] [(.Name "due" ⟨259,43,259,46⟩)] ⟨259,15,259,46⟩) [(.Return (some (.Constant (.bool false) 0 ⟨260,23,260,28⟩)) ⟨260,16,260,28⟩)] [] ⟨259,12,260,28⟩)] [] ⟨257,8,260,28⟩),(.If (.BoolOp .Or [(.Compare (.Call (.Name "_law_written" ⟨261,11,261,23⟩) [(.Name "value" ⟨261,24,261,29⟩),(.BinOp (.Constant (.int 16) 0 ⟨261,31,261,33⟩) .Add (.BinOp (.Name "form" ⟨261,36,261,40⟩) .Mod (.Constant (.int 240) 0 ⟨261,43,261,46⟩) ⟨261,36,261,46⟩) ⟨261,31,261,46⟩)] [] ⟨261,11,261,47⟩) [.IsNot] [(.Constant .none 0 ⟨261,55,261,59⟩)] ⟨261,11,261,59⟩),(.Compare (.Call (.Attribute (.Name "value" ⟨261,63,261,68⟩) "is_nothing" ⟨261,63,261,79⟩) [] [] ⟨261,63,261,81⟩) [.NotEq] [(.Compare (.Name "row" ⟨261,86,261,89⟩) [.Eq] [(.Tuple [(.Constant (.int 0) 0 ⟨261,94,261,95⟩),(.Constant (.int 0) 0 ⟨261,97,261,98⟩),(.Constant (.int 0) 0 ⟨261,100,261,101⟩),(.Constant (.int 0) 0 ⟨261,103,261,104⟩)] 0 ⟨261,93,261,105⟩)] ⟨261,86,261,105⟩)] ⟨261,63,261,106⟩),(.Compare (.Call (.Attribute (.Name "value" ⟨261,110,261,115⟩) "told" ⟨261,110,261,120⟩) [] [] ⟨261,110,261,122⟩) [.NotEq] [(.Name "row" ⟨261,126,261,129⟩)] ⟨261,110,261,129⟩)] ⟨261,11,261,129⟩) [(.Return (some (.Constant (.bool false) 0 ⟨262,19,262,24⟩)) ⟨262,12,262,24⟩)] [] ⟨261,8,262,24⟩),(.Expr (.Call (.Name "add_value" ⟨263,8,263,17⟩) [(.Name "info" ⟨263,18,263,22⟩),(.Name "value" ⟨263,24,263,29⟩),(.Name "is_backward" ⟨263,31,263,42⟩)] [] ⟨263,8,263,43⟩) ⟨263,8,263,43⟩),(.Assign [(.Name "sums" ⟨264,8,264,12⟩)] (.List [(.BinOp (.Subscript (.Name "sums" ⟨264,16,264,20⟩) (.Constant (.int 0) 0 ⟨264,21,264,22⟩) ⟨264,16,264,23⟩) .Add (.Subscript (.Name "row" ⟨264,26,264,29⟩) (.Constant (.int 0) 0 ⟨264,30,264,31⟩) ⟨264,26,264,32⟩) ⟨264,16,264,32⟩),(.BinOp (.Subscript (.Name "sums" ⟨264,34,264,38⟩) (.Constant (.int 1) 0 ⟨264,39,264,40⟩) ⟨264,34,264,41⟩) .Add (.Subscript (.Name "row" ⟨264,44,264,47⟩) (.Constant (.int 1) 0 ⟨264,48,264,49⟩) ⟨264,44,264,50⟩) ⟨264,34,264,50⟩),(.BinOp (.Subscript (.Name "sums" ⟨264,52,264,56⟩) (.Constant (.int 2) 0 ⟨264,57,264,58⟩) ⟨264,52,264,59⟩) .Add (.Subscript (.Name "row" ⟨264,62,264,65⟩) (.Constant (.int 2) 0 ⟨264,66,264,67⟩) ⟨264,62,264,68⟩) ⟨264,52,264,68⟩),(.Subscript (.Name "sums" ⟨264,70,264,74⟩) (.Constant (.int 3) 0 ⟨264,75,264,76⟩) ⟨264,70,264,77⟩)] ⟨264,15,264,78⟩) ⟨264,8,264,78⟩)] [] ⟨256,4,264,78⟩),(.Return (some (.Compare (.Call (.Attribute (.Name "info" ⟨265,11,265,15⟩) "told" ⟨265,11,265,20⟩) [] [] ⟨265,11,265,22⟩) [.Eq] [(.Tuple [(.Constant (.int 3) 0 ⟨265,27,265,28⟩),(.Constant (.int 7) 0 ⟨265,30,265,31⟩),(.Subscript (.Name "sums" ⟨265,33,265,37⟩) (.Constant (.int 2) 0 ⟨265,38,265,39⟩) ⟨265,33,265,40⟩),(.Subscript (.Name "sums" ⟨265,42,265,46⟩) (.Constant (.int 3) 0 ⟨265,47,265,48⟩) ⟨265,42,265,49⟩),(.Subscript (.Name "sums" ⟨265,51,265,55⟩) (.Constant (.int 0) 0 ⟨265,56,265,57⟩) ⟨265,51,265,58⟩),(.Subscript (.Name "sums" ⟨265,60,265,64⟩) (.Constant (.int 1) 0 ⟨265,65,265,66⟩) ⟨265,60,265,67⟩)] 0 ⟨265,26,265,68⟩)] ⟨265,11,265,68⟩)) ⟨265,4,265,68⟩)]),⟨.function,[("script",.local),("pen",.cell),("form",.local),("size",.local),("data",.local),("at",.local),("rows",.cell),("row",.local),("values",.local),("one",.local),("whole",.local),("info",.local),("is_backward",.local),("sums",.local),("value",.local),("due",.local),("_law_pen",.globalImplicit),("_law_draw",.globalImplicit),("bytes",.globalImplicit),("range",.globalImplicit),("max",.globalImplicit),("len",.globalImplicit),("_law_read",.globalImplicit),("_law_due",.globalImplicit),("form_of",.globalImplicit),("min",.globalImplicit),("Info",.globalImplicit),("zip",.globalImplicit),("_law_bears",.globalImplicit),("_law_ones",.globalImplicit),("_law_written",.globalImplicit),("add_value",.globalImplicit)],false,false,[("fast",(.str "script")),("fast",(.str "pen")),("fast",(.str "form")),("fast",(.str "size")),("fast",(.str "spot")),("fast",(.str "data")),("fast",(.str "at")),("fast",(.str "bit")),("fast",(.str "rows")),("fast",(.str "row")),("fast",(.str "values")),("fast",(.str "one")),("fast",(.str "whole")),("fast",(.str "info")),("fast",(.str "is_backward")),("fast",(.str "sums")),("fast",(.str "value")),("fast",(.str "due"))]⟩,3,[],.none,.none,.none,(.str "law_nu0167_01" 676),none,(.ref 430),.none,0⟩),#[]⟩)::[]
noncomputable def hd.view_39:Program:=view hd.pw [0,2,3,5,6,7,8,9,10,11,12,13,14,16,18,19,20,21,22,23,25,26,27,28,29,30,31,32,33]
noncomputable def hd.o_45:Obj:=⟨.type "code",none,.fields #[.str "<module>" 182,.str "<module>" 183,.str "/claim/cut.py" 184,.int 1 0,.int 0 0,.int 0 0,.int 0 0,.int 0 0,.ref 11,.bool false,.int 181 0,.ref 12,.none,.none,.none,.none,.int 185 0,.int 1 0,.str "/claim/cut.py" 186],#[]⟩
noncomputable def hd.o_46:Obj:=⟨.type "frame",none,.plain,#[some (.ref 13),some (.ref 3),some (.ref 3),none,some (.str "__main__" 164),none,some (.ref 0)]⟩
noncomputable def hd.first (P:Params):Heap:=⟨⟨[boot_o_0 P,boot_o_1 P,boot_o_2 P,boot_o_3 P,boot_o_4 P,boot_o_5 P,boot_o_6 P,boot_o_7 P,boot_o_8 P,boot_o_9 P,boot_o_10 P,⟨.type "tuple",none,.seq #[] 0,#[]⟩,⟨.none,none,.fields #[],#[]⟩,hd.o_45,hd.o_46]⟩,{}⟩
noncomputable def hd.tree (P:Params):BT:=.node (boot_o_0 P) (.node (boot_o_1 P) (.node (boot_o_3 P) (.node (boot_o_7 P) .nil .nil) (.node ⟨.type "tuple",none,.seq #[] 0,#[]⟩ .nil .nil)) (.node (boot_o_5 P) (.node (boot_o_9 P) .nil .nil) (.node hd.o_45 .nil .nil))) (.node (boot_o_2 P) (.node (boot_o_4 P) (.node (boot_o_8 P) .nil .nil) (.node ⟨.none,none,.fields #[],#[]⟩ .nil .nil)) (.node (boot_o_6 P) (.node (boot_o_10 P) .nil .nil) (.node hd.o_46 .nil .nil)))
noncomputable def hd.env:Env:={scope:=hd.pw.main.scope,locals:=mainNs,globals:=mainNs,cells:=[],code:=.ref 13,frame:=some 14}
noncomputable abbrev hd.code:Code:=.body (behindTheImports hd.pw) hd.env
abbrev hd.pos0:Pos:=⟨0,0,0,0⟩
noncomputable abbrev hd.back:List Frame:=[topFrame hd.pos0]
noncomputable abbrev hd.hook:Hook:=kHook hd.heap_39 [2,3,15,17,18,20,21,22,25,30,31,32,34,35,37,38,39,41,42,44,45,46,47,48,49,52,59,60,61,71,73,74,76,77,78,80,81,83,84,85,87,88,90,91,92,93,94,95,96,99,101,102,104,105,106,109,110,111,113,114,116,117,118,120,121,123,124,125,127,128,130,131,132,134,135,137,138,146,148,149,151,152,153,155,156,158,159,160,162,163,165,166,167,168,169,170,171,174,176,177,179,180,181,183,184,186,187,188,190,191,193,194,202,203,205,206,208,209,210,212,213,215,216,217,219,220,222,223,224,226,227,229,230,231,233,234,236,237,238,240,241,243,244,245,247,248,250,251,252,254,255,257,258,259,261,262,264,265,266,269,270,271,273,274,276,277,278,279,280,281,282,285,288,289,297,299,300,302,303,304,306,307,309,310,311,313,314,316,317,318,320,321,323,324,325,327,328,330,331,332,334,335,337,338,339,341,342,344,345,346,348,349,351,352,353,355,356,358,359,360,362,363,365,366,367,369,370,372,373,374,375,376,377,378,381,382,384,385,387,388,389,391,392,394,395,396,399,400,401,403,404,406,407,408,410,411,413,414,415,417,418,420,421,422,425,426,427,430,431] (fun _=>by kernel_rfl)
noncomputable abbrev hd.Xt:Shared→Bool:=fun s=>xlAt hd.view_39 [] s && recOk (RowW.records PySem.Challenge.rw_nu0167_01.row.toRowW) s
noncomputable def hd.good (w:World) (s:Shared) :=
  (staticsOk (importedModules hd.pw.main.body) (boot_heap w.params) s.heap && namesBound hd.pw s.heap && gensDone s && laidKept (boot_heap w.params) s.heap,
   openSeen hd.view_39 [Str.ofString "ShapeError"] (importedModules hd.pw.main.body) hd.Xt true s,hd.hook.obs s)
theorem hd.pre (w:World):(fun os=>topGo treeTable hd.pw w 11 (some (.ref 6)) 12 ⟨boot_heap w.params,Array.mk [],boot_drawn,boot_toks,os⟩ (topStub hd.pw)) =
    fun os=>some (⟨hd.first w.params,Array.mk [],{},187,os⟩,⟨denote treeTable hd.code,hd.code,hd.pos0,hd.back⟩):=by
  rw [PySem.W.Fast.te15667345088766844465,PySem.W.Fast.te14364793385576792824,PySem.W.Fast.te11892475500146522536]
  kernel_rfl
theorem hd.block (w:World):(fun os=>segRun treeTable hd.pw w 11 (some (.ref 6)) 1 1 ⟨hd.first w.params,Array.mk [],{},187,os⟩ (blockOf (behindTheImports hd.pw) hd.env hd.code hd.pos0 hd.back)) =
    fun os=>some (.next,(SharedT.mk (hd.tree w.params) 15 {} (Array.mk []) {} 187 os).abs,hd.code,hd.pos0):=by
  rw [PySem.W.Fast.te14374325043358763698,PySem.W.Fast.te14364793385576792824]
  kernel_rfl
theorem and_true2 {a b:Bool} (h:a=true) (k:b=true):(a && b)=true:=by rw [h,k];rfl
theorem take_drop_eq {α:Type} {a b:List α} {n:Nat} (h:a.take n=b.take n) (k:a.drop n=b.drop n):a=b:=by
  rw [← List.take_append_drop n a,h,k,List.take_append_drop]
noncomputable def hd.L (P:Params) (a:Nat):Obj:=@List.rec (Nat×Obj) (fun _=>Obj) ⟨.none,none,.plain,#[]⟩ (fun p _ r=>cond (Nat.beq p.1 a) p.2 r) (hd.heap_39 P)
noncomputable def hd.M (P:Params) (a:Nat):Obj:=match (hd.L P a).data with
  | .func f=>⟨.none,none,.func ⟨f.name,f.qualname,f.params,f.body,f.scope,0,[],.none,.none,.none,.none,none,.none,.none,0⟩,#[]⟩
  | _=>⟨.none,none,.plain,#[]⟩
noncomputable def hd.q104 (P:Params):Obj:=⟨(.type "dict"),none,(.dict #[⟨(PyData.keyHash P "__name__"),(.str "__name__" 165),(.str "joinedhand.values" 254)⟩,⟨(PyData.keyHash P "__doc__"),(.str "__doc__" 166),.none⟩,⟨(PyData.keyHash P "__package__"),(.str "__package__" 167),.none⟩,⟨(PyData.keyHash P "__loader__"),(.str "__loader__" 168),(.builtin "__main__.__loader__#opaque")⟩,⟨(PyData.keyHash P "__spec__"),(.str "__spec__" 169),.none⟩,⟨(PyData.keyHash P "__annotations__"),(.str "__annotations__" 170),(.ref 6)⟩,⟨(PyData.keyHash P "__builtins__"),(.str "__builtins__" 171),(.ref 4)⟩,⟨(PyData.keyHash P "__file__"),(.str "__file__" 173),(.str "/claim/cut.py" 172)⟩,⟨(PyData.keyHash P "__cached__"),(.str "__cached__" 174),.none⟩,⟨(PyData.keyHash P "_wall"),(.str "_wall" 193),(.ref 21)⟩,⟨(PyData.keyHash P "ShapeError"),(.str "ShapeError" 237),(.ref 48)⟩,⟨(PyData.keyHash P "TableFault"),(.str "TableFault" 253),(.ref 61)⟩,⟨(PyData.keyHash P "FIELDS"),(.str "FIELDS" 257),(.int 4 256)⟩,⟨(PyData.keyHash P "MOST_FORM"),(.str "MOST_FORM" 259),(.int 255 258)⟩,⟨(PyData.keyHash P "LEAST_DEVICE"),(.str "LEAST_DEVICE" 261),(.int 16 260)⟩,⟨(PyData.keyHash P "Value"),(.str "Value" 310),(.ref 94)⟩,⟨(PyData.keyHash P "read_form"),(.str "read_form" 319),(.ref 105)⟩,⟨(PyData.keyHash P "size_of"),(.str "size_of" 325),(.ref 110)⟩,⟨(PyData.keyHash P "read_value"),(.str "read_value" 335),(.ref 117)⟩] 19),#[]⟩
noncomputable def hd.q43 (P:Params):Obj:=⟨(.type "tuple"),none,(.seq #[] 0),#[]⟩
noncomputable def hd.q105 (P:Params):Obj:=⟨.none,none,(.fields #[(.int 1 0),(.int 0 0),(.ref 20),(.int 5 0),(.int 0 0),(.ref 28),(.int 14 0),(.int 0 0),(.ref 57),(.int 20 0),(.int 0 0),(.ref 69),(.int 33 0),(.int 0 0),(.ref 104),(.int 39 0),(.int 0 0),(.ref 109),(.int 41 0),(.int 0 0),(.ref 116)]),#[]⟩
noncomputable def hd.q45 (P:Params):Obj:=⟨(.type "code"),none,(.fields #[(.str "<module>" 182),(.str "<module>" 183),(.str "/claim/cut.py" 184),(.int 1 0),(.int 0 0),(.int 0 0),(.int 0 0),(.int 0 0),(.ref 11),(.bool false),(.int 181 0),(.ref 12),.none,.none,.none,.none,(.int 185 0),(.int 1 0),(.str "/claim/cut.py" 186)]),#[]⟩
noncomputable def hd.q46 (P:Params):Obj:=⟨(.type "frame"),none,.plain,#[(some (.ref 13)),(some (.ref 3)),(some (.ref 3)),none,(some (.str "__main__" 164)),none,(some (.ref 0))]⟩
noncomputable def hd.q53 (P:Params):Obj:=⟨.none,none,(.fields #[]),#[]⟩
noncomputable def hd.q60 (P:Params):Obj:=⟨(.type "builtin_function_or_method"),none,(.fields #[(.builtin "type.__prepare__"),(.type "type")]),#[]⟩
noncomputable def hd.q61 (P:Params):Obj:=⟨(.type "dict"),none,(.dict #[⟨(PyData.keyHash P "__module__"),(.str "__module__" 203),(.str "joinedhand.errors" 194)⟩,⟨(PyData.keyHash P "__qualname__"),(.str "__qualname__" 205),(.str "ShapeError" 204)⟩,⟨(PyData.keyHash P "__firstlineno__"),(.str "__firstlineno__" 207),(.int 5 206)⟩,⟨(PyData.keyHash P "__init__"),(.str "__init__" 219),(.ref 38)⟩,⟨(PyData.keyHash P "told"),(.str "told" 226),(.ref 45)⟩,⟨(PyData.keyHash P "__static_attributes__"),(.str "__static_attributes__" 229),(.ref 46)⟩,⟨(PyData.keyHash P "__classcell__"),(.str "__classcell__" 230),(.ref 25)⟩] 7),#[]⟩
noncomputable def hd.q64 (P:Params):Obj:=⟨.none,none,(.fields #[(.int 7 0),(.int 4 0),(.ref 37),(.int 12 0),(.int 4 0),(.ref 44)]),#[]⟩
noncomputable def hd.q65 (P:Params):Obj:=⟨(.type "code"),none,(.fields #[(.str "ShapeError" 198),(.str "ShapeError" 199),(.str "/claim/cut.py" 200),(.int 5 0),(.int 0 0),(.int 0 0),(.int 0 0),(.int 0 0),(.ref 26),(.bool false),(.int 181 0),(.ref 27),.none,.none,.none,.none,(.int 201 0),(.int 5 0),(.str "/claim/cut.py" 202)]),#[]⟩
noncomputable def hd.q66 (P:Params):Obj:=⟨(.type "frame"),none,.plain,#[(some (.ref 28)),(some (.ref 3)),(some (.ref 24)),none,(some (.str "joinedhand.errors" 194)),none,(some (.ref 0))]⟩
noncomputable def hd.q87 (P:Params):Obj:=⟨(.type "super"),none,(.fields #[(.ref 48),(.ref 48),(.ref 48)]),#[]⟩
noncomputable def hd.q88 (P:Params):Obj:=⟨(.type "builtin_function_or_method"),none,(.fields #[(.builtin "object.__init_subclass__"),(.ref 48)]),#[]⟩
noncomputable def hd.q94 (P:Params):Obj:=⟨(.type "dict"),none,(.dict #[⟨(PyData.keyHash P "__module__"),(.str "__module__" 245),(.str "joinedhand.errors" 194)⟩,⟨(PyData.keyHash P "__qualname__"),(.str "__qualname__" 247),(.str "TableFault" 246)⟩,⟨(PyData.keyHash P "__firstlineno__"),(.str "__firstlineno__" 249),(.int 14 248)⟩,⟨(PyData.keyHash P "__static_attributes__"),(.str "__static_attributes__" 250),(.ref 59)⟩] 4),#[]⟩
noncomputable def hd.q97 (P:Params):Obj:=⟨(.type "code"),none,(.fields #[(.str "TableFault" 240),(.str "TableFault" 241),(.str "/claim/cut.py" 242),(.int 14 0),(.int 0 0),(.int 0 0),(.int 0 0),(.int 0 0),(.ref 55),(.bool false),(.int 181 0),(.ref 56),.none,.none,.none,.none,(.int 243 0),(.int 14 0),(.str "/claim/cut.py" 244)]),#[]⟩
noncomputable def hd.q98 (P:Params):Obj:=⟨(.type "frame"),none,.plain,#[(some (.ref 57)),(some (.ref 3)),(some (.ref 54)),none,(some (.str "joinedhand.errors" 194)),none,(some (.ref 0))]⟩
noncomputable def hd.q102 (P:Params):Obj:=⟨(.type "super"),none,(.fields #[(.ref 61),(.ref 61),(.ref 61)]),#[]⟩
noncomputable def hd.q103 (P:Params):Obj:=⟨(.type "builtin_function_or_method"),none,(.fields #[(.builtin "object.__init_subclass__"),(.ref 61)]),#[]⟩
noncomputable def hd.q108 (P:Params):Obj:=⟨(.type "dict"),none,(.dict #[⟨(PyData.keyHash P "__module__"),(.str "__module__" 269),(.str "joinedhand.values" 254)⟩,⟨(PyData.keyHash P "__qualname__"),(.str "__qualname__" 271),(.str "Value" 270)⟩,⟨(PyData.keyHash P "__firstlineno__"),(.str "__firstlineno__" 273),(.int 20 272)⟩,⟨(PyData.keyHash P "__init__"),(.str "__init__" 284),(.ref 77)⟩,⟨(PyData.keyHash P "told"),(.str "told" 291),(.ref 84)⟩,⟨(PyData.keyHash P "is_nothing"),(.str "is_nothing" 298),(.ref 91)⟩,⟨(PyData.keyHash P "__static_attributes__"),(.str "__static_attributes__" 303),(.ref 92)⟩] 7),#[]⟩
noncomputable def hd.q110 (P:Params):Obj:=⟨.none,none,(.fields #[(.int 22 0),(.int 4 0),(.ref 76),(.int 28 0),(.int 4 0),(.ref 83),(.int 31 0),(.int 4 0),(.ref 90)]),#[]⟩
noncomputable def hd.q111 (P:Params):Obj:=⟨(.type "code"),none,(.fields #[(.str "Value" 264),(.str "Value" 265),(.str "/claim/cut.py" 266),(.int 20 0),(.int 0 0),(.int 0 0),(.int 0 0),(.int 0 0),(.ref 67),(.bool false),(.int 181 0),(.ref 68),.none,.none,.none,.none,(.int 267 0),(.int 20 0),(.str "/claim/cut.py" 268)]),#[]⟩
noncomputable def hd.q112 (P:Params):Obj:=⟨(.type "frame"),none,.plain,#[(some (.ref 69)),(some (.ref 3)),(some (.ref 66)),none,(some (.str "joinedhand.values" 254)),none,(some (.ref 0))]⟩
noncomputable def hd.q139 (P:Params):Obj:=⟨(.type "super"),none,(.fields #[(.ref 94),(.ref 94),(.ref 94)]),#[]⟩
noncomputable def hd.q140 (P:Params):Obj:=⟨(.type "builtin_function_or_method"),none,(.fields #[(.builtin "object.__init_subclass__"),(.ref 94)]),#[]⟩
noncomputable def hd.q243 (P:Params):Obj:=⟨(.type "dict"),none,(.dict #[⟨(PyData.keyHash P "__name__"),(.str "__name__" 165),(.str "joinedhand.octets" 428)⟩,⟨(PyData.keyHash P "__doc__"),(.str "__doc__" 166),.none⟩,⟨(PyData.keyHash P "__package__"),(.str "__package__" 167),.none⟩,⟨(PyData.keyHash P "__loader__"),(.str "__loader__" 168),(.builtin "__main__.__loader__#opaque")⟩,⟨(PyData.keyHash P "__spec__"),(.str "__spec__" 169),.none⟩,⟨(PyData.keyHash P "__annotations__"),(.str "__annotations__" 170),(.ref 6)⟩,⟨(PyData.keyHash P "__builtins__"),(.str "__builtins__" 171),(.ref 4)⟩,⟨(PyData.keyHash P "__file__"),(.str "__file__" 173),(.str "/claim/cut.py" 172)⟩,⟨(PyData.keyHash P "__cached__"),(.str "__cached__" 174),.none⟩,⟨(PyData.keyHash P "_wall"),(.str "_wall" 193),(.ref 21)⟩,⟨(PyData.keyHash P "ShapeError"),(.str "ShapeError" 237),(.ref 48)⟩,⟨(PyData.keyHash P "TableFault"),(.str "TableFault" 253),(.ref 61)⟩,⟨(PyData.keyHash P "FIELDS"),(.str "FIELDS" 257),(.int 4 256)⟩,⟨(PyData.keyHash P "MOST_FORM"),(.str "MOST_FORM" 259),(.int 255 258)⟩,⟨(PyData.keyHash P "LEAST_DEVICE"),(.str "LEAST_DEVICE" 261),(.int 16 260)⟩,⟨(PyData.keyHash P "Value"),(.str "Value" 310),(.ref 94)⟩,⟨(PyData.keyHash P "read_form"),(.str "read_form" 319),(.ref 105)⟩,⟨(PyData.keyHash P "size_of"),(.str "size_of" 325),(.ref 110)⟩,⟨(PyData.keyHash P "read_value"),(.str "read_value" 335),(.ref 117)⟩,⟨(PyData.keyHash P "write_value"),(.str "write_value" 346),(.ref 124)⟩,⟨(PyData.keyHash P "form_of"),(.str "form_of" 357),(.ref 131)⟩,⟨(PyData.keyHash P "add_value"),(.str "add_value" 366),(.ref 138)⟩,⟨(PyData.keyHash P "Info"),(.str "Info" 427),(.ref 169)⟩,⟨(PyData.keyHash P "check_room"),(.str "check_room" 438),(.ref 180)⟩,⟨(PyData.keyHash P "number_at"),(.str "number_at" 449),(.ref 187)⟩,⟨(PyData.keyHash P "signed"),(.str "signed" 457),(.ref 194)⟩,⟨(PyData.keyHash P "OctetsIn"),(.str "OctetsIn" 562),(.ref 280)⟩] 27),#[]⟩
noncomputable def hd.q244 (P:Params):Obj:=⟨.none,none,(.fields #[(.int 1 0),(.int 0 0),(.ref 20),(.int 5 0),(.int 0 0),(.ref 28),(.int 14 0),(.int 0 0),(.ref 57),(.int 20 0),(.int 0 0),(.ref 69),(.int 33 0),(.int 0 0),(.ref 104),(.int 39 0),(.int 0 0),(.ref 109),(.int 41 0),(.int 0 0),(.ref 116),(.int 49 0),(.int 0 0),(.ref 123),(.int 57 0),(.int 0 0),(.ref 130),(.int 64 0),(.int 0 0),(.ref 137),(.int 69 0),(.int 0 0),(.ref 144),(.int 94 0),(.int 0 0),(.ref 179),(.int 97 0),(.int 0 0),(.ref 186),(.int 103 0),(.int 0 0),(.ref 193),(.int 107 0),(.int 0 0),(.ref 200)]),#[]⟩
noncomputable def hd.q187 (P:Params):Obj:=⟨(.type "dict"),none,(.dict #[⟨(PyData.keyHash P "__module__"),(.str "__module__" 376),(.str "joinedhand.buffer" 367)⟩,⟨(PyData.keyHash P "__qualname__"),(.str "__qualname__" 378),(.str "Info" 377)⟩,⟨(PyData.keyHash P "__firstlineno__"),(.str "__firstlineno__" 380),(.int 69 379)⟩,⟨(PyData.keyHash P "__init__"),(.str "__init__" 390),(.ref 152)⟩,⟨(PyData.keyHash P "copied"),(.str "copied" 397),(.ref 159)⟩,⟨(PyData.keyHash P "told"),(.str "told" 404),(.ref 166)⟩,⟨(PyData.keyHash P "__static_attributes__"),(.str "__static_attributes__" 420),(.ref 167)⟩] 7),#[]⟩
noncomputable def hd.q189 (P:Params):Obj:=⟨.none,none,(.fields #[(.int 71 0),(.int 4 0),(.ref 151),(.int 88 0),(.int 4 0),(.ref 158),(.int 91 0),(.int 4 0),(.ref 165)]),#[]⟩
noncomputable def hd.q190 (P:Params):Obj:=⟨(.type "code"),none,(.fields #[(.str "Info" 371),(.str "Info" 372),(.str "/claim/cut.py" 373),(.int 69 0),(.int 0 0),(.int 0 0),(.int 0 0),(.int 0 0),(.ref 142),(.bool false),(.int 181 0),(.ref 143),.none,.none,.none,.none,(.int 374 0),(.int 69 0),(.str "/claim/cut.py" 375)]),#[]⟩
noncomputable def hd.q191 (P:Params):Obj:=⟨(.type "frame"),none,.plain,#[(some (.ref 144)),(some (.ref 3)),(some (.ref 141)),none,(some (.str "joinedhand.buffer" 367)),none,(some (.ref 0))]⟩
noncomputable def hd.q218 (P:Params):Obj:=⟨(.type "super"),none,(.fields #[(.ref 169),(.ref 169),(.ref 169)]),#[]⟩
noncomputable def hd.q219 (P:Params):Obj:=⟨(.type "builtin_function_or_method"),none,(.fields #[(.builtin "object.__init_subclass__"),(.ref 169)]),#[]⟩
noncomputable def hd.q247 (P:Params):Obj:=⟨(.type "dict"),none,(.dict #[⟨(PyData.keyHash P "__module__"),(.str "__module__" 465),(.str "joinedhand.octets" 428)⟩,⟨(PyData.keyHash P "__qualname__"),(.str "__qualname__" 467),(.str "OctetsIn" 466)⟩,⟨(PyData.keyHash P "__firstlineno__"),(.str "__firstlineno__" 469),(.int 107 468)⟩,⟨(PyData.keyHash P "__init__"),(.str "__init__" 479),(.ref 209)⟩,⟨(PyData.keyHash P "need"),(.str "need" 487),(.ref 216)⟩,⟨(PyData.keyHash P "number"),(.str "number" 496),(.ref 223)⟩,⟨(PyData.keyHash P "u8"),(.str "u8" 503),(.ref 230)⟩,⟨(PyData.keyHash P "u16"),(.str "u16" 510),(.ref 237)⟩,⟨(PyData.keyHash P "i16"),(.str "i16" 517),(.ref 244)⟩,⟨(PyData.keyHash P "u24"),(.str "u24" 524),(.ref 251)⟩,⟨(PyData.keyHash P "u32"),(.str "u32" 531),(.ref 258)⟩,⟨(PyData.keyHash P "tag"),(.str "tag" 538),(.ref 265)⟩,⟨(PyData.keyHash P "rows"),(.str "rows" 544),(.ref 270)⟩,⟨(PyData.keyHash P "here"),(.str "here" 552),(.ref 277)⟩,⟨(PyData.keyHash P "__static_attributes__"),(.str "__static_attributes__" 555),(.ref 278)⟩] 15),#[]⟩
noncomputable def hd.q249 (P:Params):Obj:=⟨.none,none,(.fields #[(.int 109 0),(.int 4 0),(.ref 208),(.int 113 0),(.int 4 0),(.ref 215),(.int 116 0),(.int 4 0),(.ref 222),(.int 121 0),(.int 4 0),(.ref 229),(.int 124 0),(.int 4 0),(.ref 236),(.int 127 0),(.int 4 0),(.ref 243),(.int 130 0),(.int 4 0),(.ref 250),(.int 133 0),(.int 4 0),(.ref 257),(.int 136 0),(.int 4 0),(.ref 264),(.int 139 0),(.int 4 0),(.ref 269),(.int 143 0),(.int 4 0),(.ref 276)]),#[]⟩
noncomputable def hd.q250 (P:Params):Obj:=⟨(.type "code"),none,(.fields #[(.str "OctetsIn" 460),(.str "OctetsIn" 461),(.str "/claim/cut.py" 462),(.int 107 0),(.int 0 0),(.int 0 0),(.int 0 0),(.int 0 0),(.ref 198),(.bool false),(.int 181 0),(.ref 199),.none,.none,.none,.none,(.int 463 0),(.int 107 0),(.str "/claim/cut.py" 464)]),#[]⟩
noncomputable def hd.q251 (P:Params):Obj:=⟨(.type "frame"),none,.plain,#[(some (.ref 200)),(some (.ref 3)),(some (.ref 197)),none,(some (.str "joinedhand.octets" 428)),none,(some (.ref 0))]⟩
noncomputable def hd.q333 (P:Params):Obj:=⟨(.type "super"),none,(.fields #[(.ref 280),(.ref 280),(.ref 280)]),#[]⟩
noncomputable def hd.q334 (P:Params):Obj:=⟨(.type "builtin_function_or_method"),none,(.fields #[(.builtin "object.__init_subclass__"),(.ref 280)]),#[]⟩
noncomputable def hd.q436 (P:Params):Obj:=⟨.none,none,(.fields #[(.int 1 0),(.int 0 0),(.ref 20),(.int 5 0),(.int 0 0),(.ref 28),(.int 14 0),(.int 0 0),(.ref 57),(.int 20 0),(.int 0 0),(.ref 69),(.int 33 0),(.int 0 0),(.ref 104),(.int 39 0),(.int 0 0),(.ref 109),(.int 41 0),(.int 0 0),(.ref 116),(.int 49 0),(.int 0 0),(.ref 123),(.int 57 0),(.int 0 0),(.ref 130),(.int 64 0),(.int 0 0),(.ref 137),(.int 69 0),(.int 0 0),(.ref 144),(.int 94 0),(.int 0 0),(.ref 179),(.int 97 0),(.int 0 0),(.ref 186),(.int 103 0),(.int 0 0),(.ref 193),(.int 107 0),(.int 0 0),(.ref 200),(.int 145 0),(.int 0 0),(.ref 288),(.int 149 0),(.int 0 0),(.ref 295),(.int 188 0),(.int 0 0),(.ref 387),(.int 203 0),(.int 0 0),(.ref 394),(.int 205 0),(.int 0 0),(.ref 399),(.int 207 0),(.int 0 0),(.ref 406),(.int 215 0),(.int 0 0),(.ref 413),(.int 230 0),(.int 0 0),(.ref 420),(.int 239 0),(.int 0 0),(.ref 425),(.int 241 0),(.int 0 0),(.ref 430)]),#[]⟩
noncomputable def hd.q346 (P:Params):Obj:=⟨(.type "dict"),none,(.dict #[⟨(PyData.keyHash P "__module__"),(.str "__module__" 576),(.str "joinedhand.octets" 428)⟩,⟨(PyData.keyHash P "__qualname__"),(.str "__qualname__" 578),(.str "OctetsOut" 577)⟩,⟨(PyData.keyHash P "__firstlineno__"),(.str "__firstlineno__" 580),(.int 149 579)⟩,⟨(PyData.keyHash P "__init__"),(.str "__init__" 587),(.ref 303)⟩,⟨(PyData.keyHash P "u8"),(.str "u8" 595),(.ref 310)⟩,⟨(PyData.keyHash P "u16"),(.str "u16" 603),(.ref 317)⟩,⟨(PyData.keyHash P "i16"),(.str "i16" 611),(.ref 324)⟩,⟨(PyData.keyHash P "u24"),(.str "u24" 619),(.ref 331)⟩,⟨(PyData.keyHash P "u32"),(.str "u32" 627),(.ref 338)⟩,⟨(PyData.keyHash P "tag"),(.str "tag" 635),(.ref 345)⟩,⟨(PyData.keyHash P "rows"),(.str "rows" 644),(.ref 352)⟩,⟨(PyData.keyHash P "add"),(.str "add" 652),(.ref 359)⟩,⟨(PyData.keyHash P "size"),(.str "size" 659),(.ref 366)⟩,⟨(PyData.keyHash P "octets"),(.str "octets" 666),(.ref 373)⟩,⟨(PyData.keyHash P "__static_attributes__"),(.str "__static_attributes__" 668),(.ref 374)⟩] 15),#[]⟩
noncomputable def hd.q348 (P:Params):Obj:=⟨.none,none,(.fields #[(.int 151 0),(.int 4 0),(.ref 302),(.int 154 0),(.int 4 0),(.ref 309),(.int 157 0),(.int 4 0),(.ref 316),(.int 160 0),(.int 4 0),(.ref 323),(.int 165 0),(.int 4 0),(.ref 330),(.int 168 0),(.int 4 0),(.ref 337),(.int 171 0),(.int 4 0),(.ref 344),(.int 174 0),(.int 4 0),(.ref 351),(.int 178 0),(.int 4 0),(.ref 358),(.int 181 0),(.int 4 0),(.ref 365),(.int 184 0),(.int 4 0),(.ref 372)]),#[]⟩
noncomputable def hd.q349 (P:Params):Obj:=⟨(.type "code"),none,(.fields #[(.str "OctetsOut" 571),(.str "OctetsOut" 572),(.str "/claim/cut.py" 573),(.int 149 0),(.int 0 0),(.int 0 0),(.int 0 0),(.int 0 0),(.ref 293),(.bool false),(.int 181 0),(.ref 294),.none,.none,.none,.none,(.int 574 0),(.int 149 0),(.str "/claim/cut.py" 575)]),#[]⟩
noncomputable def hd.q350 (P:Params):Obj:=⟨(.type "frame"),none,.plain,#[(some (.ref 295)),(some (.ref 3)),(some (.ref 292)),none,(some (.str "joinedhand.octets" 428)),none,(some (.ref 0))]⟩
noncomputable def hd.q433 (P:Params):Obj:=⟨(.type "super"),none,(.fields #[(.ref 376),(.ref 376),(.ref 376)]),#[]⟩
noncomputable def hd.q434 (P:Params):Obj:=⟨(.type "builtin_function_or_method"),none,(.fields #[(.builtin "object.__init_subclass__"),(.ref 376)]),#[]⟩
noncomputable def hd.tree1 (P:Params):BT:=.node (boot_o_0 P) (.node (boot_o_1 P) (.node (hd.q104 P) (.node (boot_o_7 P) (.node (hd.L P 15) (.node (hd.L P 31) (.node (hd.q103 P) .nil .nil) (.node (hd.L P 95) .nil .nil)) (.node (hd.L P 47) (.node (hd.q53 P) .nil .nil) (.node (hd.L P 111) .nil .nil))) (.node (hd.q60 P) (.node (hd.L P 39) (.node (hd.L P 71) .nil .nil) (.node (hd.M P 105) .nil .nil)) (.node (hd.q43 P) (.node (hd.L P 87) .nil .nil) .nil))) (.node (hd.q43 P) (.node (hd.M P 21) (.node (hd.L P 35) (.node (hd.q43 P) .nil .nil) (.node (hd.L P 99) .nil .nil)) (.node (hd.q88 P) (.node (hd.L P 83) .nil .nil) (.node (hd.M P 117) .nil .nil))) (.node (hd.q64 P) (.node (hd.M P 45) (.node (hd.M P 77) .nil .nil) (.node (hd.q53 P) .nil .nil)) (.node (hd.L P 59) (.node (hd.L P 91) .nil .nil) .nil)))) (.node (boot_o_5 P) (.node (boot_o_9 P) (.node (hd.L P 17) (.node (hd.q53 P) (.node (hd.q60 P) .nil .nil) (.node (hd.q139 P) .nil .nil)) (.node (hd.L P 49) (.node (hd.L P 81) .nil .nil) (.node (hd.L P 113) .nil .nil))) (.node (hd.L P 25) (.node (hd.L P 41) (.node (hd.L P 73) .nil .nil) (.node (hd.L P 105) .nil .nil)) (.node (hd.q97 P) (.node (hd.M P 91) .nil .nil) .nil))) (.node (hd.q45 P) (.node (hd.L P 21) (.node (hd.L P 37) (.node (hd.q111 P) .nil .nil) (.node (hd.L P 101) .nil .nil)) (.node (hd.q60 P) (.node (hd.L P 85) .nil .nil) (.node (hd.L P 117) .nil .nil))) (.node (hd.q66 P) (.node (hd.L P 45) (.node (hd.L P 77) .nil .nil) (.node (hd.L P 109) .nil .nil)) (.node (hd.L P 61) (.node (hd.L P 93) .nil .nil) .nil))))) (.node (hd.L P 2) (.node (boot_o_4 P) (.node (boot_o_8 P) (.node (hd.q53 P) (.node (hd.L P 32) (.node (hd.q43 P) .nil .nil) (.node (hd.L P 96) .nil .nil)) (.node (hd.L P 48) (.node (hd.L P 80) .nil .nil) (.node (hd.q53 P) .nil .nil))) (.node (hd.q61 P) (.node (hd.q53 P) (.node (hd.q53 P) .nil .nil) (.node (hd.L P 104) .nil .nil)) (.node (hd.q53 P) (.node (hd.L P 88) .nil .nil) .nil))) (.node (hd.q105 P) (.node (hd.L P 20) (.node (hd.M P 38) (.node (hd.q110 P) .nil .nil) (.node (hd.q53 P) .nil .nil)) (.node (hd.L P 52) (.node (hd.L P 84) .nil .nil) (.node (hd.L P 116) .nil .nil))) (.node (hd.q65 P) (.node (hd.L P 44) (.node (hd.L P 76) .nil .nil) (.node (hd.M P 110) .nil .nil)) (.node (hd.L P 60) (.node (hd.L P 92) .nil .nil) .nil)))) (.node (boot_o_6 P) (.node (boot_o_10 P) (.node (hd.L P 18) (.node (hd.L P 34) (.node (hd.q108 P) .nil .nil) (.node (hd.q140 P) .nil .nil)) (.node (hd.q87 P) (.node (hd.M P 84) .nil .nil) (.node (hd.L P 114) .nil .nil))) (.node (hd.q43 P) (.node (hd.L P 42) (.node (hd.L P 74) .nil .nil) (.node (hd.L P 106) .nil .nil)) (.node (hd.q98 P) (.node (hd.L P 90) .nil .nil) .nil))) (.node (hd.q46 P) (.node (hd.L P 22) (.node (hd.L P 38) (.node (hd.q112 P) .nil .nil) (.node (hd.L P 102) .nil .nil)) (.node (hd.q94 P) (.node (hd.q53 P) .nil .nil) .nil)) (.node (hd.L P 30) (.node (hd.L P 46) (.node (hd.L P 78) .nil .nil) (.node (hd.L P 110) .nil .nil)) (.node (hd.q102 P) (.node (hd.L P 94) .nil .nil) .nil)))))
noncomputable def hd.tree2 (P:Params):BT:=.node (boot_o_0 P) (.node (boot_o_1 P) (.node (hd.q243 P) (.node (boot_o_7 P) (.node (hd.L P 15) (.node (hd.L P 31) (.node (hd.q103 P) (.node (hd.L P 127) (.node (hd.L P 255) .nil .nil) .nil) (.node (hd.L P 191) .nil .nil)) (.node (hd.L P 95) (.node (hd.L P 159) .nil .nil) (.node (hd.L P 223) .nil .nil))) (.node (hd.L P 47) (.node (hd.q53 P) (.node (hd.q189 P) (.node (hd.L P 271) .nil .nil) .nil) (.node (hd.M P 209) .nil .nil)) (.node (hd.L P 111) (.node (hd.q53 P) .nil .nil) (.node (hd.q53 P) .nil .nil)))) (.node (hd.q60 P) (.node (hd.L P 39) (.node (hd.L P 71) (.node (hd.L P 135) (.node (hd.M P 265) .nil .nil) .nil) (.node (hd.q249 P) .nil .nil)) (.node (hd.M P 105) (.node (hd.L P 167) .nil .nil) (.node (hd.L P 231) .nil .nil))) (.node (hd.q43 P) (.node (hd.L P 87) (.node (hd.L P 151) (.node (hd.L P 279) .nil .nil) .nil) (.node (hd.L P 215) .nil .nil)) (.node (hd.q53 P) (.node (hd.L P 183) .nil .nil) (.node (hd.L P 247) .nil .nil))))) (.node (hd.q43 P) (.node (hd.M P 21) (.node (hd.L P 35) (.node (hd.q43 P) (.node (hd.L P 131) (.node (hd.L P 259) .nil .nil) .nil) (.node (hd.q43 P) .nil .nil)) (.node (hd.L P 99) (.node (hd.L P 163) .nil .nil) (.node (hd.L P 227) .nil .nil))) (.node (hd.q88 P) (.node (hd.L P 83) (.node (hd.q53 P) (.node (hd.M P 277) .nil .nil) .nil) (.node (hd.q53 P) .nil .nil)) (.node (hd.M P 117) (.node (hd.L P 179) .nil .nil) (.node (hd.L P 243) .nil .nil)))) (.node (hd.q64 P) (.node (hd.M P 45) (.node (hd.M P 77) (.node (hd.q43 P) (.node (hd.q53 P) .nil .nil) .nil) (.node (hd.L P 203) .nil .nil)) (.node (hd.q53 P) (.node (hd.L P 171) .nil .nil) (.node (hd.M P 237) .nil .nil))) (.node (hd.L P 59) (.node (hd.L P 91) (.node (hd.L P 155) (.node (hd.q333 P) .nil .nil) .nil) (.node (hd.L P 219) .nil .nil)) (.node (hd.L P 123) (.node (hd.L P 187) .nil .nil) (.node (hd.L P 251) .nil .nil)))))) (.node (boot_o_5 P) (.node (boot_o_9 P) (.node (hd.L P 17) (.node (hd.q53 P) (.node (hd.q60 P) (.node (hd.M P 131) (.node (hd.L P 257) .nil .nil) .nil) (.node (hd.L P 193) .nil .nil)) (.node (hd.q139 P) (.node (hd.q53 P) .nil .nil) (.node (hd.q53 P) .nil .nil))) (.node (hd.L P 49) (.node (hd.L P 81) (.node (hd.q191 P) (.node (hd.L P 273) .nil .nil) .nil) (.node (hd.L P 209) .nil .nil)) (.node (hd.L P 113) (.node (hd.L P 177) .nil .nil) (.node (hd.L P 241) .nil .nil)))) (.node (hd.L P 25) (.node (hd.L P 41) (.node (hd.L P 73) (.node (hd.L P 137) (.node (hd.L P 265) .nil .nil) .nil) (.node (hd.q251 P) .nil .nil)) (.node (hd.L P 105) (.node (hd.L P 169) .nil .nil) (.node (hd.L P 233) .nil .nil))) (.node (hd.q97 P) (.node (hd.M P 91) (.node (hd.L P 153) (.node (hd.L P 281) .nil .nil) .nil) (.node (hd.L P 217) .nil .nil)) (.node (hd.L P 121) (.node (hd.M P 187) .nil .nil) (.node (hd.M P 251) .nil .nil))))) (.node (hd.q45 P) (.node (hd.L P 21) (.node (hd.L P 37) (.node (hd.q111 P) (.node (hd.q53 P) (.node (hd.L P 261) .nil .nil) .nil) (.node (hd.q247 P) .nil .nil)) (.node (hd.L P 101) (.node (hd.L P 165) .nil .nil) (.node (hd.L P 229) .nil .nil))) (.node (hd.q60 P) (.node (hd.L P 85) (.node (hd.L P 149) (.node (hd.L P 277) .nil .nil) .nil) (.node (hd.L P 213) .nil .nil)) (.node (hd.L P 117) (.node (hd.L P 181) .nil .nil) (.node (hd.L P 245) .nil .nil)))) (.node (hd.q66 P) (.node (hd.L P 45) (.node (hd.L P 77) (.node (hd.q187 P) (.node (hd.L P 269) .nil .nil) .nil) (.node (hd.L P 205) .nil .nil)) (.node (hd.L P 109) (.node (hd.q219 P) .nil .nil) (.node (hd.L P 237) .nil .nil))) (.node (hd.L P 61) (.node (hd.L P 93) (.node (hd.M P 159) .nil .nil) (.node (hd.M P 223) .nil .nil)) (.node (hd.L P 125) (.node (hd.q53 P) .nil .nil) (.node (hd.q53 P) .nil .nil))))))) (.node (hd.L P 2) (.node (boot_o_4 P) (.node (boot_o_8 P) (.node (hd.q53 P) (.node (hd.L P 32) (.node (hd.q43 P) (.node (hd.L P 128) (.node (hd.M P 258) .nil .nil) .nil) (.node (hd.M P 194) .nil .nil)) (.node (hd.L P 96) (.node (hd.L P 160) .nil .nil) (.node (hd.L P 224) .nil .nil))) (.node (hd.L P 48) (.node (hd.L P 80) (.node (hd.q190 P) (.node (hd.q53 P) .nil .nil) .nil) (.node (hd.L P 208) .nil .nil)) (.node (hd.q53 P) (.node (hd.L P 176) .nil .nil) (.node (hd.L P 240) .nil .nil)))) (.node (hd.q61 P) (.node (hd.q53 P) (.node (hd.q53 P) (.node (hd.M P 138) (.node (hd.L P 264) .nil .nil) .nil) (.node (hd.q250 P) .nil .nil)) (.node (hd.L P 104) (.node (hd.L P 168) .nil .nil) (.node (hd.q53 P) .nil .nil))) (.node (hd.q53 P) (.node (hd.L P 88) (.node (hd.L P 152) (.node (hd.L P 280) .nil .nil) .nil) (.node (hd.L P 216) .nil .nil)) (.node (hd.L P 120) (.node (hd.L P 184) .nil .nil) (.node (hd.L P 248) .nil .nil))))) (.node (hd.q244 P) (.node (hd.L P 20) (.node (hd.M P 38) (.node (hd.q110 P) (.node (hd.L P 132) (.node (hd.q53 P) .nil .nil) .nil) (.node (hd.q60 P) .nil .nil)) (.node (hd.q53 P) (.node (hd.M P 166) .nil .nil) (.node (hd.M P 230) .nil .nil))) (.node (hd.L P 52) (.node (hd.L P 84) (.node (hd.L P 148) (.node (hd.L P 276) .nil .nil) .nil) (.node (hd.L P 212) .nil .nil)) (.node (hd.L P 116) (.node (hd.L P 180) .nil .nil) (.node (hd.L P 244) .nil .nil)))) (.node (hd.q65 P) (.node (hd.L P 44) (.node (hd.L P 76) (.node (hd.q60 P) (.node (hd.M P 270) .nil .nil) .nil) (.node (hd.q53 P) .nil .nil)) (.node (hd.M P 110) (.node (hd.q218 P) .nil .nil) (.node (hd.L P 236) .nil .nil))) (.node (hd.L P 60) (.node (hd.L P 92) (.node (hd.L P 156) (.node (hd.q334 P) .nil .nil) .nil) (.node (hd.L P 220) .nil .nil)) (.node (hd.L P 124) (.node (hd.L P 188) .nil .nil) (.node (hd.L P 252) .nil .nil)))))) (.node (boot_o_6 P) (.node (boot_o_10 P) (.node (hd.L P 18) (.node (hd.L P 34) (.node (hd.q108 P) (.node (hd.L P 130) (.node (hd.L P 258) .nil .nil) .nil) (.node (hd.L P 194) .nil .nil)) (.node (hd.q140 P) (.node (hd.L P 162) .nil .nil) (.node (hd.L P 226) .nil .nil))) (.node (hd.q87 P) (.node (hd.M P 84) (.node (hd.L P 146) (.node (hd.L P 274) .nil .nil) .nil) (.node (hd.L P 210) .nil .nil)) (.node (hd.L P 114) (.node (hd.M P 180) .nil .nil) (.node (hd.M P 244) .nil .nil)))) (.node (hd.q43 P) (.node (hd.L P 42) (.node (hd.L P 74) (.node (hd.L P 138) (.node (hd.L P 266) .nil .nil) .nil) (.node (hd.L P 202) .nil .nil)) (.node (hd.L P 106) (.node (hd.L P 170) .nil .nil) (.node (hd.L P 234) .nil .nil))) (.node (hd.q98 P) (.node (hd.L P 90) (.node (hd.q53 P) (.node (hd.L P 282) .nil .nil) .nil) (.node (hd.q53 P) .nil .nil)) (.node (hd.M P 124) (.node (hd.L P 186) .nil .nil) (.node (hd.L P 250) .nil .nil))))) (.node (hd.q46 P) (.node (hd.L P 22) (.node (hd.L P 38) (.node (hd.q112 P) (.node (hd.L P 134) (.node (hd.L P 262) .nil .nil) .nil) (.node (hd.q43 P) .nil .nil)) (.node (hd.L P 102) (.node (hd.L P 166) .nil .nil) (.node (hd.L P 230) .nil .nil))) (.node (hd.q94 P) (.node (hd.q53 P) (.node (hd.M P 152) (.node (hd.L P 278) .nil .nil) .nil) (.node (hd.M P 216) .nil .nil)) (.node (hd.L P 118) (.node (hd.q53 P) .nil .nil) (.node (hd.q53 P) .nil .nil)))) (.node (hd.L P 30) (.node (hd.L P 46) (.node (hd.L P 78) (.node (hd.q43 P) (.node (hd.L P 270) .nil .nil) .nil) (.node (hd.L P 206) .nil .nil)) (.node (hd.L P 110) (.node (hd.L P 174) .nil .nil) (.node (hd.L P 238) .nil .nil))) (.node (hd.q102 P) (.node (hd.L P 94) (.node (hd.L P 158) .nil .nil) (.node (hd.L P 222) .nil .nil)) (.node (hd.q53 P) (.node (hd.L P 190) .nil .nil) (.node (hd.L P 254) .nil .nil)))))))
noncomputable def hd.tree3 (P:Params):BT:=.node (boot_o_0 P) (.node (boot_o_1 P) (.node (hd.L P 3) (.node (boot_o_7 P) (.node (hd.L P 15) (.node (hd.L P 31) (.node (hd.q103 P) (.node (hd.L P 127) (.node (hd.L P 255) .nil .nil) (.node (hd.q53 P) .nil .nil)) (.node (hd.L P 191) (.node (hd.q53 P) .nil .nil) .nil)) (.node (hd.L P 95) (.node (hd.L P 159) (.node (hd.M P 289) .nil .nil) (.node (hd.L P 415) .nil .nil)) (.node (hd.L P 223) (.node (hd.L P 351) .nil .nil) .nil))) (.node (hd.L P 47) (.node (hd.q53 P) (.node (hd.q189 P) (.node (hd.L P 271) .nil .nil) (.node (hd.L P 399) .nil .nil)) (.node (hd.M P 209) (.node (hd.L P 335) .nil .nil) .nil)) (.node (hd.L P 111) (.node (hd.q53 P) (.node (hd.L P 303) .nil .nil) (.node (hd.L P 431) .nil .nil)) (.node (hd.q53 P) (.node (hd.L P 367) .nil .nil) .nil)))) (.node (hd.q60 P) (.node (hd.L P 39) (.node (hd.L P 71) (.node (hd.L P 135) (.node (hd.M P 265) .nil .nil) (.node (hd.L P 391) .nil .nil)) (.node (hd.q249 P) (.node (hd.L P 327) .nil .nil) .nil)) (.node (hd.M P 105) (.node (hd.L P 167) (.node (hd.q349 P) .nil .nil) (.node (hd.q53 P) .nil .nil)) (.node (hd.L P 231) (.node (hd.L P 359) .nil .nil) .nil))) (.node (hd.q43 P) (.node (hd.L P 87) (.node (hd.L P 151) (.node (hd.L P 279) .nil .nil) (.node (hd.L P 407) .nil .nil)) (.node (hd.L P 215) (.node (hd.M P 345) .nil .nil) .nil)) (.node (hd.q53 P) (.node (hd.L P 183) (.node (hd.L P 311) .nil .nil) .nil) (.node (hd.L P 247) (.node (hd.L P 375) .nil .nil) .nil))))) (.node (hd.q43 P) (.node (hd.M P 21) (.node (hd.L P 35) (.node (hd.q43 P) (.node (hd.L P 131) (.node (hd.L P 259) .nil .nil) (.node (hd.L P 387) .nil .nil)) (.node (hd.q43 P) (.node (hd.L P 323) .nil .nil) .nil)) (.node (hd.L P 99) (.node (hd.L P 163) (.node (hd.q60 P) .nil .nil) (.node (hd.M P 421) .nil .nil)) (.node (hd.L P 227) (.node (hd.L P 355) .nil .nil) .nil))) (.node (hd.q88 P) (.node (hd.L P 83) (.node (hd.q53 P) (.node (hd.M P 277) .nil .nil) (.node (hd.L P 403) .nil .nil)) (.node (hd.q53 P) (.node (hd.L P 339) .nil .nil) .nil)) (.node (hd.M P 117) (.node (hd.L P 179) (.node (hd.L P 307) .nil .nil) .nil) (.node (hd.L P 243) (.node (hd.M P 373) .nil .nil) .nil)))) (.node (hd.q64 P) (.node (hd.M P 45) (.node (hd.M P 77) (.node (hd.q43 P) (.node (hd.q53 P) .nil .nil) (.node (hd.L P 395) .nil .nil)) (.node (hd.L P 203) (.node (hd.L P 331) .nil .nil) .nil)) (.node (hd.q53 P) (.node (hd.L P 171) (.node (hd.L P 299) .nil .nil) (.node (hd.L P 427) .nil .nil)) (.node (hd.M P 237) (.node (hd.L P 363) .nil .nil) .nil))) (.node (hd.L P 59) (.node (hd.L P 91) (.node (hd.L P 155) (.node (hd.q333 P) .nil .nil) (.node (hd.L P 411) .nil .nil)) (.node (hd.L P 219) (.node (hd.q53 P) .nil .nil) .nil)) (.node (hd.L P 123) (.node (hd.L P 187) (.node (hd.M P 317) .nil .nil) .nil) (.node (hd.L P 251) (.node (hd.q433 P) .nil .nil) .nil)))))) (.node (boot_o_5 P) (.node (boot_o_9 P) (.node (hd.L P 17) (.node (hd.q53 P) (.node (hd.q60 P) (.node (hd.M P 131) (.node (hd.L P 257) .nil .nil) (.node (hd.L P 385) .nil .nil)) (.node (hd.L P 193) (.node (hd.L P 321) .nil .nil) .nil)) (.node (hd.q139 P) (.node (hd.q53 P) (.node (hd.L P 289) .nil .nil) (.node (hd.L P 417) .nil .nil)) (.node (hd.q53 P) (.node (hd.L P 353) .nil .nil) .nil))) (.node (hd.L P 49) (.node (hd.L P 81) (.node (hd.q191 P) (.node (hd.L P 273) .nil .nil) (.node (hd.L P 401) .nil .nil)) (.node (hd.L P 209) (.node (hd.L P 337) .nil .nil) .nil)) (.node (hd.L P 113) (.node (hd.L P 177) (.node (hd.q53 P) .nil .nil) .nil) (.node (hd.L P 241) (.node (hd.L P 369) .nil .nil) .nil)))) (.node (hd.L P 25) (.node (hd.L P 41) (.node (hd.L P 73) (.node (hd.L P 137) (.node (hd.L P 265) .nil .nil) (.node (hd.M P 395) .nil .nil)) (.node (hd.q251 P) (.node (hd.M P 331) .nil .nil) .nil)) (.node (hd.L P 105) (.node (hd.L P 169) (.node (hd.L P 297) .nil .nil) (.node (hd.L P 425) .nil .nil)) (.node (hd.L P 233) (.node (hd.q53 P) .nil .nil) .nil))) (.node (hd.q97 P) (.node (hd.M P 91) (.node (hd.L P 153) (.node (hd.L P 281) .nil .nil) (.node (hd.q53 P) .nil .nil)) (.node (hd.L P 217) (.node (hd.L P 345) .nil .nil) .nil)) (.node (hd.L P 121) (.node (hd.M P 187) (.node (hd.L P 313) .nil .nil) .nil) (.node (hd.M P 251) (.node (hd.L P 377) .nil .nil) .nil))))) (.node (hd.q45 P) (.node (hd.L P 21) (.node (hd.L P 37) (.node (hd.q111 P) (.node (hd.q53 P) (.node (hd.L P 261) .nil .nil) (.node (hd.L P 389) .nil .nil)) (.node (hd.q247 P) (.node (hd.L P 325) .nil .nil) .nil)) (.node (hd.L P 101) (.node (hd.L P 165) (.node (hd.q43 P) .nil .nil) (.node (hd.L P 421) .nil .nil)) (.node (hd.L P 229) (.node (hd.M P 359) .nil .nil) .nil))) (.node (hd.q60 P) (.node (hd.L P 85) (.node (hd.L P 149) (.node (hd.L P 277) .nil .nil) (.node (hd.M P 407) .nil .nil)) (.node (hd.L P 213) (.node (hd.L P 341) .nil .nil) .nil)) (.node (hd.L P 117) (.node (hd.L P 181) (.node (hd.L P 309) .nil .nil) .nil) (.node (hd.L P 245) (.node (hd.L P 373) .nil .nil) .nil)))) (.node (hd.q66 P) (.node (hd.L P 45) (.node (hd.L P 77) (.node (hd.q187 P) (.node (hd.L P 269) .nil .nil) (.node (hd.q53 P) .nil .nil)) (.node (hd.L P 205) (.node (hd.q53 P) .nil .nil) .nil)) (.node (hd.L P 109) (.node (hd.q219 P) (.node (hd.M P 303) .nil .nil) (.node (hd.M P 431) .nil .nil)) (.node (hd.L P 237) (.node (hd.L P 365) .nil .nil) .nil))) (.node (hd.L P 61) (.node (hd.L P 93) (.node (hd.M P 159) (.node (hd.L P 285) .nil .nil) (.node (hd.L P 413) .nil .nil)) (.node (hd.M P 223) (.node (hd.L P 349) .nil .nil) .nil)) (.node (hd.L P 125) (.node (hd.q53 P) (.node (hd.L P 317) .nil .nil) .nil) (.node (hd.q53 P) (.node (hd.L P 381) .nil .nil) .nil))))))) (.node (hd.L P 2) (.node (boot_o_4 P) (.node (boot_o_8 P) (.node (hd.q53 P) (.node (hd.L P 32) (.node (hd.q43 P) (.node (hd.L P 128) (.node (hd.M P 258) .nil .nil) (.node (hd.L P 384) .nil .nil)) (.node (hd.M P 194) (.node (hd.L P 320) .nil .nil) .nil)) (.node (hd.L P 96) (.node (hd.L P 160) (.node (hd.L P 288) .nil .nil) (.node (hd.q53 P) .nil .nil)) (.node (hd.L P 224) (.node (hd.L P 352) .nil .nil) .nil))) (.node (hd.L P 48) (.node (hd.L P 80) (.node (hd.q190 P) (.node (hd.q53 P) .nil .nil) (.node (hd.L P 400) .nil .nil)) (.node (hd.L P 208) (.node (hd.M P 338) .nil .nil) .nil)) (.node (hd.q53 P) (.node (hd.L P 176) (.node (hd.L P 304) .nil .nil) .nil) (.node (hd.L P 240) (.node (hd.q53 P) .nil .nil) .nil)))) (.node (hd.q61 P) (.node (hd.q53 P) (.node (hd.q53 P) (.node (hd.M P 138) (.node (hd.L P 264) .nil .nil) (.node (hd.L P 392) .nil .nil)) (.node (hd.q250 P) (.node (hd.L P 328) .nil .nil) .nil)) (.node (hd.L P 104) (.node (hd.L P 168) (.node (hd.q350 P) .nil .nil) (.node (hd.M P 426) .nil .nil)) (.node (hd.q53 P) (.node (hd.L P 360) .nil .nil) .nil))) (.node (hd.q53 P) (.node (hd.L P 88) (.node (hd.L P 152) (.node (hd.L P 280) .nil .nil) (.node (hd.L P 408) .nil .nil)) (.node (hd.L P 216) (.node (hd.L P 344) .nil .nil) .nil)) (.node (hd.L P 120) (.node (hd.L P 184) (.node (hd.q53 P) .nil .nil) .nil) (.node (hd.L P 248) (.node (hd.L P 376) .nil .nil) .nil))))) (.node (hd.q436 P) (.node (hd.L P 20) (.node (hd.M P 38) (.node (hd.q110 P) (.node (hd.L P 132) (.node (hd.q53 P) .nil .nil) (.node (hd.L P 388) .nil .nil)) (.node (hd.q60 P) (.node (hd.L P 324) .nil .nil) .nil)) (.node (hd.q53 P) (.node (hd.M P 166) (.node (hd.q346 P) .nil .nil) (.node (hd.L P 420) .nil .nil)) (.node (hd.M P 230) (.node (hd.L P 356) .nil .nil) .nil))) (.node (hd.L P 52) (.node (hd.L P 84) (.node (hd.L P 148) (.node (hd.L P 276) .nil .nil) (.node (hd.L P 404) .nil .nil)) (.node (hd.L P 212) (.node (hd.q53 P) .nil .nil) .nil)) (.node (hd.L P 116) (.node (hd.L P 180) (.node (hd.M P 310) .nil .nil) .nil) (.node (hd.L P 244) (.node (hd.L P 372) .nil .nil) .nil)))) (.node (hd.q65 P) (.node (hd.L P 44) (.node (hd.L P 76) (.node (hd.q60 P) (.node (hd.M P 270) .nil .nil) (.node (hd.L P 396) .nil .nil)) (.node (hd.q53 P) (.node (hd.L P 332) .nil .nil) .nil)) (.node (hd.M P 110) (.node (hd.q218 P) (.node (hd.L P 300) .nil .nil) (.node (hd.q53 P) .nil .nil)) (.node (hd.L P 236) (.node (hd.M P 366) .nil .nil) .nil))) (.node (hd.L P 60) (.node (hd.L P 92) (.node (hd.L P 156) (.node (hd.q334 P) .nil .nil) (.node (hd.M P 414) .nil .nil)) (.node (hd.L P 220) (.node (hd.L P 348) .nil .nil) .nil)) (.node (hd.L P 124) (.node (hd.L P 188) (.node (hd.L P 316) .nil .nil) .nil) (.node (hd.L P 252) (.node (hd.q434 P) .nil .nil) .nil)))))) (.node (boot_o_6 P) (.node (boot_o_10 P) (.node (hd.L P 18) (.node (hd.L P 34) (.node (hd.q108 P) (.node (hd.L P 130) (.node (hd.L P 258) .nil .nil) (.node (hd.M P 388) .nil .nil)) (.node (hd.L P 194) (.node (hd.M P 324) .nil .nil) .nil)) (.node (hd.q140 P) (.node (hd.L P 162) (.node (hd.q43 P) .nil .nil) (.node (hd.L P 418) .nil .nil)) (.node (hd.L P 226) (.node (hd.q53 P) .nil .nil) .nil))) (.node (hd.q87 P) (.node (hd.M P 84) (.node (hd.L P 146) (.node (hd.L P 274) .nil .nil) (.node (hd.q53 P) .nil .nil)) (.node (hd.L P 210) (.node (hd.L P 338) .nil .nil) .nil)) (.node (hd.L P 114) (.node (hd.M P 180) (.node (hd.L P 306) .nil .nil) .nil) (.node (hd.M P 244) (.node (hd.L P 370) .nil .nil) .nil)))) (.node (hd.q43 P) (.node (hd.L P 42) (.node (hd.L P 74) (.node (hd.L P 138) (.node (hd.L P 266) .nil .nil) (.node (hd.L P 394) .nil .nil)) (.node (hd.L P 202) (.node (hd.L P 330) .nil .nil) .nil)) (.node (hd.L P 106) (.node (hd.L P 170) (.node (hd.q53 P) .nil .nil) (.node (hd.L P 426) .nil .nil)) (.node (hd.L P 234) (.node (hd.L P 362) .nil .nil) .nil))) (.node (hd.q98 P) (.node (hd.L P 90) (.node (hd.q53 P) (.node (hd.L P 282) .nil .nil) (.node (hd.L P 410) .nil .nil)) (.node (hd.q53 P) (.node (hd.L P 346) .nil .nil) .nil)) (.node (hd.M P 124) (.node (hd.L P 186) (.node (hd.L P 314) .nil .nil) .nil) (.node (hd.L P 250) (.node (hd.L P 378) .nil .nil) .nil))))) (.node (hd.q46 P) (.node (hd.L P 22) (.node (hd.L P 38) (.node (hd.q112 P) (.node (hd.L P 134) (.node (hd.L P 262) .nil .nil) (.node (hd.q53 P) .nil .nil)) (.node (hd.q43 P) (.node (hd.q53 P) .nil .nil) .nil)) (.node (hd.L P 102) (.node (hd.L P 166) (.node (hd.q348 P) .nil .nil) (.node (hd.L P 422) .nil .nil)) (.node (hd.L P 230) (.node (hd.L P 358) .nil .nil) .nil))) (.node (hd.q94 P) (.node (hd.q53 P) (.node (hd.M P 152) (.node (hd.L P 278) .nil .nil) (.node (hd.L P 406) .nil .nil)) (.node (hd.M P 216) (.node (hd.L P 342) .nil .nil) .nil)) (.node (hd.L P 118) (.node (hd.q53 P) (.node (hd.L P 310) .nil .nil) .nil) (.node (hd.q53 P) (.node (hd.L P 374) .nil .nil) .nil)))) (.node (hd.L P 30) (.node (hd.L P 46) (.node (hd.L P 78) (.node (hd.q43 P) (.node (hd.L P 270) .nil .nil) (.node (hd.M P 400) .nil .nil)) (.node (hd.L P 206) (.node (hd.L P 334) .nil .nil) .nil)) (.node (hd.L P 110) (.node (hd.L P 174) (.node (hd.L P 302) .nil .nil) (.node (hd.L P 430) .nil .nil)) (.node (hd.L P 238) (.node (hd.L P 366) .nil .nil) .nil))) (.node (hd.q102 P) (.node (hd.L P 94) (.node (hd.L P 158) (.node (hd.q53 P) .nil .nil) (.node (hd.L P 414) .nil .nil)) (.node (hd.L P 222) (.node (hd.M P 352) .nil .nil) .nil)) (.node (hd.q53 P) (.node (hd.L P 190) (.node (hd.L P 318) .nil .nil) .nil) (.node (hd.L P 254) (.node (hd.L P 382) .nil .nil) .nil)))))))
theorem hd.run1 (w:World):(fun os=>segRunT treeTable hd.pw w 11 (some (.ref 6)) 1 1000 (SharedT.mk (hd.tree w.params) 15 {} (Array.mk []) {} 187 os) (piecesOf ((behindTheImports hd.pw).take 12) hd.env hd.code hd.pos0 hd.back))=fun os=>some (.next,SharedT.mk (hd.tree1 w.params) 118 {} (Array.mk []) {} 336 os,hd.code,⟨41,0,48,60⟩):=by
  rw [PySem.W.Fast.te10110043849684766642,PySem.W.Fast.te14364793385576792824]
  kernel_rfl
theorem hd.run2 (w:World):(fun os=>segRunT treeTable hd.pw w 11 (some (.ref 6)) 1 1100 (SharedT.mk (hd.tree1 w.params) 118 {} (Array.mk []) {} 336 os) (piecesOf (((behindTheImports hd.pw).drop 12).take 10) hd.env hd.code ⟨41,0,48,60⟩ hd.back))=fun os=>some (.next,SharedT.mk (hd.tree2 w.params) 285 {} (Array.mk []) {} 563 os,hd.code,⟨107,0,144,42⟩):=by
  rw [PySem.W.Fast.te10110043849684766642,PySem.W.Fast.te14364793385576792824]
  kernel_rfl
theorem hd.run3 (w:World):(fun os=>segRunT treeTable hd.pw w 11 (some (.ref 6)) 1 900 (SharedT.mk (hd.tree2 w.params) 285 {} (Array.mk []) {} 563 os) (piecesOf (((behindTheImports hd.pw).drop 12).drop 10) hd.env hd.code ⟨107,0,144,42⟩ hd.back))=fun os=>some (.next,SharedT.mk (hd.tree3 w.params) 432 {} (Array.mk []) {} 763 os,hd.code,⟨241,0,265,68⟩):=by
  rw [PySem.W.Fast.te10110043849684766642,PySem.W.Fast.te14364793385576792824]
  kernel_rfl
noncomputable def hd.last (w:World) (os:OsState):Shared:=(SharedT.mk (hd.tree3 w.params) 432 {} (Array.mk []) {} 763 os).abs
theorem hd.fin (w:World):(fun os=>topRun treeTable hd.pw w 11 (some (.ref 6)) 2 (hd.last w os) ⟨doneF .next,hd.code,⟨241,0,265,68⟩,hd.back⟩)=fun os=>some (hd.last w os):=by kernel_rfl
theorem hd.good1 (w:World):(fun os=>staticsOk (importedModules hd.pw.main.body) (boot_heap w.params) (hd.last w os).heap && namesBound hd.pw (hd.last w os).heap && gensDone (hd.last w os) && laidKept (boot_heap w.params) (hd.last w os).heap)=fun os=>true:=by kernel_rfl
theorem hd.good2 (w:World):(fun os=>openSeen hd.view_39 [Str.ofString "ShapeError"] (importedModules hd.pw.main.body) hd.Xt true (hd.last w os))=fun os=>openGood hd.view_39 [Str.ofString "ShapeError"]:=by
  rw [PySem.W.Fast.te4187177175401517315]
  kernel_rfl
theorem hd.good3a (w:World) (os:OsState):(hd.hook.obs (hd.last w os)).take 150=(hd.hook.val w).take 150:=by kernel_rfl
theorem hd.good3b (w:World) (os:OsState):(hd.hook.obs (hd.last w os)).drop 150=(hd.hook.val w).drop 150:=by kernel_rfl
theorem hd.good3 (w:World):(fun os=>hd.hook.obs (hd.last w os))=fun os=>hd.hook.val w :=
  funext fun os=>take_drop_eq (hd.good3a w os) (hd.good3b w os)
theorem hd.size (w:World):((boot_heap w.params).isNs mainGlobals && (Array.mk []:Array GenState).size == 0,(boot_heap w.params).objs.size,(boot_heap w.params).nsMap mainGlobals "__annotations__")=(true,11,some (.ref 6)):=by
  rw [PySem.W.Fast.te8920871248978507458]
  kernel_rfl
theorem hd.opens:opening hd.pw=plainProg hd.pw.main.scope.names:=by kernel_rfl
theorem hd.fence (s:Shared):fenceModules? hd.pw s=some s:=by kernel_rfl
theorem hd.top (w:World) (os:OsState):∃ s,topRun treeTable hd.pw w 11 (some (.ref 6)) (12+(1+(1000+(1100+(900+2))))) ⟨boot_heap w.params,Array.mk [],boot_drawn,boot_toks,os⟩ (topStub hd.pw)=some s ∧
    hd.good w s=(true,openGood hd.view_39 [Str.ofString "ShapeError"],hd.hook.val w):=by
  have e1:=congrFun (hd.pre w) os
  have e2:=congrFun (hd.block w) os
  have r1:=segRun_of (congrFun (hd.run1 w) os)
  have r2:=segRun_of (congrFun (hd.run2 w) os)
  have r3:=segRun_of (congrFun (hd.run3 w) os)
  (try dsimp only at e1);(try dsimp only at e2)
  refine ⟨hd.last w os,go_top e1 (piece_block e2 ?_), ?_⟩
  · have k3:=piece_app (rest:=[]) r3 (piece_nil (congrFun (hd.fin w) os))
    rw [List.append_nil] at k3
    have k2:=piece_app r2 k3
    rw [List.take_append_drop] at k2
    have k1:=piece_app r1 k2
    rwa [List.take_append_drop] at k1
  · unfold hd.good
    rw [congrFun (hd.good1 w) os,congrFun (hd.good2 w) os,congrFun (hd.good3 w) os]
theorem left_of_top {p q:Program} {loose:List Str} {Xt:Shared→Bool} {α:Type} {Yf:Shared→α} {Ya:World→α} {N:Nat} {g0:Bool} {H₀:Params→Heap} {gs₀:Array GenState} {d₀:Drawn} {k₀:Nat} {m₀:Nat} {ann:Option Value} {M:Nat}
    (ho:∀ w:World,(fencedOpening treeTable p w N).map (fun s=>(s.heap,s.gens,s.drawn,s.toks))=some (H₀ w.params,gs₀,d₀,k₀))
    (hs:∀ w:World,((H₀ w.params).isNs mainGlobals && gs₀.size == 0,(H₀ w.params).objs.size,(H₀ w.params).nsMap mainGlobals "__annotations__")=(true,m₀,ann)) (hl:Nat.ble M N=true)
    (hr:∀ (w:World) (os:OsState),∃ s,topRun treeTable p w m₀ ann M ⟨H₀ w.params,gs₀,d₀,k₀,os⟩ (topStub p)=some s ∧
      (staticsOk (importedModules p.main.body) (H₀ w.params) s.heap && namesBound p s.heap && gensDone s && laidKept (H₀ w.params) s.heap)=true ∧
      openSeen q loose (importedModules p.main.body) Xt g0 s=openGood q loose∧Yf s=Ya w):LeftO p q loose Xt Yf Ya N g0:=fun w=>by
  obtain ⟨⟨h,gs,d,k,os⟩,e,e'⟩:=Option.map_eq_some_iff.mp (ho w)
  obtain ⟨rfl,rfl,rfl,rfl⟩:h=H₀ w.params∧gs=gs₀∧d=d₀∧k=k₀:=by simpa using e'
  obtain ⟨z1,z2,z3⟩:_∧_∧_:=by simpa only [Prod.mk.injEq] using hs w
  obtain ⟨s,r,l1,l2,l3⟩:=hr w os
  have r2:=topRun_mono (N - M) _ _ _ _ r
  rw [show M+(N - M)=N by have:=Nat.le_of_ble_eq_true hl;omega] at r2
  have t:topFrom treeTable p w N ⟨H₀ w.params,gs,d,k,os⟩=some s:=by
    unfold topFrom
    dsimp only
    rw [z1,z2,z3,r2]
    dsimp only [Option.bind]
    rw [l1]
  unfold openEnds
  rw [e]
  show (topFrom treeTable p w N _).map _=_
  rw [t]
  exact congrArg some (Prod.ext l2 l3)
theorem hd.left:LeftO hd.pw hd.view_39 [Str.ofString "ShapeError"] hd.Xt hd.hook.obs hd.hook.val 5812 :=
  left_of_top (boot_open hd.opens rfl hd.fence) hd.size rfl fun w os=>by
    obtain ⟨s,r,g⟩:=hd.top w os
    unfold hd.good at g
    obtain ⟨l1,g⟩:=Prod.mk.inj g
    obtain ⟨l2,l3⟩:=Prod.mk.inj g
    exact ⟨s,r,l1,l2,l3⟩
theorem hd.said:PySem.Challenge.rw_nu0167_01.wellSaid=true:=by
  rw [PySem.W.Fast.te9446332074065402090]
  delta PySem.W.Fast.tw9446332074065402090
  repeat (with_reducible refine and_true2 ?_ (by decide +kernel))
  delta PySem.W.Fast.tw17960256430627541270
  repeat (with_reducible refine and_true2 ?_ (by decide +kernel))
  delta PySem.W.Fast.tw2436336058641802641
  repeat (with_reducible refine and_true2 ?_ (by decide +kernel))
  delta PySem.W.Fast.tw12908688711261696721
  repeat (with_reducible refine and_true2 ?_ (by decide +kernel))
  decide +kernel
set_option linter.defProp false
theorem hd.wit:PySem.Challenge.rw_nu0167_01.row.toRowW.promised:=by w_witness2
theorem hd.well:(chainsOk hd.view_39 && opensWell PySem.Challenge.rw_nu0167_01.row.prog && (frees PySem.Challenge.rw_nu0167_01.row.toRowW && PySem.Challenge.rw_nu0167_01.row.within.isEmpty))=true:=by decide +kernel
theorem hd.bare:PySem.Challenge.rw_nu0167_01.row.prog.bare:=⟨rfl,rfl,rfl,rfl,rfl,by decide +kernel⟩
noncomputable def hd.raw:=fun (walk:WalkG hd.view_39 [Str.ofString "ShapeError"] (XL hd.view_39 []) hd.hook.says PySem.Challenge.rw_nu0167_01.row.toRowW _ _) =>
  holds_law (l:=PySem.Challenge.rw_nu0167_01) hd.said fun said=>Mine.PySem.W.holds_open (Xt:=hd.Xt) (Yf:=hd.hook.obs) (Ya:=hd.hook.val) (YP:=hd.hook.says) hd.left hd.hook.of hd.hook.keeps (fun s e=>xl_of s (Bool.and_eq_true_iff.mp e).1) XL.keeps rfl rfl rfl (fun s e=>recFacts_of (Bool.and_eq_true_iff.mp e).2) rfl said hd.well hd.bare hd.wit walk
theorem hd:type_of% hd.raw:=hd.raw
end
open PySem PySem.W in
theorem fill_once:(fun (_:PySem.W.OpenLaw) (_:PySem.Params→PySem.W.Frag)=>True) PySem.Challenge.rw_nu0167_01 hd.heap_39:=by
  k_fill
  trivial
section
set_option Elab.async false
set_option maxRecDepth 1000000
set_option linter.unusedVariables false
set_option maxHeartbeats 4000000
theorem ba_mro:mroOf (.type "bytearray")=pure [.type "bytearray",.type "object"]:=by rw [mroOf_type];kernel_rfl
theorem ba_lookup_new:typeLookup (.type "bytearray") "__new__" = pure (some (.builtin "bytearray.__new__")):=by rw [typeLookup_type,builtinLookup_eq_fast];kernel_rfl
theorem ba_slot_init:Slot "bytearray" "__init__" "bytearray.__init__" :=
  .of (owner:="bytearray") (n:="__init__") (by rw [typeLookup_type,builtinLookup_eq_fast];kernel_rfl) (by decide +kernel) (by decide +kernel) (by decide +kernel)
    (by first|exact .inl (by decide +kernel)|exact .inr (by decide +kernel)) (by rw [isSubtype_type];kernel_rfl)
theorem ba_called:TypeCalled "bytearray" "bytearray.__new__" "bytearray.__init__" :=
  ⟨by decide +kernel,by decide +kernel,⟨_,_,ba_mro⟩,madeBy_type ba_mro ba_lookup_new (by decide +kernel),by decide +kernel,by rw [isSubtype_type];kernel_rfl,ba_slot_init⟩
theorem ba_typeCall:checkTypeCall "bytearray" ⟨[],[]⟩=pure ():=by kernel_rfl
theorem ba_newCall:checkBuiltinCall "bytearray.__new__" ⟨[.type "bytearray"],[]⟩=pure ():=by kernel_rfl
theorem ba_plain_new:plainId "bytearray.__new__" = true:=by decide +kernel
theorem ba_plain_init:plainId "bytearray.__init__" = true:=by decide +kernel
theorem ba_entry_new:entryFor table "bytearray.__new__" = some Builtin.«list.__new__»:=entryFor_alias (id':="list.__new__") (by kernel_rfl) (by decide +kernel) (by decide +kernel) (by kernel_rfl)
theorem ba_entry_init:entryFor table "bytearray.__init__" = some Builtin.«bytearray.__init__»:=by first|exact entryFor_of_fast (by kernel_rfl)|exact entryFor_of_tree (by kernel_rfl)
theorem ba_owner_new:("bytearray.__new__".splitOn ".__new__").headD "" = "bytearray":=by simp +decide [String.splitOn,String.splitOnAux]
theorem ba_sub:isSubtype (.type "bytearray") (.type "bytearray")=pure true:=by rw [isSubtype_type];kernel_rfl
theorem ba_args_init (a:Value):argsOk "bytearray.__init__" ⟨[a],[]⟩:=by unfold argsOk;kernel_rfl
abbrev baObj (b:Array UInt8):Obj:={cls:=.type "bytearray",data:=.bytearray b 0}
section
variable {prog:Program} {w:World} {A:Around} {E:Value→Shared→Prop} {s:Shared}
theorem ba_new {Q₁:Value→Shared→Prop}
    (h:Q₁ (.ref s.heap.objs.size) {s with heap:=s.heap.push (baObj #[])}) :
    codeAny (model prog w) A (.call (.builtin "bytearray.__new__") ⟨[.type "bytearray"],[]⟩) (wants Q₁ E) s:=by
  refine codeAny_of_tree ?_
  show wpAny _ A.in1 (do checkBuiltinCall "bytearray.__new__" ⟨[.type "bytearray"],[]⟩;again (.builtin "bytearray.__new__" ⟨[.type "bytearray"],[]⟩)) _ _ s
  refine wpAny_bind (wpAny_of_eq ba_newCall (wpAny_pure ⟨plainId_quiet ba_plain_new _,codeAny_builtin_stack ba_entry_new rfl fun p st=>?_⟩))
  rw [Around.under_plainId ba_plain_new _]
  have hsub:=ba_sub
  have hown:=ba_owner_new
  obtain ⟨hp,g,d,tk,os⟩:=s
  simp only [hown]
  wp_walk
  exact h
end
end
section
set_option Elab.async false
set_option maxRecDepth 1000000
set_option linter.unusedVariables false
set_option maxHeartbeats 4000000
set_option pp.deepTerms false
set_option pp.maxSteps 2000
theorem ba_look_release:typeLookup (.type "bytearray") "__release_buffer__" = pure (some (.builtin "bytearray.__release_buffer__")):=by rw [typeLookup_type,builtinLookup_eq_fast];kernel_rfl
theorem ba_bind0:Builtin.Bytes.bindOptional "bytearray.__init__" "bytearray" ["source","encoding","errors"] [] []=pure [none,none,none]:=by kernel_rfl
section
variable {prog:Program} {w:World} {M:Model} {A:Around} {E:Value→Shared→Prop} {s:Shared}
theorem ba_own_release {b:Addr} {arr:Array UInt8} {Q:Bool→Shared→Prop} (hb:s.heap.get? b=some (baObj arr)) (h:Q false s) :
    wpAny M A (Builtin.Bytes.ownRelease (.ref b)) Q E s:=by
  have hT:s.TypeIs (.ref b) "bytearray":=⟨_,hb,rfl⟩
  unfold Builtin.Bytes.ownRelease Builtin.Bytes.slotIsOwn
  refine wpAny_bind (wpAny_bind (wpAny_specialOf hT ba_look_release ?_))
  dsimp only
  split
  · rename_i hx
    exact absurd hx (by decide +kernel)
  · have key:∀ x:String,x="bytearray"→wpAny M A (isInstance (.ref b) (.type x)) (fun a s'=>wpAny M A (pure !a) Q E s') E s:=fun x hx=>by
      rw [hx];exact wpAny_isInstance hT ba_sub (wpAny_pure h)
    exact key _ (by decide +kernel)
theorem ba_exportsOf {b:Addr} {arr:Array UInt8} {Q:Nat→Shared→Prop} (hb:s.heap.get? b=some (baObj arr)) (h:Q 0 s) :
    wpAny M A (Builtin.Bytes.exportsOf (.ref b)) Q E s:=by
  unfold Builtin.Bytes.exportsOf
  exact wpAny_bind (wpAny_load hb (wpAny_pure h))
theorem ba_payload {b:Addr} {arr:Array UInt8} {Q:Array UInt8→Shared→Prop} (hb:s.heap.get? b=some (baObj arr)) (h:Q arr s) :
    wpAny M A (Builtin.Bytes.payload (.ref b)) Q E s:=by
  unfold Builtin.Bytes.payload Builtin.Bytes.payload?
  exact wpAny_bind (wpAny_bind (wpAny_load hb (wpAny_pure (wpAny_pure h))))
theorem ba_write {b:Addr} {arr:Array UInt8} {f:Array UInt8→Array UInt8} {Q:Unit→Shared→Prop} (hb:s.heap.get? b=some (baObj arr)) (hz:(f arr).size≤sizeLine)
    (h:∀ h',s.heap.SameBut b h'→h'.get? b=some (baObj (f arr))→Q () {s with heap:=h'}):wpAny M A (Builtin.Bytes.write (.ref b) f) Q E s:=by
  show wpAny _ _ (updateBytearray b f) _ _ _
  unfold updateBytearray
  refine wpAny_bind (wpAny_load hb ?_)
  show wpAny _ _ (update b (Obj.mapBytearray f) >>= fun _=>lookBehind b) _ _ _
  refine wpAny_bind (wpAny_update hb ?_)
  have h2:(s.heap.update b (Obj.mapBytearray f)).get? b=some (baObj (f arr)):=Heap.get?_update_self (Obj.mapBytearray f) hb rfl
  refine wpAny_lookBehind h2 ?_ (h _ (Heap.SameBut.update ..) h2)
  show (if (f arr).size > sizeLine then some "bytearray:memory" else none)=none
  rw [if_neg (Nat.not_lt.mpr hz)]
theorem ba_free {b:Addr} {arr:Array UInt8} {Q:Bool→Shared→Prop} (hg:A.guards=some []) (hb:s.heap.get? b=some (baObj arr)) (h:Q false s) :
    wpG M A (Builtin.Bytes.exported (.ref b) <||> (do return decide ((← Builtin.Bytes.exportsOf (.ref b)) > 0))) Q E s:=by
  show wpG M A (Builtin.Bytes.exported (.ref b) >>= _) Q E s
  refine wpG_bind (wpG_exported hg ?_)
  exact wpG_of (wpAny_bind (ba_exportsOf hb (wpAny_pure h)))
theorem ba_resize {b:Addr} {arr:Array UInt8} {Q:Unit→Shared→Prop} (hg:A.guards=some []) (hb:s.heap.get? b=some (baObj arr)) (h:Q () s) :
    wpG M A (Builtin.Bytes.checkResize (.ref b)) Q E s:=by
  unfold Builtin.Bytes.checkResize
  exact wpG_bind (ba_free hg hb (wpG_of (wpAny_pure h)))
theorem ba_init {b:Addr} {arr:Array UInt8} {Q:Fin→Shared→Prop} (hg:A.guards=some []) (hb:s.heap.get? b=some (baObj arr))
    (h:∀ h',s.heap.SameBut b h'→h'.get? b=some (baObj #[])→Q (.done (.ret .none)) {s with heap:=h'}) :
    wpG M A (Builtin.«bytearray.__init__» ⟨[.ref b],[]⟩) Q E s:=by
  unfold Builtin.«bytearray.__init__»
  dsimp only
  refine wpG_bindA (ba_own_release hb ?_)
  simp only [Bool.false_eq_true,if_false]
  rw [ba_bind0]
  refine wpG_bindA (wpAny_pure ?_)
  dsimp only
  refine wpG_bindA (wpAny_of_eq (a:=()) rfl ?_)
  refine wpG_bindA (wpAny_of_eq (a:=()) rfl ?_)
  refine wpG_bind (ba_free hg hb ?_)
  simp only [Bool.false_eq_true,if_false]
  refine wpG_bindA (ba_write hb (Nat.zero_le _) fun h' hs hb'=>?_)
  exact wpG_of (wpAny_pure (h h' hs hb'))
end
end
section
set_option Elab.async false
set_option maxRecDepth 1000000
set_option linter.unusedVariables false
set_option maxHeartbeats 4000000
set_option pp.deepTerms false
set_option pp.maxSteps 2000
section
variable {prog:Program} {w:World} {A:Around} {E:Value→Shared→Prop} {s:Shared} {R:Result→Shared→Prop}
theorem codeG_builtin {id:String} {args:Args} {b:Builtin} (hdc:decCode (.builtin id args)=false) (hb:entryFor table id=some b)
    (h:wpG (model prog w) (A.under (.builtin id args)) (b args)
      (fun fin s'=>match fin with|.done f=>R (.ok f) s'|.again c'=>c'.quiet=true∧codeG (model prog w) A c' R s') (fun e s'=>R (.error e) s') s) :
    codeG (model prog w) A (.builtin id args) R s:=by
  refine codeG_of_tree hdc ?_
  show wpG _ _ (match entryFor table id with|some b=>b args|none=>unsupported ((withoutEnding? id "#data").getD id)) _ _ s
  rw [hb];exact h
theorem codeG_call_builtin {id:String} {args:Args} {b:Builtin} (hdc:decCode (.builtin id args)=false) (hq:plainId id=true) (hb:entryFor table id=some b)
    (h:wpAny (model prog w) A.in1 (checkBuiltinCall id args) (fun _ s₁=>wpG (model prog w) A.in1 (b args)
      (fun fin s'=>match fin with|.done f=>R (.ok f) s'|.again c'=>c'.quiet=true∧codeG (model prog w) A c' R s') (fun e s'=>R (.error e) s') s₁)
      (fun e s'=>R (.error e) s') s):codeG (model prog w) A (.call (.builtin id) args) R s:=by
  refine codeG_of_tree rfl ?_
  show wpG _ A.in1 (do checkBuiltinCall id args;again (.builtin id args)) _ _ s
  refine wpG_bindA (wpAny_mono h (fun _ s₁ h₁=>wpG_pure ⟨plainId_quiet hq args,codeG_builtin hdc hb ?_⟩) fun _ _ x=>x)
  rw [Around.under_plainId hq args]
  exact h₁
theorem ba_make {Q:Value→Shared→Prop} (hg:A.guards=some []) (h:∀ b h',b=s.heap.objs.size→(∀ c o,s.heap.get? c=some o→h'.get? c=some o)→h'.get? b=some (baObj #[])→Q (.ref b) {s with heap:=h'}) :
    wpG (model prog w) A (call (.type "bytearray") []) Q E s:=by
  refine wpG_call (codeG_of_tree rfl ?_)
  show wpG _ _ (callAny (.type "bytearray") _) _ _ _
  refine wpG_pure ⟨Code.quiet_builtin _ (by decide +kernel),codeG_builtin (by decide +kernel) F.entry_type_call ?_⟩
  rw [Around.under_plain (weight_type_call_type "bytearray" [] []) rfl]
  have h1:=ba_called.notType
  have h2:=ba_called.canCreate
  unfold Builtin.«type.__call__»
  dsimp only
  simp only [h1,h2,Bool.false_eq_true,if_false]
  refine wpG_bindA (wpAny_of_eq ba_typeCall ?_)
  refine wpG_bindA (wpAny_of_eq ba_mro ?_)
  simp only [List.isEmpty_cons,Bool.false_eq_true,if_false]
  refine wpG_bindA (wpAny_of_eq ba_called.made ?_)
  dsimp only
  refine wpG_bindA (wpAny_pure ?_)
  refine wpG_bindA (wpAny_holding (wpAny_call (codeAny_mono (ba_new (E:=E) (Q₁:=fun obj s₁=>obj=.ref s.heap.objs.size∧s₁={s with heap:=s.heap.push (baObj #[])}) ⟨rfl,rfl⟩) fun r s₁ hr=>?_)))
  cases r with
  | error e=>exact hr
  | ok fl =>
    cases fl with
    | ret obj =>
      obtain ⟨rfl,rfl⟩:=hr
      have hb:(s.heap.push (baObj #[])).get? s.heap.objs.size=some (baObj #[]):=Heap.get?_push_size _ rfl
      have hT:({s with heap:=s.heap.push (baObj #[])}:Shared).TypeIs (.ref s.heap.objs.size) "bytearray":=⟨_,hb,rfl⟩
      dsimp only
      refine wpG_bindA (wpAny_isInstance hT ba_sub ?_)
      simp only [Bool.not_true,Bool.false_eq_true,if_false]
      refine wpG_bind (wpG_holding ?_)
      unfold callSpecial?
      refine wpG_bindA (wpAny_specialOf hT ba_slot_init.lookup ?_)
      dsimp only
      refine wpG_holding (wpG_bindA (wpAny_of_eq (ba_slot_init.bind _) ?_))
      dsimp only
      refine wpG_bind (wpG_call (codeG_call_builtin (show Builtin.Bytes.decodersThatHold.contains "bytearray.__init__" = false by decide +kernel) ba_plain_init ba_entry_init (ba_slot_init.check _ _ _ _ _ _ _ _ hT (ba_args_init _) ?_)))
      refine ba_init hg hb fun h' hs hb'=>?_
      dsimp only
      refine wpG_pure ?_
      dsimp only
      show wpG _ _ (if (Value.none != Value.none)=true then _ else _) _ _ _
      rw [if_neg (by decide)]
      exact wpG_of (wpAny_pure (h _ h' rfl (fun c o hc=>hs.extBut c o (Nat.ne_of_lt (Heap.lt_size hc)) (Heap.get?_push_of_some _ hc)) hb'))
    | _=>exact hr.elim
end
end
section
set_option Elab.async false
set_option maxRecDepth 1000000
set_option linter.unusedVariables false
set_option maxHeartbeats 4000000
set_option pp.deepTerms false
set_option pp.maxSteps 2000
theorem ba_slot_extend:Slot "bytearray" "extend" "bytearray.extend" :=
  .of (owner:="bytearray") (n:="extend") (by rw [typeLookup_type,builtinLookup_eq_fast];kernel_rfl) (by decide +kernel) (by decide +kernel) (by decide +kernel)
    (by first|exact .inl (by decide +kernel)|exact .inr (by decide +kernel)) (by rw [isSubtype_type];kernel_rfl)
theorem ba_slot_len:Slot "bytearray" "__len__" "bytearray.__len__" :=
  .of (owner:="bytearray") (n:="__len__") (by rw [typeLookup_type,builtinLookup_eq_fast];kernel_rfl) (by decide +kernel) (by decide +kernel) (by decide +kernel)
    (by first|exact .inl (by decide +kernel)|exact .inr (by decide +kernel)) (by rw [isSubtype_type];kernel_rfl)
theorem ba_plain_extend:plainId "bytearray.extend" = true:=by decide +kernel
theorem ba_entry_extend:entryFor table "bytearray.extend" = some Builtin.«bytearray.extend»:=by first|exact entryFor_of_fast (by kernel_rfl)|exact entryFor_of_tree (by kernel_rfl)
theorem ba_entry_len:entryFor table "bytearray.__len__" = some Builtin.«bytearray.__len__»:=by first|exact entryFor_of_fast (by kernel_rfl)|exact entryFor_of_tree (by kernel_rfl)
theorem ba_args_extend (a b:Value):argsOk "bytearray.extend" ⟨[a,b],[]⟩:=by unfold argsOk;kernel_rfl
theorem ba_args_len (a:Value):argsOk "bytearray.__len__" ⟨[a],[]⟩:=by unfold argsOk;kernel_rfl
theorem ba_look_buffer:typeLookup (.type "bytearray") "__buffer__" = pure (some (.builtin "bytearray.__buffer__")):=by rw [typeLookup_type,builtinLookup_eq_fast];kernel_rfl
theorem ba_no_bytes:typeLookup (.type "bytearray") "__bytes__" = pure none:=by rw [typeLookup_type,builtinLookup_eq_fast];kernel_rfl
theorem ba_no_index:typeLookup (.type "bytearray") "__index__" = pure none:=by rw [typeLookup_type,builtinLookup_eq_fast];kernel_rfl
theorem ba_take {b:Array UInt8} {t:Tok} {id:String}:Builtin.Bytes.takeBufferQuiet? id (.bytes b t) 0=pure (some (b,none)):=by
  unfold Builtin.Bytes.takeBufferQuiet? Builtin.Bytes.takeBuffer?
  rw [KBy.special_eq KBy.look_buffer,KBy.own_buffer,show ((0:Int) == Builtin.Bytes.fullReadOnly)=false from by decide,KBy.buffer_eq]
  kernel_rfl
section
variable {prog:Program} {w:World} {A:Around} {E:Value→Shared→Prop} {s:Shared} {R:Result→Shared→Prop}
theorem ba_buffer {M:Model} {b:Addr} {arr:Array UInt8} {id:String} {full:Bool} {Q:Option (Array UInt8)→Shared→Prop} (hb:s.heap.get? b=some (baObj arr)) (h:Q (some arr) s) :
    wpAny M A (Builtin.Bytes.buffer? id (.ref b) full) Q E s:=by
  have hT:s.TypeIs (.ref b) "bytearray":=⟨_,hb,rfl⟩
  unfold Builtin.Bytes.buffer?
  refine wpAny_bind (wpAny_specialOf hT ba_look_buffer ?_)
  dsimp only
  refine wpAny_bind ?_
  unfold Builtin.Bytes.slotIsOwn
  refine wpAny_bind (wpAny_specialOf hT ba_look_buffer ?_)
  dsimp only
  split
  · rename_i hx
    exact absurd hx (by decide +kernel)
  · have key:∀ x:String,x="bytearray"→∀ (Q':Bool→Shared→Prop),Q' true s→wpAny M A (isInstance (.ref b) (.type x)) Q' E s:=fun x hx Q' hq=>by
      rw [hx];exact wpAny_isInstance hT ba_sub hq
    refine key _ (by decide +kernel) _ ?_
    simp only [Bool.not_true,Bool.false_eq_true,if_false]
    refine wpAny_bind (wpAny_specialOf hT ba_look_buffer ?_)
    refine wpAny_bind (ba_own_release hb ?_)
    simp only [Bool.false_eq_true,if_false]
    exact wpAny_bind (ba_payload hb (wpAny_pure h))
theorem ba_extend_run {b:Addr} {arr more:Array UInt8} {t:Tok} {Q:Fin→Shared→Prop} (hg:A.guards=some []) (hb:s.heap.get? b=some (baObj arr)) (hm:more.isEmpty=false) (hz:(arr++more).size≤sizeLine)
    (h:∀ h',s.heap.SameBut b h'→h'.get? b=some (baObj (arr++more))→Q (.done (.ret .none)) {s with heap:=h'}) :
    wpG (model prog w) A (Builtin.«bytearray.extend» ⟨[.ref b,.bytes more t],[]⟩) Q E s:=by
  unfold Builtin.«bytearray.extend»
  dsimp only
  refine wpG_bindA (wpAny_of_eq (a:=(.ref b,.bytes more t)) rfl ?_)
  dsimp only
  refine wpG_bindA (wpAny_of_eq (KBy.special_eq KBy.look_buffer) ?_)
  simp only [Option.isSome_some,if_true]
  refine wpG_bindA (wpAny_rule ?_)
  refine wpG_bindA (ba_payload hb ?_)
  refine wpG_bindA (wpAny_of_eq ba_take ?_)
  dsimp only
  simp only [Option.isNone_none,if_true]
  show wpG _ _ (if (!more.isEmpty)=true then (do Builtin.Bytes.checkResize (.ref b);Builtin.Bytes.write (.ref b) (·++more);ret .none) else (do Builtin.Bytes.write (.ref b) (·++more);ret .none)) _ _ _
  simp only [hm,Bool.not_false,if_true]
  refine wpG_bind (ba_resize hg hb ?_)
  refine wpG_bindA (ba_write hb hz fun h' hs hb'=>?_)
  exact wpG_of (wpAny_pure (h h' hs hb'))
theorem ba_extend {b:Addr} {arr more:Array UInt8} {t:Tok} {Q:Value→Shared→Prop} (hg:A.guards=some []) (hb:s.heap.get? b=some (baObj arr)) (hm:more.isEmpty=false) (hz:(arr++more).size≤sizeLine)
    (h:∀ h',s.heap.SameBut b h'→h'.get? b=some (baObj (arr++more))→Q .none {s with heap:=h'}) :
    wpG (model prog w) A (call (.builtin "bytearray.extend") [.ref b,.bytes more t]) Q E s:=by
  have hT:s.TypeIs (.ref b) "bytearray":=⟨_,hb,rfl⟩
  refine wpG_call (codeG_call_builtin (show Builtin.Bytes.decodersThatHold.contains "bytearray.extend" = false by decide +kernel) ba_plain_extend ba_entry_extend (ba_slot_extend.check _ _ _ _ _ _ _ _ hT (ba_args_extend _ _) ?_))
  exact ba_extend_run hg hb hm hz fun h' hs hb'=>h h' hs hb'
theorem ba_len {b:Addr} {arr:Array UInt8} {Q:Value→Shared→Prop} (hb:s.heap.get? b=some (baObj arr)) (hz:arr.size≤sizeLine)
    (h:Q (.int (arr.size:Int) (s.toks+1)) {s with toks:=s.toks+1+1}) :
    wpAny (model prog w) A (call (.builtin "len") [.ref b]) Q E s:=by
  have hT:s.TypeIs (.ref b) "bytearray":=⟨_,hb,rfl⟩
  have hz':¬ ((arr.size:Nat):Int) ≥ 2 ^ 63:=by
    rw [sizeLine_eq] at hz
    omega
  refine call_len_slot hT ba_slot_len (n:=arr.size) (fun Q' hq=>wpAny_call (codeAny_call_builtin ba_slot_len.plain ba_entry_len (ba_slot_len.check _ _ _ _ _ _ _ _ hT (ba_args_len _) ?_))) (by omega) hz' h
  unfold Builtin.«bytearray.__len__»
  refine wpAny_bind (wpAny_of_eq (a:=(.ref b,[])) rfl ?_)
  dsimp only
  refine wpAny_bind (ba_payload hb ?_)
  exact wpAny_bind (wpAny_mkInt (wpAny_pure hq))
theorem ba_bytes_new {b:Addr} {arr:Array UInt8} {Q:Value→Shared→Prop} (hb:s.heap.get? b=some (baObj arr)) (hz:arr.size≤sizeLine)
    (hQ:Q (.bytes arr s.toks) {s with toks:=s.toks+1}) :
    codeAny (model prog w) A (.call (.builtin "bytes.__new__") ⟨[.type "bytes",.ref b],[]⟩) (wants Q E) s:=by
  refine codeAny_of_tree ?_
  show wpAny _ A.in1 (do checkBuiltinCall "bytes.__new__" ⟨[.type "bytes",.ref b],[]⟩;again (.builtin "bytes.__new__" ⟨[.type "bytes",.ref b],[]⟩)) _ _ s
  refine wpAny_bind (wpAny_of_eq (F.bm_newCall _) (wpAny_pure ⟨plainId_quiet F.bm_plain _,codeAny_builtin F.bm_entry ?_⟩))
  rw [Around.under_plainId F.bm_plain _]
  have hT:s.TypeIs (.ref b) "bytearray":=⟨_,hb,rfl⟩
  unfold Builtin.«bytes.__new__»
  refine wpAny_bind (wpAny_of_eq (a:=true) rfl ?_)
  refine bm_if_false rfl ?_
  refine wpAny_bind (wpAny_of_eq F.bm_sub ?_)
  refine bm_if_false rfl ?_
  refine wpAny_bind (wpAny_of_eq (F.bm_bind _) ?_)
  refine wpAny_bind (wpAny_of_eq (a:=()) rfl ?_)
  refine wpAny_bind (wpAny_of_eq (a:=()) rfl ?_)
  refine bm_if_false rfl ?_
  refine wpAny_bind (wpAny_specialOf hT ba_no_bytes ?_)
  refine wpAny_bind (wpAny_bind ?_)
  show wpAny _ _ (load b >>= _) _ _ _
  refine wpAny_bind (wpAny_load hb ?_)
  refine wpAny_pure (wpAny_pure ?_)
  refine bm_if_false rfl ?_
  refine wpAny_bind (wpAny_specialOf hT ba_no_index ?_)
  refine bm_if_true rfl ?_
  first
    | show wpAny _ _ (Builtin.Bytes.buffer? "bytes.__new__" (.ref b) true >>= _) _ _ _
    | (refine wpAny_bind ?_;show wpAny _ _ (Builtin.Bytes.buffer? "bytes.__new__" (.ref b) true >>= _) _ _ _)
  refine wpAny_bind (ba_buffer hb ?_)
  dsimp only
  refine wpAny_bind (wpAny_rule ?_)
  refine wpAny_bind (wpAny_mkBytes ?_ hz)
  show wpAny _ _ (if (Value.type "bytes" == Value.type "bytes")=true then _ else _) _ _ _
  refine bm_if_true (by decide) ?_
  first
    | exact wpAny_pure hQ
    | exact wpAny_bind (wpAny_pure (wpAny_pure hQ))
theorem ba_bytes {b:Addr} {arr:Array UInt8} {Q:Value→Shared→Prop} (hb:s.heap.get? b=some (baObj arr)) (hz:arr.size≤sizeLine)
    (hQ:Q (.bytes arr s.toks) {s with toks:=s.toks+1}):wpAny (model prog w) A (call (.type "bytes") [.ref b]) Q E s:=by
  refine callType_codes (Q₁:=fun obj s₁=>s₁.TypeIs obj "bytes"∧Q obj s₁) F.bm_called (F.bm_typeCall _) F.entry_object_init
    (ba_bytes_new hb hz ⟨PySem.W.typeIs_bytes _ _ _,hQ⟩) fun obj s₁ h₁=>?_
  exact ⟨h₁.1,F.args_object_init_2 obj _,object_init_meets F.bm_called.init.lookup F.bm_called.made (by decide) prog w A.in1 _ s₁ ⟨h₁.1,rfl,h₁.2⟩⟩
end
end
section
set_option Elab.async false
set_option maxRecDepth 100000
set_option linter.unusedVariables false
set_option maxHeartbeats 4000000
section
variable {α:Type} {M:Model} {A:Around} {E:Value→Shared→Prop} {s:Shared} {env:Env} {prog:Program} {w:World}
theorem wpG_keep {vs:List Value} {m:Sem α} {Q:α→Shared→Prop} (h:wpG M A m Q E s):wpG M A (m.keep vs) Q E s :=
  fun Γ p hΓ g=>by rw [Sem.wp_keep];exact h Γ p hΓ g
theorem wpG_standAt {m:Sem α} {pos:Pos} {Q:α→Shared→Prop} (h:wpG M A m Q E s):wpG M A (standAt pos >>= fun _=>m) Q E s:=wpG_bindA (wpAny_standAt h)
theorem callWithG_of {P:Heap→Prop} {pos:Pos} {f:Value} {first:List Value} {args:List (Bool×Sem Value)} {keywords:List (Option Str×Sem Value)} {Q:Value→Shared→Prop} (hplain:(args.any (·.1) || keywords.any (·.1.isNone))=false)
    (hk:∀ h,P h→∃ k,(k=Keeper.frame∨k=Keeper.machine∨k=Keeper.boundFrame)∧Looks M h (keeperOf f) k)
    (h:wpAny M A (evalArgs f true args keywords) (fun a s₁=>P s₁.heap∧wpG M A (call f (first++a.pos) a.kw) Q E s₁) E s):wpG M A (callWith pos f first args keywords) Q E s:=by
  unfold callWith
  refine wpG_bindA (wpAny_holding (wpAny_mono h (fun a s₁ h₁=>wpG_standAt ?_) fun _ _ x=>x))
  obtain ⟨k,hk',L⟩:=hk _ h₁.1
  simp only [hplain]
  refine wpG_bindA (L.here ?_)
  have tail:∀ {t:Sem Value},wpG M A t Q E s₁→wpG M A (t >>= fun r=>holding [r] point >>= fun _=>pure r) Q E s₁ :=
    fun ht=>wpG_bind (wpG_mono ht (fun r s₂ hr=>wpG_of (wpAny_bind (wpAny_holding (wpAny_point (wpAny_pure hr))))) fun _ _ x=>x)
  have marked (mk:Value):wpG M A (callMarked mk f (first++a.pos) a.kw) Q E s₁:=by unfold callMarked;exact wpG_keep h₁.2
  rcases hk' with rfl|rfl|rfl <;> dsimp only <;> first|exact tail h₁.2|(split <;> first|exact tail h₁.2|exact tail (marked _))
theorem callWithG_K {K:Frag} {pos:Pos} {f:Value} {first:List Value} {e:Expr} {rest:List Expr} {Q:Value→Shared→Prop} (hk:keepIn K f=true) (h:wpAny M A (spliced (backTo pos (starEach (e::rest) env))) (fun vs s₁=>K.In s₁.heap∧wpG M A (call f (first++vs)) Q E s₁) E s)
    (he:starEach (e::rest) env=(false,eval e env)::starEach rest env:=by rfl) (hplain:(backTo pos (starEach rest env)).any (·.1)=false:=by rfl) :
    wpG M A (callWith pos f first (backTo pos (starEach (e::rest) env)) []) Q E s:=by
  rw [he] at h ⊢
  exact callWithG_of (by show ((false || (backTo pos (starEach rest env)).any (·.1)) || false)=false;rw [hplain];rfl) (keeps_K hk) (evalArgs_plain h)
theorem callWithG_K0 {K:Frag} {pos:Pos} {f:Value} {first:List Value} {Q:Value→Shared→Prop} (X:K.In s.heap) (hk:keepIn K f=true) (h:wpG M A (call f (first++[])) Q E s):wpG M A (callWith pos f first (backTo pos (starEach [] env)) []) Q E s :=
  callWithG_of rfl (keeps_K hk) (evalArgs_nil3 ⟨X,h⟩)
theorem CallG {func:Expr} {args:List Expr} {pos:Pos} {Q:Value→Shared→Prop}
    (h:wpAny M A (eval func env) (fun f s₁=>wpG M A (callWith pos f [] (backTo pos (starEach args env)) []) Q E s₁) E s)
    (he:eval (.Call func args [] pos) env=(do callWith pos (← eval func env) [] (backTo pos (starEach args env)) (backToKw pos (keywordEach [] env))):=by rfl) :
    wpG M A (eval (.Call func args [] pos) env) Q E s:=by
  rw [he];exact wpG_bindA h
theorem splicedG_cons {x:Sem Value} {rest:List (Bool×Sem Value)} {Q:List Value→Shared→Prop}
    (h:wpG M A x (fun v s₁=>wpAny M A (spliced rest) (fun vs s₂=>Q (v::vs) s₂) E s₁) E s):wpG M A (spliced ((false,x)::rest)) Q E s:=by
  rw [spliced]
  refine wpG_bind (wpG_mono h (fun v s₁ h₁=>?_) fun _ _ x=>x)
  simp only [Bool.false_eq_true,if_false]
  exact wpG_of (wpAny_bind (wpAny_pure (wpAny_bind (wpAny_holding (wpAny_mono h₁ (fun vs s₂ h₂=>wpAny_pure h₂) fun _ _ x=>x)))))
theorem TupleG {e:Expr} {rest:List Expr} {k:Nat} {pos:Pos} {Q:Value→Shared→Prop}
    (h:wpG M A (eval e env) (fun v s₁=>wpAny M A (spliced (backTo pos (starEach rest env))) (fun vs s₂=>wpAny M A (newTuple (v::vs)) Q E s₂) E s₁) E s)
    (he:starEach (e::rest) env=(false,eval e env)::starEach rest env:=by rfl):wpG M A (eval (.Tuple (e::rest) k pos) env) Q E s:=by
  rw [arm_eval_Tuple,he]
  refine wpG_standAt (wpG_bind (splicedG_cons ?_))
  exact wpG_mono h (fun v s₁ h₁=>wpAny_mono h₁ (fun vs s₂ h₂=>wpG_of h₂) fun _ _ x=>x) fun _ _ x=>x
theorem AssignTupleG {elts k tpos value pos} {Q:Flow→Shared→Prop}
    (h:wpG M A (eval value env) (fun v s₁=>wpAny M A (assign (.Tuple elts k tpos) env v) (fun _=>Q .next) E s₁) E s)
    (hs:swapsWithSole [.Tuple elts k tpos] value pos.line env=pure false:=by rfl)
    (hw:swappedStores [.Tuple elts k tpos] value env=pure none:=by rfl) :
    wpG M A (exec (.Assign [.Tuple elts k tpos] value pos) env) Q E s:=by
  rw [exec_Assign]
  refine wpG_standAt ?_
  rw [hs]
  refine wpG_bindA (wpAny_pure ?_)
  rw [if_neg (by decide)]
  refine wpG_bind (wpG_mono h (fun v s₁ h₁=>?_) fun _ _ x=>x)
  rw [hw]
  refine wpG_bindA (wpAny_pure ?_)
  show wpG M A (do assignAll v [assign (.Tuple elts k tpos) env];pure .next) Q E s₁
  exact wpG_of (wpAny_bind (wpAny_mono h₁ (fun _ _ x=>wpAny_pure x) fun _ _ x=>x))
theorem AssignNameG {x pos' value pos} {Q:Flow→Shared→Prop} (h:wpG M A (eval value env) (fun v s₁=>wpAny M A (bindName env x v) (fun _=>Q .next) E s₁) E s)
    (hs:swapsWith value (some (.Name x pos')) pos.line env=pure false:=by rfl):wpG M A (exec (.Assign [.Name x pos'] value pos) env) Q E s:=by
  rw [exec_Assign_Name env x pos' value pos hs]
  refine wpG_standAt (wpG_bind (wpG_mono h (fun v s₁ h₁=>wpG_standAt (wpG_of (wpAny_bind (wpAny_mono h₁ (fun _ _ x=>wpAny_pure x) fun _ _ x=>x)))) fun _ _ x=>x))
theorem execsG_cons {st rest} {Q:Flow→Shared→Prop}
    (h:wpG M A (exec st env) (fun f s'=>match f with|.next=>wpG M A (execs rest env) Q E s'|f=>Q f s') E s) :
    wpG M A (execs (st::rest) env) Q E s:=fun Γ p hΓ g=>by
  rw [execs_cons,Sem.wp_bind']
  refine Sem.wp_mono M Γ _ (fun f p' s' h'=>?_) (fun _ _ _ h'=>h') _ _ (h Γ p hΓ g)
  cases f <;> first|exact h' Γ p' hΓ g|exact h'
theorem execsG_leaf {st rest} {Q:Flow→Shared→Prop}
    (h:wpAny M A (exec st env) (fun f s'=>match f with|.next=>wpG M A (execs rest env) Q E s'|f=>Q f s') E s) :
    wpG M A (execs (st::rest) env) Q E s:=execsG_cons (wpG_of h)
theorem execsG_nil {Q:Flow→Shared→Prop} (h:Q .next s):wpG M A (execs [] env) Q E s:=wpG_of (wpAny_execs_nil h)
theorem ExprG {e pos} {Q:Flow→Shared→Prop} (h:wpG (model prog w) A (eval e env) (fun _=>Q .next) E s)
    (hi:interactive env=false:=by rfl) (hs:swapsWith e none pos.line env=pure false:=by rfl) :
    wpG (model prog w) A (exec (.Expr e pos) env) Q E s:=by
  rw [exec_Expr env e pos hi hs]
  exact wpG_standAt (wpG_bind (wpG_mono h (fun v s' h'=>wpG_of (wpAny_dropValue h')) fun _ _ x=>x))
theorem IfG {test body orelse pos} {Q:Flow→Shared→Prop}
    (h:wpG M A (isTrue test env (eval test env))
      (fun b s₂=>if b then wpG M A (execs body env) Q E s₂ else wpG M A (execs orelse env) Q E s₂) E s) :
    wpG M A (exec (.If test body orelse pos) env) Q E s:=fun Γ p hΓ g=>by
  simp only [exec_If,Sem.wp_bind',Sem.wp_cmd_standAt]
  refine Sem.wp_mono M Γ _ (fun b p₂ s₂ h₂=>?_) (fun _ _ _ h'=>h') _ _ (h Γ _ hΓ g)
  cases b <;> exact h₂ Γ p₂ hΓ g
theorem CompareG {l op r pos whole} {Q:Bool→Shared→Prop}
    (h:wpG M A (eval l env) (fun a s₁=>wpAny M A (eval r env) (fun b s₂=>wpAny M A (compareOp op a b)
      (fun c s₃=>wpAny M A (truthy c) Q E s₃) E s₂) E s₁) E s)
    (hm:behindInMarks op r=false:=by with_unfolding_all rfl):wpG M A (isTrue (.Compare l [op] [r] pos) env whole) Q E s:=fun Γ p hΓ g=>by
  simp only [isTrue_Compare1,markedBehindIn_of_false hm,Sem.wp_bind',Sem.wp_holding,Sem.wp_cmd_standAt,Sem.wp_operate]
  exact Sem.wp_mono M Γ _ (fun a p₁ s₁ h₁=>Sem.wp_mono M Γ _ (fun b _ s₂ h₂=>Sem.wp_mono M Γ _ (fun c p₃ s₃ h₃=>h₃ Γ p₃ hΓ)
    (fun _ _ _ h'=>h') _ _ (h₂ Γ _ hΓ)) (fun _ _ _ h'=>h') _ _ (h₁ Γ p₁ hΓ)) (fun _ _ _ h'=>h') _ _ (h Γ p hΓ g)
theorem OrG {x:Expr} {rest:List Expr} {pos:Pos} {whole:Sem Value} {Q:Bool→Shared→Prop}
    (h:wpG M A (isTrue x env (eval x env)) (fun b s₁=>if b then Q true s₁ else wpAny M A (allTrue .Or rest env) Q E s₁) E s) :
    wpG M A (isTrue (.BoolOp .Or (x::rest) pos) env whole) Q E s:=by
  rw [arm_isTrue_BoolOp,arm_allTrue_cons]
  refine wpG_bind (wpG_mono h (fun b s₁ h₁=>?_) fun _ _ x=>x)
  cases b with
  | true=>exact wpG_of (wpAny_pure h₁)
  | false=>exact wpG_of h₁
theorem tryG {body orelse:List Stmt} {h₀:ExceptHandler} {hs:List ExceptHandler} {pos:Pos} {Q:Flow→Shared→Prop}
    (h:wpG (model prog w) A (execs body env) (fun f s₁=>match f with|.next=>wpAny (model prog w) A (execs orelse env) Q E s₁|f=>Q f s₁)
      (fun e s₁=>wpAny (model prog w) A (noteFrame e env) (fun _ s₂=>wpAny (model prog w) A (setFlight e none) (fun _ s₃=>wpAny (model prog w) A (handleBy e env (h₀::hs)) Q E s₃) E s₂) E s₁) s) :
    wpG (model prog w) A (exec (.Try body (h₀::hs) orelse [] pos) env) Q E s:=by
  rw [arm_exec_Try]
  refine wpG_standAt ?_
  unfold tryStmt
  simp only [List.isEmpty_nil,if_true,List.isEmpty_cons,Bool.false_and,Bool.false_eq_true,if_false]
  refine wpG_bind (wpG_attempt (wpG_mono h (fun f s₁ h₁=>?_) fun e s₁ h₁=>?_))
  · cases f <;> first|exact wpG_of h₁|exact wpG_of (wpAny_pure h₁)
  · exact wpG_of (wpAny_bind (wpAny_mono h₁ (fun _ _ h₂=>wpAny_bind h₂) fun _ _ x=>x))
theorem codeG_func {R:Result→Shared→Prop} {body env}
    (h:wpG (model prog w) (A.deeper env) (execs body env) (fun f s'=>R (.ok (.ret (match f with|.ret v=>v|_=>.none))) s')
      (fun e s'=>wpAny (model prog w) (A.deeper env) (leaving env e) (fun _ s''=>R (.error e) s'') (fun e' s''=>R (.error e') s'') s') s) :
    codeG (model prog w) A (.func body env) R s:=by
  refine codeG_of_tree rfl ?_
  show wpG _ (A.deeper env) (do point;match ← (execs body env).onRaise (leaving env) with|.ret v=>ret v|_=>ret .none) _ _ s
  refine wpG_bindA (wpAny_point (wpG_bind (wpG_onRaise (wpG_mono h (fun f s' h'=>?_) fun _ _ h'=>h'))))
  cases f <;> exact wpG_of (wpAny_pure h')
theorem codeG_call_function {R:Result→Shared→Prop} {a:Addr} {args:Args} {o:Obj} {fd:FuncData} {body:List Stmt} (hroom:A.depth<recursionLimit)
    (ho:s.heap.get? a=some o)
    (hd':o.data=.func fd) (hco:fd.scope.isCoroutine=false) (hgen:fd.scope.isGenerator=false) (hbody:fd.body=.stmts body) (hcd:s.heap.CodeRec fd.code fd.qualname)
    (h:wpAny (model prog w) A.in1 (bindArgs fd args) (fun binds s₁ =>
      wpAny (model prog w) A.in1 (newFunctionEnv fd.scope fd.globals fd.closure binds (fd.qualname++".<locals>.") (some a) fd.code none fd.builtins)
        (fun env s₂=>s₂.heap.NoLimit∧codeG (model prog w) A (.func body env) R s₂) (fun e s'=>R (.error e) s') s₁) (fun e s'=>R (.error e) s') s) :
    codeG (model prog w) A (.call (.ref a) args) R s:=by
  refine codeG_of_tree rfl ?_
  show wpG _ A.in1 (callAny (.ref a) args) _ _ s
  simp only [callAny]
  refine wpG_bindA (wpAny_load ho ?_)
  obtain ⟨c,oc,vs,tq,hc,hoc,hdc,hq⟩:=hcd
  simp only [hd',callFunction,hco,hgen,hbody,hc]
  rw [hc] at h
  refine wpG_bindA (m:=field (.ref c) 1) (wpAny_field hoc hdc hq (wpG_bindA (wpAny_pure ?_)))
  exact wpG_bindA (wpAny_mono h (fun binds s₁ h₁=>wpG_bindA (wpAny_mono h₁ (fun env s₂ h₂=>wpG_bindA (wpAny_enterFrame h₂.1 hroom
    (wpG_pure (And.intro rfl h₂.2)))) fun _ _ h'=>h')) fun _ _ h'=>h')
end
end
section
set_option Elab.async false
set_option maxRecDepth 100000
set_option linter.unusedVariables false
set_option maxHeartbeats 4000000
set_option pp.deepTerms false
set_option pp.maxSteps 2000
section
variable {α:Type} {M:Model} {A:Around} {E:Value→Shared→Prop} {s:Shared} {env:Env} {prog:Program} {w:World}
theorem MethodG {o:Expr} {name:Str} {apos pos:Pos} {args:List Expr} {pl:Sem Bool} {Q:Value→Shared→Prop}
    (h:wpAny M A (eval o env) (fun ov s₁=>wpAny M A (getMethod ov name pl) (fun fx s₂=>wpG M A (callWith pos fx.1 fx.2 (backTo pos (starEach args env)) (backToKw pos (keywordEach [] env))) Q E s₂) E s₁) E s)
    (he:eval (.Call (.Attribute o name apos) args [] pos) env=(do
      let ov ← eval o env
      standAt apos.atName
      let (f,first) ← holding [ov] (getMethod ov name pl)
      callWith pos f first (backTo pos (starEach args env)) (backToKw pos (keywordEach [] env))):=by rfl) :
    wpG M A (eval (.Call (.Attribute o name apos) args [] pos) env) Q E s:=by
  rw [he]
  refine wpG_bindA (wpAny_mono h (fun ov s₁ h₁=>wpG_standAt (wpG_bindA (wpAny_holding (wpAny_mono h₁ (fun fx s₂ h₂=>?_) fun _ _ x=>x)))) fun _ _ x=>x)
  exact h₂
end
section
variable {prog:Program} {w:World} {A:Around} {K:Frag} {C:Addr} {R:Result→Shared→Prop} {h:Heap} {g:Array GenState} {d:Drawn} {t:Nat} {os:OsState}
theorem codeG_call_builtin_at {E:Value→Shared→Prop} {s:Shared} {id:String} {args:Args} {b:Builtin} (hdc:decCode (.builtin id args)=false) (hq:(Code.builtin id args).quiet=true) (hb:entryFor table id=some b)
    (h:wpAny (model prog w) A.in1 (checkBuiltinCall id args) (fun _ s₁=>wpG (model prog w) (A.under (.builtin id args)) (b args)
      (fun fin s'=>match fin with|.done f=>R (.ok f) s'|.again c'=>c'.quiet=true∧codeG (model prog w) A c' R s') (fun e s'=>R (.error e) s') s₁)
      (fun e s'=>R (.error e) s') s):codeG (model prog w) A (.call (.builtin id) args) R s:=by
  refine codeG_of_tree rfl ?_
  show wpG _ A.in1 (do checkBuiltinCall id args;again (.builtin id args)) _ _ s
  exact wpG_bindA (wpAny_mono h (fun _ s₁ h₁=>wpG_pure ⟨hq,codeG_builtin hdc hb h₁⟩) fun _ _ x=>x)
theorem makeG_core {init:Value} (Y:Makes (model prog w) h C) (hi:Looks (model prog w) h (typeLookup (.ref C) "__init__") (some init))
    (hb:∀ self,Looks (model prog w) h (bindSpecial init self) (init,[self])) (hne:(some init != some (Value.builtin "object.__init__"))=true)
    (hq:codeG (model prog w) (A.under (.builtin "type.__call__" ⟨[.ref C],[]⟩)) (.call init ⟨[.ref (h.objs.size+1)],[]⟩) (InitBack (h.objs.size+1) R) ⟨(h.push emptyDict).push (instObj C h.objs.size),g,d,t,os⟩) :
    codeG (model prog w) A (.call (.ref C) ⟨[],[]⟩) R ⟨h,g,d,t,os⟩:=by
  have Y':=Y
  obtain ⟨⟨oc,od,cd,sl,hC,e1,e2,e4⟩,made,base,self,top,call,typ⟩:=Y
  refine codeG_of_tree rfl ?_
  show wpG _ _ (callAny (.ref C) _) _ _ _
  unfold callAny
  refine wpG_bindA (wpAny_load hC ?_)
  dsimp only
  unfold callAny.viaDunder
  refine wpG_bindA (call.at ?_)
  dsimp only
  rw [tc_bind]
  refine wpG_bindA (wpAny_pure (wpG_bindA (wpAny_pure ?_)))
  refine wpG_pure (a:=Fin.again (.call (.builtin "type.__call__") ⟨[.ref C],[]⟩)) (And.intro rfl ?_)
  refine codeG_call_builtin_at (E:=fun _ _=>False) (show Builtin.Bytes.decodersThatHold.contains "type.__call__" = false by decide +kernel) (Code.quiet_builtin _ (by decide +kernel)) entry_typeCall (check_slot tc_kind tc_split typ (tc_args _ _ _) ?_)
  unfold Builtin.«type.__call__»
  have hm:Looks (model prog w) h (mroOf (.ref C)) cd.mro:=((Looks.ld (part:=none) hC).andThen .now).andThen .now
  dsimp only
  rw [if_neg (by rw [show (Value.ref C == Value.type "type")=false from rfl];exact Bool.false_ne_true)]
  refine wpG_bindA (hm.at ?_)
  simp only [e4,Bool.false_eq_true,if_false]
  refine wpG_bindA (made.at ?_)
  dsimp only
  refine wpG_bindA (wpAny_pure ?_)
  refine wpG_bindA (wpAny_holding (wpAny_call ?_))
  refine new_K Y' hi (.inl hne) ?_
  dsimp only
  have k:∀ b o,h.get? b=some o→((h.push emptyDict).push (instObj C h.objs.size)).get? b=some o:=fun b o e=>Heap.get?_push_of_some _ (Heap.get?_push_of_some _ e)
  have hx:((h.push emptyDict).push (instObj C h.objs.size)).get? (h.objs.size+1)=some (instObj C h.objs.size):=by heap_get
  have t1:Looks (model prog w) ((h.push emptyDict).push (instObj C h.objs.size)) (typeOf (.ref (h.objs.size+1))) (.ref C):=(Looks.ld hx).andThen .now
  have s1:=self.keeps k
  have i1:=hi.keeps k
  have b1:=(hb (.ref (h.objs.size+1))).keeps k
  unfold isInstance callSpecial? specialOf
  refine wpG_bindA (wpAny_bind (t1.at (s1.at ?_)))
  simp only [Bool.not_true,Bool.false_eq_true,if_false]
  refine wpG_bind (wpG_holding (wpG_bindA (wpAny_bind (t1.at (i1.at ?_)))))
  dsimp only
  refine wpG_holding (wpG_bindA (b1.at ?_))
  dsimp only
  refine wpG_bind (wpG_call ?_)
  refine codeG_mono hq fun r s' z=>?_
  rcases r with e|(v|_|_|_) <;> first|exact z|exact z.elim|skip
  obtain ⟨rfl,z⟩:=z
  refine wpG_pure ?_
  dsimp only
  rw [if_neg (by decide)]
  exact wpG_of (wpAny_pure z)
end
section
variable {prog:Program} {w:World} {A:Around} {K:Frag} {C x:Addr} {s:Shared} {h₀:Heap} {L:Addr} {m:Str→Option Value} {news:List (Addr×Obj)} {R:Result→Shared→Prop}
theorem makeG {fI:Addr} (F:Fr h₀ L s.heap m) (N:News h₀ L s.heap news) (X:K.In s.heap) (hm:makesIn K C=true)
    (hi:findIn K (.ref C) "__init__" = some (some (.ref fI))) (hf:typeIn K (.ref fI)=some (.type "function"))
    (h:∀ x dx h',Fr h₀ L h' m→News h₀ L h' ((x,instObj C dx)::(dx,dictOf [] 0)::news)→(∀ p∈news,p.1<dx)→dx<x→(∀ c o,s.heap.get? c=some o→h'.get? c=some o∧@LT.lt Nat _ c dx) →
      codeG (model prog w) (A.under (.builtin "type.__call__" ⟨[.ref C],[]⟩)) (.call (.ref fI) ⟨[.ref x],[]⟩) (InitBack x R) {s with heap:=h'}) :
    codeG (model prog w) A (.call (.ref C) ⟨[],[]⟩) R s:=by
  obtain ⟨hh,g,d,t,os⟩:=s
  refine makeG_core (makes_of X hm) (looks_findIn X hi) (fun self=>bind_fn X self hf) rfl (h _ hh.objs.size _ ((F.push _).push _) ?_ (fun p hp=>Heap.lt_size (N p hp).1) (Nat.lt_succ_self _) (fun c o e=>⟨Heap.get?_push_of_some _ (Heap.get?_push_of_some _ e),Heap.lt_size e⟩))
  have:=(N.push F emptyDict).push (F.push _) (instObj C hh.objs.size)
  rw [Heap.size_push] at this
  exact this
end
end
section
set_option Elab.async false
set_option maxRecDepth 100000
set_option linter.unusedVariables false
set_option maxHeartbeats 4000000
def mAt (ps:List (Str×Value)) (m:Str→Option Value) (y:Str):Option Value:=match ps.lookup y with
  | some v=>some v
  | none=>m y
section
section
variable {prog:Program} {w:World} {A:Around} {E:Value→Shared→Prop} {s:Shared} {env:Env} {h₀:Heap} {x:Str} {body:List Stmt} {Q:Flow→Shared→Prop}
abbrev LedJ:=List (Str×Value)→List (Addr×Obj)→Prop
def LedEnd (h₀:Heap) (L:Addr) (x:Str) (m₀:Str→Option Value) (its:List (Addr×Obj)) (wr:List Addr) (J:LedJ) (s₁ s₂:Shared):Prop :=
  ∃ h' tk' m' big nx' ps',s₂={s₁ with heap:=h',toks:=tk'}∧Fr h₀ L h' m'∧News h₀ L h' big∧(∀ p∈its,p∈big)∧(∀ p∈nx',p∈big)∧(∀ p∈nx',p.1∉wr)∧(∀ y,y≠x→m' y=mAt ps' m₀ y)∧J ps' nx'
def LedTurn (h₀:Heap) (L:Addr) (x:Str) (m₀:Str→Option Value) (its:List (Addr×Obj)) (wr:List Addr) (J:LedJ) (s₁:Shared) (Q:Flow→Shared→Prop) (f:Flow) (s₂:Shared):Prop :=
  match f with
  | .ret v=>Q (.ret v) s₂
  | .brk=>Q .next s₂
  | _=>LedEnd h₀ L x m₀ its wr J s₁ s₂
end
abbrev walk_led_S {prog:Program} {w:World} {A:Around} {E:Value→Shared→Prop} {s:Shared} {env:Env} {h₀:Heap} {x:Str} {body:List Stmt} {Q:Flow→Shared→Prop} {I:Addr} {fp wr:List Addr} {n:Nat} {P:Nat→Value→Prop} {St:Nat→Heap→Prop} {m₀:Str→Option Value} {nx₀ cst:List (Addr×Obj)}:Prop:=∀ (J:Nat→LedJ) (W:Walks prog w A I fp wr n P St) (hLf:env.locals∉fp) (hwr:∀ b∈wr,h₀.get? b=none) (hfp:∀ b∈fp,b∈wr∨(∃ o,h₀.get? b=some o)∨∃ o,(b,o)∈cst) (hSt:∀ i h,St i h→∀ b∈wr,∃ o,h.get? b=some o) (hcst:∀ i ps nx,J i ps nx→∀ p∈cst,p∈nx) (st:St 0 s.heap) (F:Fr h₀ env.locals s.heap m₀) (N:News h₀ env.locals s.heap nx₀) (hnw:∀ p∈nx₀,p.1∉wr) (hj:J 0 [] nx₀) (turn:∀ i v ps nx its h tk,i<n→P i v→its.map (·.1)=wr→(∀ p∈nx,p.1∉wr)→J i ps nx→Fr h₀ env.locals h (fun y=>if y=x then some v else mAt ps m₀ y)→News h₀ env.locals h (its++nx) →
      wpAny (model prog w) A (execs body env) (LedTurn h₀ env.locals x m₀ its wr (J (i+1)) {s with heap:=h,toks:=tk} Q) E {s with heap:=h,toks:=tk}) (done:∀ (u:Str→Option Value) ps nx h tk,J n ps nx→Fr h₀ env.locals h (fun y=>if y=x then u y else mAt ps m₀ y)→News h₀ env.locals h nx→Q .next {s with heap:=h,toks:=tk}),
    LoopAtV prog w A h₀ env x body Q E (.ref I) s
namespace walk_led_E
noncomputable section
def ep:=U fun prog=>U fun w=>U fun A=>U fun E=>U fun s=>U fun env=>U fun h₀=>U fun x=>U fun body=>U fun Q=>U fun I=>U fun fp=>U fun wr=>U fun n=>U fun P=>U fun St=>U fun m₀=>U fun nx₀=>fun cst=>¬ @walk_led_S prog w A E s env h₀ x body Q I fp wr n P St m₀ nx₀ cst
def ec:=pick ep (df,sW,callerA,df,{},df,{},df,[],df,0,[],[],0,df,df,df,[],[])
@[irreducible] def prog:=ec.1
@[irreducible] def w:=ec.2.1
@[irreducible] def A:=ec.2.2.1
@[irreducible] def E:=ec.2.2.2.1
@[irreducible] def s:=ec.2.2.2.2.1
@[irreducible] def env:=ec.2.2.2.2.2.1
@[irreducible] def h₀:=ec.2.2.2.2.2.2.1
def ec1:=ec.2.2.2.2.2.2.2
@[irreducible] def x:=ec1.1
@[irreducible] def body:=ec1.2.1
@[irreducible] def Q:=ec1.2.2.1
@[irreducible] def I:=ec1.2.2.2.1
@[irreducible] def fp:=ec1.2.2.2.2.1
@[irreducible] def wr:=ec1.2.2.2.2.2.1
@[irreducible] def n:=ec1.2.2.2.2.2.2.1
def ec2:=ec1.2.2.2.2.2.2.2
@[irreducible] def P:=ec2.1
@[irreducible] def St:=ec2.2.1
@[irreducible] def m₀:=ec2.2.2.1
@[irreducible] def nx₀:=ec2.2.2.2.1
@[irreducible] def cst:=ec2.2.2.2.2
theorem ek:@walk_led_S prog w A E s env h₀ x body Q I fp wr n P St m₀ nx₀ cst:=by
  intro J W hLf hwr hfp hSt hcst st F N hnw hj turn done
  refine ⟨I,fp,wr,n,P,St,m₀,nx₀,fun i m nx=>∃ ps,(∀ y,y≠x→m y=mAt ps m₀ y)∧J i ps nx,rfl,W,hLf,hwr,hnw,st,F,N,⟨[],fun _ _=>rfl,hj⟩, ?_, ?_⟩
  · rintro i v m₁ nx s₁ own ⟨h,tk,rfl⟩ hi hP ⟨ps,hm,hJ⟩ hnx hown hget hall st₁ F₁ N₁
    have e1:(fun y=>if y=x then some v else m₁ y)=fun y=>if y=x then some v else mAt ps m₀ y:=by
      funext y
      by_cases q:y=x
      · simp only [if_pos q]
      · simp only [if_neg q];exact hm y q
    rw [e1] at F₁
    let its:List (Addr×Obj):=wr.filterMap fun b=>(h.get? b).map fun o=>(b,o)
    have hits:its.map (·.1)=wr:=by
      have key:∀ l:List Addr,(∀ b∈l,∃ o,h.get? b=some o)→(l.filterMap fun b=>(h.get? b).map fun o=>(b,o)).map (·.1)=l:=by
        intro l
        induction l with
        | nil=>intro _;rfl
        | cons b r ih =>
          intro hb
          obtain ⟨o,ho⟩:=hb b (.head _)
          rw [List.filterMap_cons_some (b:=(b,o)) (by simp [ho]),List.map_cons,ih fun c hc=>hb c (.tail _ hc)]
      exact key wr (hSt _ _ st₁)
    have itsm:∀ p∈its,p.1∈wr∧h.get? p.1=some p.2:=by
      intro p hp
      obtain ⟨b,hb,e⟩:=List.mem_filterMap.mp hp
      cases ho:h.get? b with
      | none=>rw [ho] at e;simp at e
      | some o =>
        rw [ho] at e
        have:(b,o)=p:=by simpa using e
        subst this
        exact ⟨hb,ho⟩
    have N₂:News h₀ env.locals h (its++nx):=by
      intro p hp
      rcases List.mem_append.mp hp with hp|hp
      · obtain ⟨a,b⟩:=itsm p hp
        exact ⟨b,fun e=>hLf (e ▸ W.sub _ a),hwr _ a⟩
      · exact N₁ p (List.mem_append_right _ hp)
    refine wpAny_mono (turn i v ps nx its h tk hi hP hits hnx hJ F₁ N₂) (fun f s₂ p=>?_) fun _ _ e=>e
    have fin:LedEnd h₀ env.locals x m₀ its wr (J (i+1)) {s with heap:=h,toks:=tk} s₂→LoopStepU h₀ env.locals wr own (fun m nx=>∃ ps,(∀ y,y≠x→m y=mAt ps m₀ y)∧J (i+1) ps nx) {s with heap:=h,toks:=tk} .next s₂:=by
      rintro ⟨h',tk',m',big,nx',ps',e,F',N',hb1,hb2,hw',hm',hJ'⟩
      refine ⟨rfl,h',tk',m',nx',e,F',fun p hp=>?_,hw',ps',hm',hJ'⟩
      rcases List.mem_append.mp hp with hp|hp
      · have g1:=hget p hp
        rcases hfp _ (hown p hp) with q|⟨o,q⟩|⟨o,q⟩
        · have:p∈its:=List.mem_filterMap.mpr ⟨p.1,q,by rw [show h.get? p.1=some p.2 from g1];rfl⟩
          exact N' p (hb1 p this)
        · have:=(N₁ p (List.mem_append_left _ hp)).2.2
          rw [q] at this;cases this
        · have h1:=(N₁ _ (List.mem_append_right _ (hcst _ _ _ hJ _ q))).1
          have:o=p.2:=by
            have h1':h.get? p.1=some o:=h1
            have g1':h.get? p.1=some p.2:=g1
            rw [g1'] at h1';exact (Option.some.inj h1').symm
          subst this
          exact N' p (hb2 p (hcst _ _ _ hJ' _ q))
      · exact N' p (hb2 p hp)
    cases f with
    | ret v=>exact .ret p
    | brk=>exact .brk p
    | next=>exact .next (fin p)
    | cont=>exact .cont (fin p)
  · rintro h' tk m' nx' F' N' _ ⟨ps,hm,hJ⟩
    refine done m' ps nx' h' tk hJ ?_ N'
    have:(fun y=>if y=x then m' y else mAt ps m₀ y)=m':=by
      funext y
      by_cases q:y=x
      · simp only [if_pos q]
      · simp only [if_neg q];exact (hm y q).symm
    rw [this];exact F'
end
end walk_led_E
theorem walk_led {prog:Program} {w:World} {A:Around} {E:Value→Shared→Prop} {s:Shared} {env:Env} {h₀:Heap} {x:Str} {body:List Stmt} {Q:Flow→Shared→Prop} {I:Addr} {fp wr:List Addr} {n:Nat} {P:Nat→Value→Prop} {St:Nat→Heap→Prop} {m₀:Str→Option Value} {nx₀ cst:List (Addr×Obj)}:@walk_led_S prog w A E s env h₀ x body Q I fp wr n P St m₀ nx₀ cst:=@Classical.byContradiction _ fun h=>pick_all (P:=walk_led_E.ep) (by with_unfolding_all exact fun k=>k @walk_led_E.ek) (prog,w,A,E,s,env,h₀,x,body,Q,I,fp,wr,n,P,St,m₀,nx₀,cst) h
section
variable {prog:Program} {w:World} {A:Around} {E:Value→Shared→Prop} {s:Shared} {env:Env} {h₀:Heap} {x:Str} {body:List Stmt} {Q:Flow→Shared→Prop}
def NeAll (a:Addr):List (Addr×Obj)→Prop
  | []=>True
  | p::r=>@Ne Nat p.1 a∧NeAll a r
theorem neAll_of {a:Addr} {l:List (Addr×Obj)}:(∀ p∈l,p.1∉[a])→NeAll a l:=by
  induction l with
  | nil=>exact fun _=>True.intro
  | cons p r ih=>exact fun h=>⟨fun e=>h p (.head _) (List.mem_singleton.mpr e),ih fun q hq=>h q (.tail _ hq)⟩
theorem neAll_to {a:Addr} {l:List (Addr×Obj)}:NeAll a l→∀ p∈l,p.1∉[a]:=by
  induction l with
  | nil=>exact fun _ _ h=>nomatch h
  | cons q r ih =>
    intro h p hp
    rcases List.mem_cons.mp hp with e|hp
    · rw [e];exact fun e=>h.1 (List.mem_singleton.mp e)
    · exact ih h.2 p hp
theorem its_one {its:List (Addr×Obj)} {I:Addr} (h:its.map (·.1)=[I]):∃ o,its=[(I,o)]:=by
  cases its with
  | nil=>cases h
  | cons p r =>
    cases r with
    | nil =>
      obtain ⟨a,o⟩:=p
      have:a=I:=(List.cons.inj h).1
      exact ⟨o,by rw [this]⟩
    | cons q r=>cases (List.cons.inj h).2
theorem mAt_nil (m:Str→Option Value) (y:Str):mAt [] m y=m y:=rfl
theorem LedTurn.next1 {L I:Addr} {oI:Obj} {m₀ m':Str→Option Value} {J:LedJ} {s₁:Shared} {h':Heap} {tk':Nat} {big nx':List (Addr×Obj)} {ps':List (Str×Value)} (F:Fr h₀ L h' m') (N:News h₀ L h' big) (hI:(I,oI)∈big) (hJ:J ps' nx') (hn:∀ p∈nx',p∈big) (ha:NeAll I nx') (hm:∀ y,y≠x→m' y=mAt ps' m₀ y) :
    LedTurn h₀ L x m₀ [(I,oI)] [I] J s₁ Q .next {s₁ with heap:=h',toks:=tk'} :=
  ⟨h',tk',m',big,nx',ps',rfl,F,N,fun p hp=>by rw [List.mem_singleton.mp hp];exact hI,hn,neAll_to ha,hm,hJ⟩
theorem turnA {L I a b c:Addr} {oI oa ob oc:Obj} {m₀ m':Str→Option Value} {J:LedJ} {s₁:Shared} {h':Heap} {tk':Nat} {ps':List (Str×Value)} (F:Fr h₀ L h' m') (N:News h₀ L h' [(a,oa),(b,ob),(I,oI),(c,oc)])
    (hJ:J ps' [(c,oc),(a,oa),(b,ob)]) (hc:@Ne Nat c I) (ha:@Ne Nat a I) (hb:@Ne Nat b I) (hm:∀ y,y≠x→m' y=mAt ps' m₀ y) :
    LedTurn h₀ L x m₀ [(I,oI)] [I] J s₁ Q .next {s₁ with heap:=h',toks:=tk'} :=
  LedTurn.next1 F N (by simp) hJ (by simp) ⟨hc,ha,hb,True.intro⟩ hm
theorem turnB {L I a b c:Addr} {oI oa ob oc:Obj} {m₀ m':Str→Option Value} {J:LedJ} {s₁:Shared} {h':Heap} {tk':Nat} {ps':List (Str×Value)} (F:Fr h₀ L h' m') (N:News h₀ L h' [(I,oI),(c,oc),(a,oa),(b,ob)])
    (hJ:J ps' [(c,oc),(a,oa),(b,ob)]) (hc:@Ne Nat c I) (ha:@Ne Nat a I) (hb:@Ne Nat b I) (hm:∀ y,y≠x→m' y=mAt ps' m₀ y) :
    LedTurn h₀ L x m₀ [(I,oI)] [I] J s₁ Q .next {s₁ with heap:=h',toks:=tk'} :=
  LedTurn.next1 F N (by simp) hJ (by simp) ⟨hc,ha,hb,True.intro⟩ hm
theorem range_led {r:Addr} {a₀ b₀:Int} {t₀ u₀ v₀:Tok} {n:Nat} {m₀:Str→Option Value} {news nx₀:List (Addr×Obj)} (J:Nat→LedJ)
    (hh:A.handled=none) (hr:IsRange s.heap r a₀ b₀ 1 t₀ u₀ v₀) (hsmall:Builtin.Range.small a₀ b₀ 1=true) (hsz:Builtin.Range.rangeSize a₀ b₀ 1=(n:Int)) (F:Fr h₀ env.locals s.heap m₀) (N:News h₀ env.locals s.heap news)
    (hj:J 0 [] nx₀) (hn:∀ p∈nx₀,p∈news)
    (turn:∀ (i:Nat) t ps nx I oI h tk,i<n→NeAll I nx→J i ps nx→Fr h₀ env.locals h (fun y=>if y=x then some (.int (a₀+i) t) else mAt ps m₀ y)→News h₀ env.locals h ((I,oI)::nx) →
      wpAny (model prog w) A (execs body env) (LedTurn h₀ env.locals x m₀ [(I,oI)] [I] (J (i+1)) {s with heap:=h,toks:=tk} Q) E {s with heap:=h,toks:=tk})
    (done:∀ (u:Str→Option Value) ps nx h tk,J n ps nx→Fr h₀ env.locals h (fun y=>if y=x then u y else mAt ps m₀ y)→News h₀ env.locals h nx→Q .next {s with heap:=h,toks:=tk}) :
    wpAny (model prog w) A (pyIter (.ref r)) (fun it s₂=>LoopAtV prog w A h₀ env x body Q E it s₂) E s:=by
  refine wpAny_pyIter_range hr hsmall ?_
  refine walk_led (cst:=[]) J (Walks.range hh _ a₀ 1 n) ?_ ?_ ?_ ?_ ?_ ?_ (F.push _) (fun p hp=>⟨Heap.get?_push_of_some _ (N p (hn p hp)).1,(N p (hn p hp)).2⟩) ?_ hj ?_ ?_
  · intro hm
    exact absurd F.ns.lt ((List.mem_singleton.mp hm) ▸ Nat.lt_irrefl _)
  · intro b hb
    rw [List.mem_singleton.mp hb]
    exact next_is_new F
  · intro b hb
    exact .inl hb
  · intro i h hi b hb
    rw [List.mem_singleton.mp hb]
    exact ⟨_,hi⟩
  · intro _ _ _ _ p hp
    cases hp
  · show IsRangeIter _ _ _ _ _
    rw [hsz]
    simpa using Heap.get?_push_size _ rfl
  · intro p hp hI
    exact absurd (Heap.lt_size (N p (hn p hp)).1) ((List.mem_singleton.mp hI) ▸ Nat.lt_irrefl _)
  · rintro i v ps nx its h tk hi ⟨t,rfl⟩ hits hnx hJ F₁ N₁
    obtain ⟨oI,rfl⟩:=its_one hits
    have e1:a₀+(i:Int)*1=a₀+(i:Int):=by omega
    rw [e1] at F₁
    exact turn i t ps nx _ oI h tk hi (neAll_of hnx) hJ F₁ N₁
  · intro u ps nx h tk hJ F₁ N₁
    exact done u ps nx h tk hJ F₁ N₁
end
end
end
section
set_option Elab.async false
set_option maxRecDepth 100000
set_option linter.unusedVariables false
set_option maxHeartbeats 4000000
def oAt (ps:List (Str×Option Value)) (m:Str→Option Value) (y:Str):Option Value:=match ps.lookup y with
  | some v=>v
  | none=>m y
section
variable {prog:Program} {w:World} {A:Around} {E:Value→Shared→Prop} {s:Shared} {env:Env} {h₀:Heap} {x:Str} {body:List Stmt} {Q:Flow→Shared→Prop}
abbrev OedJ:=List (Str×Option Value)→List (Addr×Obj)→Prop
def OedEnd (h₀:Heap) (L:Addr) (x:Str) (m₀:Str→Option Value) (its:List (Addr×Obj)) (wr:List Addr) (J:OedJ) (s₁ s₂:Shared):Prop :=
  ∃ h' tk' m' big nx' ps',s₂={s₁ with heap:=h',toks:=tk'}∧Fr h₀ L h' m'∧News h₀ L h' big∧(∀ p∈its,p∈big)∧(∀ p∈nx',p∈big)∧(∀ p∈nx',p.1∉wr)∧(∀ y,y≠x→m' y=oAt ps' m₀ y)∧J ps' nx'
def OedTurn (h₀:Heap) (L:Addr) (x:Str) (m₀:Str→Option Value) (its:List (Addr×Obj)) (wr:List Addr) (J:OedJ) (s₁:Shared) (Q:Flow→Shared→Prop) (f:Flow) (s₂:Shared):Prop :=
  match f with
  | .ret v=>Q (.ret v) s₂
  | .brk=>Q .next s₂
  | _=>OedEnd h₀ L x m₀ its wr J s₁ s₂
theorem walk_oed {I:Addr} {fp wr:List Addr} {n:Nat} {P:Nat→Value→Prop} {St:Nat→Heap→Prop} {m₀:Str→Option Value} {nx₀ cst:List (Addr×Obj)} (J:Nat→OedJ)
    (W:Walks prog w A I fp wr n P St) (hLf:env.locals∉fp) (hwr:∀ b∈wr,h₀.get? b=none) (hfp:∀ b∈fp,b∈wr∨(∃ o,h₀.get? b=some o)∨∃ o,(b,o)∈cst)
    (hSt:∀ i h,St i h→∀ b∈wr,∃ o,h.get? b=some o) (hcst:∀ i ps nx,J i ps nx→∀ p∈cst,p∈nx) (st:St 0 s.heap) (F:Fr h₀ env.locals s.heap m₀) (N:News h₀ env.locals s.heap nx₀) (hnw:∀ p∈nx₀,p.1∉wr) (ps₀:List (Str×Option Value)) (hps:∀ y,m₀ y=oAt ps₀ m₀ y) (hj:J 0 ps₀ nx₀)
    (turn:∀ i v ps nx its h tk,i<n→P i v→its.map (·.1)=wr→(∀ p∈nx,p.1∉wr)→J i ps nx→Fr h₀ env.locals h (fun y=>if y=x then some v else oAt ps m₀ y)→News h₀ env.locals h (its++nx) →
      wpAny (model prog w) A (execs body env) (OedTurn h₀ env.locals x m₀ its wr (J (i+1)) {s with heap:=h,toks:=tk} Q) E {s with heap:=h,toks:=tk})
    (done:∀ (u:Str→Option Value) ps nx h tk,J n ps nx→Fr h₀ env.locals h (fun y=>if y=x then u y else oAt ps m₀ y)→News h₀ env.locals h nx→Q .next {s with heap:=h,toks:=tk}) :
    LoopAtV prog w A h₀ env x body Q E (.ref I) s:=by
  refine ⟨I,fp,wr,n,P,St,m₀,nx₀,fun i m nx=>∃ ps,(∀ y,y≠x→m y=oAt ps m₀ y)∧J i ps nx,rfl,W,hLf,hwr,hnw,st,F,N,⟨ps₀,fun y _=>hps y,hj⟩, ?_, ?_⟩
  · rintro i v m₁ nx s₁ own ⟨h,tk,rfl⟩ hi hP ⟨ps,hm,hJ⟩ hnx hown hget hall st₁ F₁ N₁
    have e1:(fun y=>if y=x then some v else m₁ y)=fun y=>if y=x then some v else oAt ps m₀ y:=by
      funext y
      by_cases q:y=x
      · simp only [if_pos q]
      · simp only [if_neg q];exact hm y q
    rw [e1] at F₁
    let its:List (Addr×Obj):=wr.filterMap fun b=>(h.get? b).map fun o=>(b,o)
    have hits:its.map (·.1)=wr:=by
      have key:∀ l:List Addr,(∀ b∈l,∃ o,h.get? b=some o)→(l.filterMap fun b=>(h.get? b).map fun o=>(b,o)).map (·.1)=l:=by
        intro l
        induction l with
        | nil=>intro _;rfl
        | cons b r ih =>
          intro hb
          obtain ⟨o,ho⟩:=hb b (.head _)
          rw [List.filterMap_cons_some (b:=(b,o)) (by simp [ho]),List.map_cons,ih fun c hc=>hb c (.tail _ hc)]
      exact key wr (hSt _ _ st₁)
    have itsm:∀ p∈its,p.1∈wr∧h.get? p.1=some p.2:=by
      intro p hp
      obtain ⟨b,hb,e⟩:=List.mem_filterMap.mp hp
      cases ho:h.get? b with
      | none=>rw [ho] at e;simp at e
      | some o =>
        rw [ho] at e
        have:(b,o)=p:=by simpa using e
        subst this
        exact ⟨hb,ho⟩
    have N₂:News h₀ env.locals h (its++nx):=by
      intro p hp
      rcases List.mem_append.mp hp with hp|hp
      · obtain ⟨a,b⟩:=itsm p hp
        exact ⟨b,fun e=>hLf (e ▸ W.sub _ a),hwr _ a⟩
      · exact N₁ p (List.mem_append_right _ hp)
    refine wpAny_mono (turn i v ps nx its h tk hi hP hits hnx hJ F₁ N₂) (fun f s₂ p=>?_) fun _ _ e=>e
    have fin:OedEnd h₀ env.locals x m₀ its wr (J (i+1)) {s with heap:=h,toks:=tk} s₂→LoopStepU h₀ env.locals wr own (fun m nx=>∃ ps,(∀ y,y≠x→m y=oAt ps m₀ y)∧J (i+1) ps nx) {s with heap:=h,toks:=tk} .next s₂:=by
      rintro ⟨h',tk',m',big,nx',ps',e,F',N',hb1,hb2,hw',hm',hJ'⟩
      refine ⟨rfl,h',tk',m',nx',e,F',fun p hp=>?_,hw',ps',hm',hJ'⟩
      rcases List.mem_append.mp hp with hp|hp
      · have g1:=hget p hp
        rcases hfp _ (hown p hp) with q|⟨o,q⟩|⟨o,q⟩
        · have:p∈its:=List.mem_filterMap.mpr ⟨p.1,q,by rw [show h.get? p.1=some p.2 from g1];rfl⟩
          exact N' p (hb1 p this)
        · have:=(N₁ p (List.mem_append_left _ hp)).2.2
          rw [q] at this;cases this
        · have h1:=(N₁ _ (List.mem_append_right _ (hcst _ _ _ hJ _ q))).1
          have:o=p.2:=by
            have h1':h.get? p.1=some o:=h1
            have g1':h.get? p.1=some p.2:=g1
            rw [g1'] at h1';exact (Option.some.inj h1').symm
          subst this
          exact N' p (hb2 p (hcst _ _ _ hJ' _ q))
      · exact N' p (hb2 p hp)
    cases f with
    | ret v=>exact .ret p
    | brk=>exact .brk p
    | next=>exact .next (fin p)
    | cont=>exact .cont (fin p)
  · rintro h' tk m' nx' F' N' _ ⟨ps,hm,hJ⟩
    refine done m' ps nx' h' tk hJ ?_ N'
    have:(fun y=>if y=x then m' y else oAt ps m₀ y)=m':=by
      funext y
      by_cases q:y=x
      · simp only [if_pos q]
      · simp only [if_neg q];exact (hm y q).symm
    rw [this];exact F'
theorem oAt_cons (a:Str) (v:Option Value) (r:List (Str×Option Value)) (m:Str→Option Value) (y:Str):oAt ((a,v)::r) m y=if y=a then v else oAt r m y:=by
  unfold oAt
  rw [List.lookup_cons]
  by_cases h:y=a
  · subst h;simp
  · rw [if_neg h,show (y == a)=false from beq_eq_false_iff_ne.mpr h]
def psOf (xs:List Str) (m:Str→Option Value):List (Str×Option Value):=xs.map fun x=>(x,m x)
theorem oAt_psOf (m:Str→Option Value) (y:Str):∀ xs:List Str,m y=oAt (psOf xs m) m y
  | []=>rfl
  | x::r=>by
    show _=oAt ((x,m x)::psOf r m) m y
    rw [oAt_cons]
    by_cases h:y=x
    · rw [if_pos h,h]
    · rw [if_neg h];exact oAt_psOf m y r
theorem oAt_nil (m:Str→Option Value) (y:Str):oAt [] m y=m y:=rfl
theorem OedTurn.next1 {L I:Addr} {oI:Obj} {m₀ m':Str→Option Value} {J:OedJ} {s₁:Shared} {h':Heap} {tk':Nat} {big nx':List (Addr×Obj)} {ps':List (Str×Option Value)} (F:Fr h₀ L h' m') (N:News h₀ L h' big) (hI:(I,oI)∈big) (hJ:J ps' nx') (hn:∀ p∈nx',p∈big) (ha:NeAll I nx') (hm:∀ y,y≠x→m' y=oAt ps' m₀ y) :
    OedTurn h₀ L x m₀ [(I,oI)] [I] J s₁ Q .next {s₁ with heap:=h',toks:=tk'} :=
  ⟨h',tk',m',big,nx',ps',rfl,F,N,fun p hp=>by rw [List.mem_singleton.mp hp];exact hI,hn,neAll_to ha,hm,hJ⟩
theorem range_oed {r:Addr} {a₀ b₀:Int} {t₀ u₀ v₀:Tok} {n:Nat} {m₀:Str→Option Value} {news nx₀:List (Addr×Obj)} (J:Nat→OedJ)
    (hh:A.handled=none) (hr:IsRange s.heap r a₀ b₀ 1 t₀ u₀ v₀) (hsmall:Builtin.Range.small a₀ b₀ 1=true) (hsz:Builtin.Range.rangeSize a₀ b₀ 1=(n:Int)) (F:Fr h₀ env.locals s.heap m₀) (N:News h₀ env.locals s.heap news)
    (ps₀:List (Str×Option Value)) (hps:∀ y,m₀ y=oAt ps₀ m₀ y) (hj:J 0 ps₀ nx₀) (hn:∀ p∈nx₀,p∈news)
    (turn:∀ (i:Nat) t ps nx I oI h tk,i<n→NeAll I nx→J i ps nx→Fr h₀ env.locals h (fun y=>if y=x then some (.int (a₀+i) t) else oAt ps m₀ y)→News h₀ env.locals h ((I,oI)::nx) →
      wpAny (model prog w) A (execs body env) (OedTurn h₀ env.locals x m₀ [(I,oI)] [I] (J (i+1)) {s with heap:=h,toks:=tk} Q) E {s with heap:=h,toks:=tk})
    (done:∀ (u:Str→Option Value) ps nx h tk,J n ps nx→Fr h₀ env.locals h (fun y=>if y=x then u y else oAt ps m₀ y)→News h₀ env.locals h nx→Q .next {s with heap:=h,toks:=tk}) :
    wpAny (model prog w) A (pyIter (.ref r)) (fun it s₂=>LoopAtV prog w A h₀ env x body Q E it s₂) E s:=by
  refine wpAny_pyIter_range hr hsmall ?_
  refine walk_oed (cst:=[]) J (Walks.range hh _ a₀ 1 n) ?_ ?_ ?_ ?_ ?_ ?_ (F.push _) (fun p hp=>⟨Heap.get?_push_of_some _ (N p (hn p hp)).1,(N p (hn p hp)).2⟩) ?_ ps₀ hps hj ?_ ?_
  · intro hm
    exact absurd F.ns.lt ((List.mem_singleton.mp hm) ▸ Nat.lt_irrefl _)
  · intro b hb
    rw [List.mem_singleton.mp hb]
    exact next_is_new F
  · intro b hb
    exact .inl hb
  · intro i h hi b hb
    rw [List.mem_singleton.mp hb]
    exact ⟨_,hi⟩
  · intro _ _ _ _ p hp
    cases hp
  · show IsRangeIter _ _ _ _ _
    rw [hsz]
    simpa using Heap.get?_push_size _ rfl
  · intro p hp hI
    exact absurd (Heap.lt_size (N p (hn p hp)).1) ((List.mem_singleton.mp hI) ▸ Nat.lt_irrefl _)
  · rintro i v ps nx its h tk hi ⟨t,rfl⟩ hits hnx hJ F₁ N₁
    obtain ⟨oI,rfl⟩:=its_one hits
    have e1:a₀+(i:Int)*1=a₀+(i:Int):=by omega
    rw [e1] at F₁
    exact turn i t ps nx _ oI h tk hi (neAll_of hnx) hJ F₁ N₁
  · intro u ps nx h tk hJ F₁ N₁
    exact done u ps nx h tk hJ F₁ N₁
theorem range_oed' {r:Addr} {a₀ b₀:Int} {t₀ u₀ v₀:Tok} {n:Nat} {m₀:Str→Option Value} {news nx₀:List (Addr×Obj)} (J:Nat→OedJ)
    (hh:A.handled=none) (hr:IsRange s.heap r a₀ b₀ 1 t₀ u₀ v₀) (hsmall:Builtin.Range.small a₀ b₀ 1=true) (hsz:Builtin.Range.rangeSize a₀ b₀ 1=(n:Int)) (F:Fr h₀ env.locals s.heap m₀) (N:News h₀ env.locals s.heap news)
    (xs:List Str) (hj:J 0 (psOf xs m₀) nx₀) (hn:∀ p∈nx₀,p∈news)
    (turn:∀ (i:Nat) t ps nx I oI h tk,i<n→NeAll I nx→J i ps nx→Fr h₀ env.locals h (fun y=>if y=x then some (.int (a₀+i) t) else oAt ps m₀ y)→News h₀ env.locals h ((I,oI)::nx) →
      wpAny (model prog w) A (execs body env) (OedTurn h₀ env.locals x m₀ [(I,oI)] [I] (J (i+1)) {s with heap:=h,toks:=tk} Q) E {s with heap:=h,toks:=tk})
    (done:∀ (u:Str→Option Value) ps nx h tk,J n ps nx→Fr h₀ env.locals h (fun y=>if y=x then u y else oAt ps m₀ y)→News h₀ env.locals h nx→Q .next {s with heap:=h,toks:=tk}) :
    wpAny (model prog w) A (pyIter (.ref r)) (fun it s₂=>LoopAtV prog w A h₀ env x body Q E it s₂) E s :=
  range_oed J hh hr hsmall hsz F N (psOf xs m₀) (fun y=>oAt_psOf m₀ y xs) hj hn turn done
end
end
section
set_option Elab.async false
set_option maxRecDepth 100000
set_option linter.unusedVariables false
set_option maxHeartbeats 4000000
set_option pp.deepTerms false
set_option pp.maxSteps 2000
section
section
variable {prog:Program} {w:World} {A:Around} {E:Value→Shared→Prop} {s:Shared} {env:Env} {h₀:Heap} {target:Expr} {body:List Stmt} {Q:Flow→Shared→Prop}
theorem codeG_loop2 {M:Model} {c:Code} {R:Result→Shared→Prop} (hdc:decCode c=false) (hq:c.quiet=true) (I:Nat→Shared→Prop)
    (turn:∀ n s,I n s→wpG M (A.under c) (M.den c)
      (fun fin s'=>match fin with
        | .done f=>R (.ok f) s'
        | .again c'=>(c'=c∧∃ m,m<n∧I m s')∨(c'.quiet=true∧codeG M A c' R s')) (fun e s'=>R (.error e) s') s)
    (n:Nat) (h:I n s):codeG M A c R s:=by
  induction n using Nat.strongRecOn generalizing s with
  | ind n ih =>
    refine codeG_of_tree hdc (wpG_mono (turn n s h) (fun fin s' hf=>?_) fun _ _ h'=>h')
    cases fin with
    | done f=>exact hf
    | again c' =>
      rcases hf with ⟨rfl,m,hm,hI⟩|hf
      · exact ⟨hq,ih m hm hI⟩
      · exact hf
theorem wpG_noted {α:Type} {M:Model} {m:Sem α} {Q:α→Shared→Prop} (h:wpG M A m Q (notedBy M A env E) s):wpG M A (m.onRaise fun x=>do noteFrame x env;theTreesLotGoes x) Q E s :=
  wpG_onRaise (wpG_mono h (fun _ _ q=>q) fun _ _ hx=>wpAny_bind (wpAny_mono hx (fun _ _ e=>wpAny_theTreesLotGoes e) fun _ _ e=>e))
theorem codeG_forLoop {R:Result→Shared→Prop} {it:Value} (I:Nat→Shared→Prop)
    (turn:∀ n s,I n s→wpAny (model prog w) A (pyNext it) (fun r s₁=>match r with
      | none=>R (.ok .next) s₁
      | some v=>wpAny (model prog w) A (letOwnedTupleGo target it v) (fun _ s₁' =>
          wpAny (model prog w) A (assign target env v) (fun _ s₂=>wpG (model prog w) A (execs body env) (fun f s₃=>match f with
            | .next|.cont=>∃ m,m<n∧I m s₃
            | .brk=>R (.ok .next) s₃
            | .ret v=>R (.ok (.ret v)) s₃) (notedBy (model prog w) A env fun e s'=>R (.error e) s') s₂) (notedBy (model prog w) A env fun e s'=>R (.error e) s') s₁') (notedBy (model prog w) A env fun e s'=>R (.error e) s') s₁) (notedBy (model prog w) A env fun e s'=>R (.error e) s') s)
    (n:Nat) (h:I n s):codeG (model prog w) A (.forLoop target it body [] env) R s:=by
  refine codeG_loop2 rfl rfl I (fun n s hI=>?_) n h
  show wpG _ A ((forTurn target it body [] env).onRaise (fun x=>do noteFrame x env;theTreesLotGoes x)) _ _ s
  refine wpG_noted ?_
  simp only [forTurn]
  refine wpG_standAt (wpG_bindA (wpAny_onRaise (wpAny_mono (turn n s hI) (fun r s₁ h₁=>?_) fun _ _ h'=>wpAny_standAt h')))
  cases r with
  | none=>exact wpG_of (wpAny_pure (.inr ⟨rfl,codeG_of (codeAny_block (wpAny_execs_nil h₁))⟩))
  | some v =>
    refine wpG_bindA (wpAny_mono h₁ (fun _ s₁' h₁'=>?_) fun _ _ h'=>h')
    refine wpG_bindA (wpAny_mono h₁' (fun _ s₂ h₂=>wpG_bind (wpG_mono h₂ (fun f s₃ h₃=>?_) fun _ _ h'=>h')) fun _ _ h'=>h')
    cases f with
    | next=>exact wpG_of (wpAny_pure (.inl ⟨rfl,h₃⟩))
    | cont=>exact wpG_of (wpAny_pure (.inl ⟨rfl,h₃⟩))
    | brk=>exact wpG_of (wpAny_pure h₃)
    | ret v=>exact wpG_of (wpAny_pure h₃)
def GEnd (h₀:Heap) (L:Addr) (m₀:Str→Option Value) (its:List (Addr×Obj)) (ws:List Addr) (J:OedJ) (s₁ s₂:Shared):Prop :=
  ∃ h' tk' m' big nx' ps',s₂={s₁ with heap:=h',toks:=tk'}∧Fr h₀ L h' m'∧News h₀ L h' big∧(∀ p∈its,p∈big)∧(∀ p∈nx',p∈big)∧(∀ p∈nx',p.1∉ws)∧(∀ y,m' y=oAt ps' m₀ y)∧J ps' nx'
def GTurn (h₀:Heap) (L:Addr) (m₀:Str→Option Value) (its:List (Addr×Obj)) (ws:List Addr) (J:OedJ) (s₁:Shared) (Q:Flow→Shared→Prop) (f:Flow) (s₂:Shared):Prop :=
  match f with
  | .ret v=>Q (.ret v) s₂
  | .brk=>Q .next s₂
  | _=>GEnd h₀ L m₀ its ws J s₁ s₂
end
abbrev loopG_S {prog:Program} {w:World} {A:Around} {E:Value→Shared→Prop} {s:Shared} {env:Env} {h₀:Heap} {target:Expr} {body:List Stmt} {Q:Flow→Shared→Prop} {I:Addr} {fp wr ws:List Addr} {n:Nat} {P Md:Nat→Value→Heap→Prop} {St:Nat→Heap→Prop} {m₀:Str→Option Value} {nx₀ cst:List (Addr×Obj)} {ps₀:List (Str×Option Value)}:Prop:=∀ (J:Nat→OedJ) (W:KTurns prog w A target I fp wr n P Md St) (hLf:env.locals∉fp) (hws:∀ b∈ws,b∈fp∧h₀.get? b=none) (hwr:∀ b∈wr,b∈ws) (hfp:∀ b∈fp,b∈ws∨(∃ o,h₀.get? b=some o)∨∃ o,(b,o)∈cst) (hSt:∀ i h,St i h→∀ b∈ws,∃ o,h.get? b=some o) (hcst:∀ i ps nx,J i ps nx→∀ p∈cst,p∈nx) (st:St 0 s.heap) (F:Fr h₀ env.locals s.heap m₀) (N:News h₀ env.locals s.heap nx₀) (hnw:∀ p∈nx₀,p.1∉ws) (hps:∀ y,m₀ y=oAt ps₀ m₀ y) (hj:J 0 ps₀ nx₀) (hE:PassesOwn (model prog w) A env E) (turn:∀ i v ps nx its h tk,i<n→P i v h→its.map (·.1)=ws→(∀ p∈nx,p.1∉ws)→J i ps nx→Fr h₀ env.locals h (oAt ps m₀)→News h₀ env.locals h (its++nx) →
      wpAny (model prog w) A (assign target env v) (fun _ s₂=>wpG (model prog w) A (execs body env) (GTurn h₀ env.locals m₀ its ws (J (i+1)) {s with heap:=h,toks:=tk} Q) E s₂) E {s with heap:=h,toks:=tk}) (done:∀ ps nx h tk,J n ps nx→Fr h₀ env.locals h (oAt ps m₀)→News h₀ env.locals h nx→Q .next {s with heap:=h,toks:=tk}),
    codeG (model prog w) A (.forLoop target (.ref I) body [] env) (fun r s'=>match r with|.ok f=>Q f s'|.error e=>cameBackBy (model prog w) A env E e s') s
namespace loopG_E
noncomputable section
def ep:=U fun prog=>U fun w=>U fun A=>U fun E=>U fun s=>U fun env=>U fun h₀=>U fun target=>U fun body=>U fun Q=>U fun I=>U fun fp=>U fun wr=>U fun ws=>U fun n=>U fun P=>U fun Md=>U fun St=>U fun m₀=>U fun nx₀=>U fun cst=>fun ps₀=>¬ @loopG_S prog w A E s env h₀ target body Q I fp wr ws n P Md St m₀ nx₀ cst ps₀
def ec:=pick ep (df,sW,callerA,df,{},df,{},df,[],df,0,[],[],[],0,df,df,df,df,[],[],[])
@[irreducible] def prog:=ec.1
@[irreducible] def w:=ec.2.1
@[irreducible] def A:=ec.2.2.1
@[irreducible] def E:=ec.2.2.2.1
@[irreducible] def s:=ec.2.2.2.2.1
@[irreducible] def env:=ec.2.2.2.2.2.1
@[irreducible] def h₀:=ec.2.2.2.2.2.2.1
def ec1:=ec.2.2.2.2.2.2.2
@[irreducible] def target:=ec1.1
@[irreducible] def body:=ec1.2.1
@[irreducible] def Q:=ec1.2.2.1
@[irreducible] def I:=ec1.2.2.2.1
@[irreducible] def fp:=ec1.2.2.2.2.1
@[irreducible] def wr:=ec1.2.2.2.2.2.1
@[irreducible] def ws:=ec1.2.2.2.2.2.2.1
def ec2:=ec1.2.2.2.2.2.2.2
@[irreducible] def n:=ec2.1
@[irreducible] def P:=ec2.2.1
@[irreducible] def Md:=ec2.2.2.1
@[irreducible] def St:=ec2.2.2.2.1
@[irreducible] def m₀:=ec2.2.2.2.2.1
@[irreducible] def nx₀:=ec2.2.2.2.2.2.1
@[irreducible] def cst:=ec2.2.2.2.2.2.2.1
@[irreducible] def ps₀:=ec2.2.2.2.2.2.2.2
theorem ek:@loopG_S prog w A E s env h₀ target body Q I fp wr ws n P Md St m₀ nx₀ cst ps₀:=by
  intro J W hLf hws hwr hfp hSt hcst st F N hnw hps hj hE turn done
  have hLw:env.locals∉wr:=fun h=>hLf (W.sub _ h)
  have old:∀ b o,h₀.get? b=some o→b∉wr:=fun b o e hb=>by rw [(hws b (hwr b hb)).2] at e;cases e
  refine codeG_forLoop (fun k s'=>∃ h' tk m' ps nx i,s'={s with heap:=h',toks:=tk}∧St i h'∧Fr h₀ env.locals h' m'∧News h₀ env.locals h' nx∧(∀ p∈nx,p.1∉ws)∧(∀ y,m' y=oAt ps m₀ y)∧J i ps nx∧i≤n∧k=n+1 - i) ?_ (n+1)
    ⟨s.heap,s.toks,m₀,ps₀,nx₀,0,rfl,st,F,N,hnw,hps,hj,Nat.zero_le _,rfl⟩
  rintro k s' ⟨h',tk,m',ps,nx,i,rfl,st',F',N',hnw',hm',hJ,hi,rfl⟩
  have em:m'=oAt ps m₀:=funext hm'
  subst em
  have next:∀ h₁:Heap,(∀ b o,b∉wr→h'.get? b=some o→h₁.get? b=some o)→Fr h₀ env.locals h₁ (oAt ps m₀)∧News h₀ env.locals h₁ nx:=fun h₁ hk₁ =>
    ⟨⟨F'.ns.at' fun o e=>hk₁ _ o hLw e,fun b o e=>hk₁ b o (old b o e) (F'.keep b o e),F'.above⟩,fun p hp=>⟨hk₁ _ _ (fun hb=>hnw' p hp (hwr _ hb)) (N' p hp).1,(N' p hp).2⟩⟩
  by_cases hlt:i<n
  · refine W.item i _ _ _ hlt st' fun v h₁ tk₁ hMd hk₁=>?_
    refine W.go i v _ _ _ hMd fun h₂ hP hst₂ hk₂=>?_
    obtain ⟨F₂,N₂⟩:=next h₂ fun b o hb x=>hk₂ b o hb (hk₁ b o hb x)
    let its:List (Addr×Obj):=ws.filterMap fun b=>(h₂.get? b).map fun o=>(b,o)
    have hits:its.map (·.1)=ws:=by
      have key:∀ l:List Addr,(∀ b∈l,∃ o,h₂.get? b=some o)→(l.filterMap fun b=>(h₂.get? b).map fun o=>(b,o)).map (·.1)=l:=by
        intro l
        induction l with
        | nil=>intro _;rfl
        | cons b r ih =>
          intro hb
          obtain ⟨o,ho⟩:=hb b (.head _)
          rw [List.filterMap_cons_some (b:=(b,o)) (by simp [ho]),List.map_cons,ih fun c hc=>hb c (.tail _ hc)]
      exact key ws (hSt _ _ hst₂)
    have itsm:∀ p∈its,p.1∈ws∧h₂.get? p.1=some p.2:=by
      intro p hp
      obtain ⟨b,hb,e⟩:=List.mem_filterMap.mp hp
      cases ho:h₂.get? b with
      | none=>rw [ho] at e;simp at e
      | some o =>
        rw [ho] at e
        have:(b,o)=p:=by simpa using e
        subst this
        exact ⟨hb,ho⟩
    have N₃:News h₀ env.locals h₂ (its++nx):=by
      intro p hp
      rcases List.mem_append.mp hp with hp|hp
      · obtain ⟨a,b⟩:=itsm p hp
        exact ⟨b,fun e=>hLf (e ▸ (hws _ a).1),(hws _ a).2⟩
      · exact N₂ p hp
    refine wpAny_mono (turn i v ps nx its h₂ tk₁ hlt hP hits hnw' hJ F₂ N₃) (fun _ s₂ p=>wpG_mono p (fun f s₃ q=>?_) hE) hE
    have fin:GEnd h₀ env.locals m₀ its ws (J (i+1)) {s with heap:=h₂,toks:=tk₁} s₃→∃ m,m<n+1 - i∧∃ h' tk m' ps nx i',s₃={s with heap:=h',toks:=tk}∧St i' h'∧Fr h₀ env.locals h' m'∧News h₀ env.locals h' nx∧(∀ p∈nx,p.1∉ws)∧(∀ y,m' y=oAt ps m₀ y)∧J i' ps nx∧i'≤n∧m=n+1 - i':=by
      rintro ⟨h₃,tk₃,m₃,big,nx₃,ps₃,e,F₃,N₃',hb1,hb2,hw₃,hm₃,hJ₃⟩
      refine ⟨n+1 - (i+1),by omega,h₃,tk₃,m₃,ps₃,nx₃,i+1,e,W.frame _ _ _ hst₂ fun b hb o x=>?_,F₃,fun p hp=>N₃' p (hb2 p hp),hw₃,hm₃,hJ₃,hlt,rfl⟩
      rcases hfp b hb with q|⟨o',q⟩|⟨o',q⟩
      · have:(b,o)∈its:=List.mem_filterMap.mpr ⟨b,q,by rw [x];rfl⟩
        exact (N₃' _ (hb1 _ this)).1
      · have:=F₂.keep b o' q
        rw [x] at this
        cases this
        exact F₃.keep b o q
      · have h1:h₂.get? b=some o':=(N₃ _ (List.mem_append_right _ (hcst _ _ _ hJ _ q))).1
        rw [x] at h1
        cases h1
        exact (N₃' _ (hb2 _ (hcst _ _ _ hJ₃ _ q))).1
    cases f with
    | ret v=>exact q
    | brk=>exact q
    | next=>exact fin q
    | cont=>exact fin q
  · have hin:i=n:=by omega
    subst hin
    refine W.done _ _ _ st' fun h₁ tk₁ hk₁=>?_
    obtain ⟨F₁,N₁⟩:=next h₁ hk₁
    exact done ps nx h₁ tk₁ hJ F₁ N₁
end
end loopG_E
theorem loopG {prog:Program} {w:World} {A:Around} {E:Value→Shared→Prop} {s:Shared} {env:Env} {h₀:Heap} {target:Expr} {body:List Stmt} {Q:Flow→Shared→Prop} {I:Addr} {fp wr ws:List Addr} {n:Nat} {P Md:Nat→Value→Heap→Prop} {St:Nat→Heap→Prop} {m₀:Str→Option Value} {nx₀ cst:List (Addr×Obj)} {ps₀:List (Str×Option Value)}:@loopG_S prog w A E s env h₀ target body Q I fp wr ws n P Md St m₀ nx₀ cst ps₀:=@Classical.byContradiction _ fun h=>pick_all (P:=loopG_E.ep) (by with_unfolding_all exact fun k=>k @loopG_E.ek) (prog,w,A,E,s,env,h₀,target,body,Q,I,fp,wr,ws,n,P,Md,St,m₀,nx₀,cst,ps₀) h
section
variable {prog:Program} {w:World} {A:Around} {E:Value→Shared→Prop} {s:Shared} {env:Env} {h₀:Heap} {target:Expr} {body:List Stmt} {Q:Flow→Shared→Prop}
theorem ForG {iter:Expr} {pos:Pos}
    (h:wpAny (model prog w) A (eval iter env) (fun x s₁=>wpAny (model prog w) A (pyIter x) (fun it s₂ =>
      codeG (model prog w) A (.forLoop target it body [] env) (fun r s'=>match r with|.ok f=>Q f s'|.error e=>cameBackBy (model prog w) A env E e s') s₂) E s₁) E s)
    (hs:∀ x,foldedSetIterable iter env x=pure x:=by intro _;rfl) :
    wpG (model prog w) A (exec (.For target iter body [] pos) env) Q E s:=by
  rw [exec_For]
  refine wpG_standAt (wpG_bindA (wpAny_mono h (fun x s₁ h₁=>wpG_bindA (wpAny_of_eq (hs x) (wpG_standAt (wpG_bindA (wpAny_holding (wpAny_mono h₁ (fun it s₂ h₂=>?_) fun _ _ x=>x)))))) fun _ _ x=>x))
  unfold runOwn
  exact wpG_onRaise (wpG_run h₂)
end
end
end
section
set_option Elab.async false
set_option maxRecDepth 100000
set_option maxHeartbeats 4000000
set_option linter.unusedVariables false
abbrev bmE:List Value:=[.type "Exception",.type "BaseException",.type "object"]
abbrev ownExc (nm q:Str) (C D N:Addr) (bs:List Value) (hdct:Bool) (sn:List Str) (sub:List Value) (ab:Bool) (col:Option Bool) (dd:Option Addr) (k0 k1 k2 k3 k5:Option Value):Obj :=
  excClassObj nm q C N bs (.ref D::bmE) hdct sn sub ab col dd k0 k1 k2 k3 k5 "Exception.__new__"
abbrev excObj (C:Addr) (dx:Option Addr) (vs:Array Value):Obj:={cls:=.ref C,dict:=dx,data:=.fields vs}
section
variable {prog:Program} {w:World} {A:Around} {E:Value→Shared→Prop} {R:Result→Shared→Prop} {h:Heap} {g:Array GenState} {d:Drawn} {t:Nat} {os:OsState} {M:Model}
variable {nm q:Str} {C D N:Addr} {bs:List Value} {hdct:Bool} {sn:List Str} {sub:List Value} {ab:Bool} {col:Option Bool} {dd:Option Addr} {k0 k1 k2 k3 k5:Option Value}
theorem has_own {x:Value} {l:List Value} {b:Bool} (hx:∀ a,x≠.ref a) (hl:l.contains x=b):(Value.ref C::Value.ref D::l).contains x=b:=by
  rw [List.contains_cons,List.contains_cons,hl]
  have h1:∀ a,(x == Value.ref a)=false:=fun a=>by
    cases e:x == Value.ref a with
    | false=>rfl
    | true=>exact absurd (eq_of_beq e) (hx a)
  rw [h1,h1,Bool.false_or,Bool.false_or]
theorem exc_check_new {rest:List Value} {Q:Unit→Shared→Prop} (hC:h.get? C=some (ownExc nm q C D N bs hdct sn sub ab col dd k0 k1 k2 k3 k5))
    (hq:Q () ⟨h,g,d,t,os⟩):wpAny M A (checkBuiltinCall "Exception.__new__" ⟨.ref C::rest,[]⟩) Q E ⟨h,g,d,t,os⟩:=by
  have F:=PySem.F.excBase_Exception
  have hcont:(Value.ref C::Value.ref D::bmE).contains (.type "Exception")=true:=has_own (fun _ e=>nomatch e) (by decide)
  have hstar:=F.noStar
  simp only [checkBuiltinCall,F.newKind,F.newSplit,F.newRow]
  repeat (first|refine wpAny_loadPart_at hC ?_|(refine wpAny_isSubtype_exc hC ?_;rw [hcont])|refine wpAny_staticBase_exc hC ?_|refine wpAny_madeBy_exc hC ?_|simp only [bne_self_eq_false,Bool.false_eq_true,if_false]|wp_step)
  exact hq
theorem exc_new {rest:List Value} (hC:h.get? C=some (ownExc nm q C D N bs hdct sn sub ab col dd k0 k1 k2 k3 k5))
    (hq:R (.ok (.ret (.ref (h.objs.size+1)))) ⟨(h.push {cls:=.type "tuple",data:=.seq rest.toArray}).push (excObj C none #[.ref h.objs.size,.none,.none,.none,.bool false,.none]),g,d,t,os⟩) (hrest:rest.length≤sizeLine) :
    codeAny (model prog w) A (.builtin "Exception.__new__" ⟨.ref C::rest,[]⟩) R ⟨h,g,d,t,os⟩:=by
  have F:=PySem.F.excBase_Exception
  have hends:=F.ends
  have hcB:(Value.ref C::Value.ref D::bmE).contains (.type "Exception")=true:=has_own (fun _ e=>nomatch e) (by decide)
  have hcA:(Value.ref C::Value.ref D::bmE).contains (.type "AttributeError")=false:=has_own (fun _ e=>nomatch e) (by decide)
  have hcN:(Value.ref C::Value.ref D::bmE).contains (.type "NameError")=false:=has_own (fun _ e=>nomatch e) (by decide)
  refine codeAny_builtinAt F.entry ?_
  unfold Builtin.«BaseException.__new__»
  refine PySem.wpAt_bind ?_
  show PySem.wpAt _ _ _ (stack >>= _) _ _ _
  refine PySem.wpAt_bind (PySem.wpAt_stack fun p below=>PySem.wpAt_of_wpAny ?_)
  wp_walk
  refine PySem.wpAt_of_wpAny ?_
  rw [F.owner]
  repeat (first|with_reducible refine wpAny_madeHere_exc F.canon hC ?_|with_reducible refine wpAny_loadPart_at hC ?_|(with_reducible refine wpAny_isSubtype_exc hC ?_;first|rw [hcB]|rw [hcA]|rw [hcN])|wp_step)
  show R _ _
  rw [Heap.size_push]
  exact hq
theorem exc_make {rest:List Value} {K:Frag} {fI:Addr} (X:K.In h) (hC:h.get? C=some (ownExc nm q C D N bs hdct sn sub ab col dd k0 k1 k2 k3 k5)) (hi:findIn K (.ref C) "__init__" = some (some (.ref fI))) (hf:typeIn K (.ref fI)=some (.type "function"))
    (hrest:rest.length≤sizeLine)
    (hq:codeAny (model prog w) (A.under (.builtin "type.__call__" ⟨.ref C::rest,[]⟩)) (.call (.ref fI) ⟨.ref (h.objs.size+1)::rest,[]⟩) (InitBack (h.objs.size+1) R)
      ⟨(h.push {cls:=.type "tuple",data:=.seq rest.toArray}).push (excObj C none #[.ref h.objs.size,.none,.none,.none,.bool false,.none]),g,d,t,os⟩) :
    codeAny (model prog w) A (.call (.ref C) ⟨rest,[]⟩) R ⟨h,g,d,t,os⟩:=by
  have F:=PySem.F.excBase_Exception
  have f1:=tc_lookup
  have f2:=tc_bind (.ref C)
  have hT:(⟨h,g,d,t,os⟩:Shared).TypeIs (.ref C) "type":=⟨_,hC,rfl⟩
  refine codeAny_of_tree ?_
  show wpAny _ _ (callAny (.ref C) _) _ _ _
  repeat (any_goals (first|assumption|with_reducible refine wpAny_loadPart_at hC ?_|wp_step))
  refine ⟨rfl, ?_⟩
  refine codeAny_call_builtin_at (Code.quiet_builtin _ (by decide +kernel)) entry_typeCall (wpAny_check_type_call_sub hC ?_)
  have k:∀ b o,h.get? b=some o→((h.push {cls:=.type "tuple",data:=.seq rest.toArray}).push (excObj C none #[.ref h.objs.size,.none,.none,.none,.bool false,.none])).get? b=some o:=fun b o e=>Heap.get?_push_of_some _ (Heap.get?_push_of_some _ e)
  have hx:((h.push {cls:=.type "tuple",data:=.seq rest.toArray}).push (excObj C none #[.ref h.objs.size,.none,.none,.none,.bool false,.none])).get? (h.objs.size+1)=some (excObj C none #[.ref h.objs.size,.none,.none,.none,.bool false,.none]):=by heap_get
  repeat (first|with_reducible refine wpAny_loadPart_at hC ?_|with_reducible refine wpAny_madeBy_exc hC ?_|wp_step)
  refine codeAny_call_builtin_code (Code.quiet_builtin _ F.quiet) (exc_check_new hC ?_)
  refine exc_new (rest:=rest) hC ?_ hrest
  show wpAny _ _ _ _ _ _
  have hC₁:=k _ _ hC
  have i1:=(looks_findIn (M:=model prog w) X hi).keeps k
  have b1:=(bind_fn (M:=model prog w) X (.ref (h.objs.size+1)) hf).keeps k
  have hcC:(Value.ref C::Value.ref D::bmE).contains (.ref C)=true:=by simp
  unfold isInstance
  repeat (first|with_reducible refine wpAny_loadPart_at hx ?_|(with_reducible refine wpAny_isSubtype_exc hC₁ ?_;rw [hcC])|wp_step)
  show wpAny _ _ (typeLookup (.ref C) _) _ _ _
  refine Looks.at i1 ?_
  repeat (first|with_reducible refine wpAny_call ?_|lk)
  refine codeAny_mono hq fun r s' z=>?_
  rcases r with e|(v|_|_|_) <;> first|exact z|exact z.elim|skip
  obtain ⟨rfl,z⟩:=z
  exact wpAny_pure (wpAny_pure z)
end
end
section
set_option Elab.async false
set_option maxRecDepth 100000
set_option maxHeartbeats 4000000
set_option linter.unusedVariables false
theorem slot_wd_get:Slot "wrapper_descriptor" "__get__" "wrapper_descriptor.__get__":=.of (owner:="wrapper_descriptor") (n:="__get__") (by rw [typeLookup_type,builtinLookup_eq_fast];kernel_rfl) (by decide +kernel) (by decide +kernel) (by decide +kernel)
  (by first|exact .inl (by decide +kernel)|exact .inr (by decide +kernel)) (by rw [isSubtype_type];kernel_rfl)
theorem entry_wd_get:entryFor table "wrapper_descriptor.__get__" = some Builtin.«wrapper_descriptor.__get__»:=entryFor_of_tree (by kernel_rfl)
theorem args_wd_get (a b c:Value):argsOk "wrapper_descriptor.__get__" ⟨[a,b,c],[]⟩:=by unfold argsOk;kernel_rfl
theorem own_exc_init:classOwn (.type "Exception") "__init__" = pure (some (.builtin "Exception.__init__")):=by kernel_rfl
theorem typeOf_exc_init:typeOf (.builtin "Exception.__init__")=pure (.type "wrapper_descriptor"):=by kernel_rfl
abbrev mwObj (b:String) (x:Addr):Obj:={cls:=.type "method-wrapper",data:=.fields #[.builtin b,.ref x]}
section
variable {prog:Program} {w:World} {A:Around} {E:Value→Shared→Prop} {R:Result→Shared→Prop} {h:Heap} {g:Array GenState} {d:Drawn} {t:Nat} {os:OsState} {M:Model}
variable {nm q:Str} {C D N:Addr} {bs:List Value} {hdct:Bool} {sn:List Str} {sub:List Value} {ab:Bool} {col:Option Bool} {dd:Option Addr} {k0 k1 k2 k3 k5:Option Value}
theorem wd_get {x:Addr} {vs:Array Value} {dx:Option Addr} {Q:Fin→Shared→Prop} (hC:h.get? C=some (ownExc nm q C D N bs hdct sn sub ab col dd k0 k1 k2 k3 k5)) (hx:h.get? x=some (excObj C dx vs))
    (hq:Q (.done (.ret (.ref h.objs.size))) ⟨h.push (mwObj "Exception.__init__" x),g,d,t,os⟩) :
    wpAny (model prog w) A (Builtin.«wrapper_descriptor.__get__» ⟨[.builtin "Exception.__init__",.ref x,.ref C],[]⟩) Q E ⟨h,g,d,t,os⟩:=by
  have hcont:(Value.ref C::Value.ref D::bmE).contains (.type "Exception")=true:=has_own (fun _ e=>nomatch e) (by decide)
  unfold Builtin.«wrapper_descriptor.__get__»
  repeat (first|(with_reducible refine wpAny_loadPart_at hx ?_)|(with_reducible refine wpAny_isSubtype_exc hC ?_;rw [hcont])|wp_step)
  show wpAny _ _ (isSubtype (.ref C) _) _ _ _
  rw [show ".".intercalate ("Exception.__init__".cutAt '.').dropLast="Exception" from by decide +kernel]
  refine wpAny_isSubtype_exc hC ?_
  rw [hcont]
  unfold newFields
  repeat (first|(with_reducible refine wpAny_newObj_type ?_ (by size_fits))|wp_step)
  exact hq
theorem super_ga {so x:Addr} {vs:Array Value} {dx:Option Addr} {K:Frag} {tk:Tok} {Q:Fin→Shared→Prop} (hC:h.get? C=some (ownExc nm q C D N bs hdct sn sub ab col dd k0 k1 k2 k3 k5)) (hx:h.get? x=some (excObj C dx vs))
    (hso:h.get? so=some (ks_superObj D x C)) (hno:Looks (model prog w) h (opaqueClassAbove (.ref C)) none) (X:K.In h) (hxC:x≠C) (hCD:C≠D)
    (hq:Q (.done (.ret (.ref h.objs.size))) ⟨h.push (mwObj "Exception.__init__" x),g,d,t,os⟩) :
    wpAny (model prog w) A (Builtin.«super.__getattribute__» ⟨[.ref so,.str "__init__" tk],[]⟩) Q E ⟨h,g,d,t,os⟩:=by
  have hne:(Value.ref x == Value.ref C)=false:=by simp [hxC]
  have hn:(("__init__" : Str) == ("__class__" : Str))=false:=by decide
  have hl:((Value.ref C::Value.ref D::bmE).dropWhile (· != .ref D)).drop 1=bmE:=by simp [hCD]
  have hLC:Looks (model prog w) h (mroOf (.ref C)) (Value.ref C::Value.ref D::bmE):=fun A Q E s k q=>by
    obtain ⟨hp,g',d',t',os'⟩:=s
    exact wpAny_mroOf_exc (k _ _ hC) q
  have hdt:(ks_superObj D x C).data=.fields #[.ref D,.ref x,.ref C]:=rfl
  have f0:(#[.ref D,.ref x,.ref C]:Array Value)[0]? = some (.ref D):=rfl
  have f1:(#[.ref D,.ref x,.ref C]:Array Value)[1]? = some (.ref x):=rfl
  have f2:(#[.ref D,.ref x,.ref C]:Array Value)[2]? = some (.ref C):=rfl
  have hlk:=slot_wd_get.lookup
  have hT:=typeOf_exc_init
  unfold Builtin.«super.__getattribute__»
  iterate 21 (first
    | (with_reducible refine wpAny_of_eq typeOf_exc_init ?_)
    | (with_reducible refine wpAny_of_eq slot_wd_get.lookup ?_)
    | (with_reducible refine wpAny_field hso hdt f0 ?_)|(with_reducible refine wpAny_field hso hdt f1 ?_)|(with_reducible refine wpAny_field hso hdt f2 ?_)
    | (with_reducible refine ks_wpAny_notOpaque hno ?_)
    | (with_reducible refine Looks.at hLC ?_;rw [hl])
    | (simp only [hn,hne,Bool.or_false,Bool.false_eq_true,if_false])
    | (with_reducible refine wpAny_bind ?_)
    | (fail_if_success (with_reducible show wpAny _ _ (typeOf _) _ _ _)
       fail_if_success (with_reducible show wpAny _ _ (call _ _) _ _ _)
       wp_step)
    | dsimp only
    | skip)
  refine Looks.at hLC ?_
  rw [hl]
  refine wpAny_bind ?_
  rw [show bmE=Value.type "Exception"::[.type "BaseException",.type "object"] from rfl,List.forIn_cons]
  refine wpAny_bind (wpAny_bind (wpAny_of_eq own_exc_init ?_))
  dsimp only
  refine wpAny_bind (wpAny_of_eq typeOf_exc_init ?_)
  refine wpAny_bind (wpAny_of_eq slot_wd_get.lookup ?_)
  refine wpAny_bind (wpAny_holding (wpAny_call_entry slot_wd_get (show (⟨h,g,d,t,os⟩:Shared).TypeIs (.builtin "Exception.__init__") "wrapper_descriptor" from typeOf_exc_init) entry_wd_get (wd_get hC hx ⟨_,rfl, ?_⟩) (args_wd_get _ _ _)))
  repeat wp_step
  exact hq
end
end
section
set_option Elab.async false
set_option maxRecDepth 100000
set_option maxHeartbeats 4000000
set_option linter.unusedVariables false
section
variable {prog:Program} {w:World} {A:Around} {E:Value→Shared→Prop} {R:Result→Shared→Prop} {h:Heap} {g:Array GenState} {d:Drawn} {t:Nat} {os:OsState} {M:Model}
variable {nm q:Str} {C D N:Addr} {bs:List Value} {hdct:Bool} {sn:List Str} {sub:List Value} {ab:Bool} {col:Option Bool} {dd:Option Addr} {k0 k1 k2 k3 k5:Option Value}
theorem super_method {so x:Addr} {vs:Array Value} {dx:Option Addr} {K:Frag} {pl:Sem Bool} {Q:Value×List Value→Shared→Prop} (hC:h.get? C=some (ownExc nm q C D N bs hdct sn sub ab col dd k0 k1 k2 k3 k5)) (hx:h.get? x=some (excObj C dx vs))
    (hso:h.get? so=some (ks_superObj D x C)) (hno:Looks (model prog w) h (opaqueClassAbove (.ref C)) none) (X:K.In h) (hxC:x≠C) (hCD:C≠D)
    (hq:Q (.ref h.objs.size,[]) ⟨h.push (mwObj "Exception.__init__" x),g,d,t+1,os⟩) :
    wpAny (model prog w) A (getMethod (.ref so) "__init__" pl) Q E ⟨h,g,d,t,os⟩:=by
  have hlk:=F.ks_slot_super_ga.lookup
  have hcan:=F.ks_canon_super_ga
  have hT:∀ t',(⟨h,g,d,t',os⟩:Shared).TypeIs (.ref so) "super":=fun _=>⟨_,hso,rfl⟩
  unfold getMethod
  refine wpAny_bind (wpAny_specialOf (hT _) hlk ?_)
  show wpAny _ _ (if (Manifest.canonical "super.__getattribute__" != "object.__getattribute__")=true then _ else _) _ _ _
  rw [if_pos hcan]
  unfold getAttr getAttrBy
  refine wpAny_bind (wpAny_bind (wpAny_mkText (wpAny_holding (wpAny_bind (wpAny_typeOf (hT _) (wpAny_bind (wpAny_of_eq hlk ?_)))))))
  show wpAny _ _ (getAttrByItsOwn (.ref so) (.str "__init__" t) (.type "super") (.builtin "super.__getattribute__") true false) _ _ _
  unfold getAttrByItsOwn hookBefore callGetattribute boundAndCalled
  refine wpAny_bind (wpAny_of_eq (show (if onTheHeap (.type "super") then typeLookup (.type "super") "__getattr__" else pure none)=pure none from rfl) ?_)
  refine wpAny_bind (wpAny_attempt (wpAny_holding ?_))
  show wpAny _ _ (bindSpecial (.builtin "super.__getattribute__") (.ref so) >>= _) _ _ _
  refine wpAny_bind (wpAny_of_eq (F.ks_slot_super_ga.bind _) ?_)
  refine wpAny_mono (Q:=fun v s'=>v=.ref h.objs.size∧s'=⟨h.push (mwObj "Exception.__init__" x),g,d,t+1,os⟩) (E:=fun _ _=>False)
    (wpAny_call_entry F.ks_slot_super_ga (hT _) F.ks_entry_super_ga (super_ga hC hx hso hno X hxC hCD ⟨_,rfl,rfl,rfl⟩) (F.ks_gaArgs_super _ _)) (fun v s' hv=>?_) fun _ _ z=>z.elim
  obtain ⟨rfl,rfl⟩:=hv
  exact wpAny_pure (wpAny_pure hq)
theorem init_check {x:Addr} {o:Obj} {v:Value} {Q:Unit→Shared→Prop} (hC:h.get? C=some (ownExc nm q C D N bs hdct sn sub ab col dd k0 k1 k2 k3 k5)) (he:h.get? x=some o) (hcls:o.cls=.ref C) (hq:Q () ⟨h,g,d,t,os⟩) :
    wpAny M A (checkBoundCall "Exception.__init__" ⟨[.ref x,v],[]⟩) Q E ⟨h,g,d,t,os⟩:=by
  have F:=PySem.F.excBase_Exception
  have hshort:=F.noStar
  simp only [checkBoundCall,F.initKind,F.initRow]
  repeat (first|(with_reducible refine wpAny_loadPart_at he ?_;rw [hcls])|with_reducible refine wpAny_loadPart_at hC ?_|wp_step)
  exact hq
theorem init_call {x mw a0:Addr} {dx:Option Addr} {v:Value} {Q:Value→Shared→Prop} (hC:h.get? C=some (ownExc nm q C D N bs hdct sn sub ab col dd k0 k1 k2 k3 k5))
    (hx:h.get? x=some (excObj C dx #[.ref a0,.none,.none,.none,.bool false,.none])) (hmw:h.get? mw=some (mwObj "Exception.__init__" x))
    (hq:∀ h',(∀ b o,b≠x→h.get? b=some o→h'.get? b=some o)→h'.get? x=some (excObj C dx #[.ref h.objs.size,.none,.none,.none,.bool false,.none])→h.objs.size<h'.objs.size→Q .none ⟨h',g,d,t,os⟩) :
    wpAny (model prog w) A (call (.ref mw) [v]) Q E ⟨h,g,d,t,os⟩:=by
  have F:=PySem.F.excBase_Exception
  have hcB:(Value.ref C::Value.ref D::bmE).contains (.type "Exception")=true:=has_own (fun _ e=>nomatch e) (by decide)
  refine wpAny_call (codeAny_of_tree ?_)
  show wpAny _ _ (callAny (.ref mw) _) _ _ _
  unfold callAny
  iterate 5 (first|(with_reducible refine wpAny_loadPart_at hmw ?_)|wp_step)
  show wpAny _ _ (checkBoundCall "Exception.__init__" ⟨[.ref x,v],[]⟩ >>= _) _ _ _
  refine wpAny_bind (init_check hC hx rfl ?_)
  refine wpAny_pure ⟨Code.quiet_builtin _ (by decide +kernel),codeAny_builtin F.initEntry ?_⟩
  show wpAny _ _ (Builtin.«BaseException.__init__» ⟨[.ref x,v],[]⟩) _ _ _
  unfold Builtin.«BaseException.__init__»
  have hd:(excObj C dx #[.ref a0,.none,.none,.none,.bool false,.none]).data=.fields #[.ref a0,.none,.none,.none,.bool false,.none]:=rfl
  have hx1:=Heap.get?_push_of_some {cls:=.type "tuple",data:=.seq #[v]} hx
  have hf0:(#[.ref a0,.none,.none,.none,.bool false,.none]:Array Value)[0]? = some (.ref a0):=rfl
  iterate 11 (first|(with_reducible refine wpAny_loadPart_at hx ?_)|wp_step)
  show wpAny _ _ (field (Value.ref x) 0 >>= _) _ _ _
  refine wpAny_bind (wpAny_field hx1 hd hf0 ?_)
  refine wpAny_bind (wpAny_setField hx1 hd (by simp) ?_)
  repeat wp_step
  have ne:h.objs.size≠x:=Nat.ne_of_gt (Heap.lt_size hx)
  refine hq _ (fun b o hb e=>?_) ?_ ?_
  · rw [Heap.get?_update_other _ _ (Ne.symm hb)]
    exact Heap.get?_push_of_some _ e
  · exact Heap.get?_update_self _ hx1 rfl
  · rw [Heap.size_after_update,Heap.size_push]
    exact Nat.lt_succ_self _
end
end
section
set_option Elab.async false
set_option maxRecDepth 100000
set_option maxHeartbeats 4000000
set_option linter.unusedVariables false
theorem find_own {M:Model} {h:Heap} {x C dx:Addr} {o:Obj} {K:Frag} {cd:ClassData} {name:Str} {v:Value} {mA:Str→Option Value} (X:K.In h) (hx:h.get? x=some o) (hc:o.cls=.ref C) (hnc:∀ c,o.data≠.cls c) (hdx:o.dict=some dx)
    (hcd:clsIn K C=some cd) (hD:cd.hasDict=true) (hna:findIn K (.ref C) name=some none) (hns:h.Ns dx mA) (hv:mA name=some v) {A:Around} {E:Value→Shared→Prop} {Q:Builtin.ObjectAttr.Found→Shared→Prop} {g:Array GenState} {d:Drawn} {t:Nat} {os:OsState}
    (hq:Q (.value v) ⟨h,g,d,t,os⟩):wpAny M A (Builtin.ObjectAttr.find (.ref x) (.ref C) name) Q E ⟨h,g,d,t,os⟩:=by
  have L1:=looks_findIn (M:=M) X hna
  have L2:=looks_clsIn (M:=M) X hcd
  unfold Builtin.ObjectAttr.find Builtin.ObjectAttr.getOf Builtin.ObjectAttr.dataDescriptor? Builtin.ObjectAttr.ownThenClass Builtin.ObjectAttr.inOwnDict Builtin.ObjectAttr.ownDict loadHead instanceDict
  refine wpAny_bind (L1.at ?_)
  refine wpAny_bind (wpAny_pure (wpAny_bind (wpAny_pure ?_)))
  dsimp only
  refine wpAny_bind (wpAny_bind (wpAny_bind (wpAny_loadPart_at hx ?_)))
  split
  · rename_i c e;exact absurd e (hnc c)
  refine wpAny_bind (wpAny_loadPart_at hx ?_)
  rw [hc]
  dsimp only
  refine wpAny_bind (L2.at ?_)
  rw [hD,hdx]
  repeat (first|(with_reducible refine wpAny_nsGet hns ?_;rw [hv])|wp_step)
  exact hq
end
section
set_option Elab.async false
set_option maxRecDepth 100000
set_option maxHeartbeats 4000000
set_option linter.unusedVariables false
section
variable {prog:Program} {w:World} {A:Around} {E:Value→Shared→Prop} {R:Result→Shared→Prop} {h:Heap} {g:Array GenState} {d:Drawn} {t:Nat} {os:OsState} {M:Model}
variable {nm q:Str} {C D N:Addr} {bs:List Value} {sn:List Str} {sub:List Value} {ab:Bool} {col:Option Bool} {dd:Option Addr} {k0 k1 k2 k3 k5:Option Value}
theorem exc_check_sa {x:Addr} {o:Obj} {nameV v:Value} {Q:Unit→Shared→Prop} {hdct:Bool}
    (hC:h.get? C=some (ownExc nm q C D N bs hdct sn sub ab col dd k0 k1 k2 k3 k5)) (hx:h.get? x=some o) (hc:o.cls=.ref C) (hq:Q () ⟨h,g,d,t,os⟩) :
    wpAny M A (checkBuiltinCall "object.__setattr__" ⟨[.ref x,nameV,v],[]⟩) Q E ⟨h,g,d,t,os⟩:=by
  have SF:=PySem.F.store_Exception
  have hcB:(Value.ref C::Value.ref D::bmE).contains (.type "object")=true:=has_own (fun _ e=>nomatch e) (by decide)
  have ha:=SF.args (.ref x) nameV v
  simp only [checkBuiltinCall,SF.kind,SF.split]
  refine wpAny_bind ?_
  · unfold isInstance
    repeat (first|(with_reducible refine wpAny_loadPart_at hx ?_;rw [hc])|(with_reducible refine wpAny_isSubtype_exc hC ?_;rw [hcB])|wp_step)
    exact hq
theorem exc_set_first {x:Addr} {vs:Array Value} {name:Str} {v:Value} {K:Frag} {Q:Unit→Shared→Prop} (X:K.In h)
    (hC:h.get? C=some (ownExc nm q C D N bs true sn sub ab col dd k0 k1 k2 k3 k5)) (hs:findIn K (.ref C) "__setattr__" = some (some (.builtin "object.__setattr__"))) (hna:findIn K (.ref C) name=some none)
    (hx:h.get? x=some (excObj C none vs))
    (hq:∀ h' tk' dx,dx=h.objs.size→h'.get? x=some (excObj C (some dx) vs)→h.get? dx=none→h'.Ns1 dx (fun y=>if y=name then some v else none)→(∀ b o,b≠x→h.get? b=some o→h'.get? b=some o)→Q () ⟨h',g,d,tk',os⟩) :
    wpAny (model prog w) A (setAttr (.ref x) name v) Q E ⟨h,g,d,t,os⟩:=by
  have SF:=PySem.F.store_Exception
  have f3:=SF.slot.bind (.ref x)
  have L0:=looks_findIn (M:=model prog w) X hs
  have L1:=looks_findIn (M:=model prog w) X hna
  have hpass:=SF.passes (.ref x)
  unfold setAttr callSpecial? specialOf
  repeat (any_goals (first|assumption|(with_reducible refine wpAny_loadPart_at hx ?_)|(with_reducible refine L0.at ?_)|wp_step))
  refine codeAny_call_builtin SF.slot.plain SF.entry (exc_check_sa hC hx rfl ?_)
  unfold Builtin.«object.__setattr__»
  repeat (first|rw [refuse_eq]|(rw [refuseLoop_ref,refuseLoop_ref,hpass])|(with_reducible refine wpAny_loadPart_at hx ?_)|with_reducible refine wpAny_mroOf_exc hC ?_|(with_reducible refine L1.at ?_)|((fail_if_success (with_reducible show wpAny _ _ (nsSet _ _ _) _ _ _));wp_step))
  have hxs:x≠h.objs.size:=Nat.ne_of_lt (Heap.lt_size hx)
  have hx₁:(h.push {cls:=.type "dict",data:=.dict #[]}).get? x=some (excObj C none vs):=Heap.get?_push_of_some _ hx
  refine wpAny_nsSet1 (m:=fun _=>none) (Heap.Ns1.of_empty ⟨_,#[],_,(Heap.get?_update_ne _ _ _ _ hxs.symm).trans (Heap.get?_push_at rfl rfl),rfl,fun e he=>absurd he (by simp),fun _=>rfl⟩) (fun h' hn' hs=>?_)
  obtain ⟨oD,esD,epD,hoD,hdD,hcD⟩:=hn'.count (Within.cons name v Within.nil)
  refine wpAny_bind (wpAny_lookBehind hoD (by rw [hdD];exact pastItsLine_dict (Nat.le_trans hcD (by rw [List.length_cons,List.length_nil,sizeLine_eq];omega))) ?_)
  repeat wp_step
  refine hq h' _ h.objs.size rfl ?_ (Heap.get?_none_of_le (Nat.le_refl _)) hn' (fun b o hb e=>?_)
  · exact (hs.2 x hxs).trans (Heap.get?_update_self _ hx₁ rfl)
  · exact (hs.2 b (Nat.ne_of_lt (Heap.lt_size e))).trans ((Heap.get?_update_ne _ _ _ _ hb).trans (Heap.get?_push_of_some _ e))
theorem exc_set_more {x dx:Addr} {vs:Array Value} {name:Str} {v:Value} {mA:Str→Option Value} {ns:List Str} {K:Frag} {Q:Unit→Shared→Prop} (X:K.In h)
    (hC:h.get? C=some (ownExc nm q C D N bs true sn sub ab col dd k0 k1 k2 k3 k5)) (hs:findIn K (.ref C) "__setattr__" = some (some (.builtin "object.__setattr__"))) (hna:findIn K (.ref C) name=some none)
    (hx:h.get? x=some (excObj C (some dx) vs)) (hne:dx≠x) (hns:h.Ns1 dx mA) (hw:Within mA ns) (hsz:ns.length≤100)
    (hq:∀ h' tk',h'.Ns1 dx (fun y=>if y=name then some v else mA y)→Heap.SameBut dx h h'→Q () ⟨h',g,d,tk',os⟩) :
    wpAny (model prog w) A (setAttr (.ref x) name v) Q E ⟨h,g,d,t,os⟩:=by
  have SF:=PySem.F.store_Exception
  have f3:=SF.slot.bind (.ref x)
  have L0:=looks_findIn (M:=model prog w) X hs
  have L1:=looks_findIn (M:=model prog w) X hna
  have hpass:=SF.passes (.ref x)
  unfold setAttr callSpecial? specialOf
  repeat (any_goals (first|assumption|(with_reducible refine wpAny_loadPart_at hx ?_)|(with_reducible refine L0.at ?_)|wp_step))
  refine codeAny_call_builtin SF.slot.plain SF.entry (exc_check_sa hC hx rfl ?_)
  unfold Builtin.«object.__setattr__»
  repeat (first|rw [refuse_eq]|(rw [refuseLoop_ref,refuseLoop_ref,hpass])|(with_reducible refine wpAny_loadPart_at hx ?_)|with_reducible refine wpAny_mroOf_exc hC ?_|(with_reducible refine L1.at ?_)|((fail_if_success (with_reducible show wpAny _ _ (nsSet _ _ _) _ _ _));wp_step))
  refine wpAny_nsSet1 hns (fun h' hn' hs=>?_)
  obtain ⟨oD,esD,epD,hoD,hdD,hcD⟩:=hn'.count (Within.cons name v hw)
  refine wpAny_bind (wpAny_lookBehind hoD (by rw [hdD];exact pastItsLine_dict (Nat.le_trans hcD (by rw [List.length_cons,sizeLine_eq];omega))) ?_)
  repeat wp_step
  exact hq h' _ hn' hs
theorem bexc_ga_bind (self:Value):bindSpecial (.builtin "BaseException.__getattribute__") self=pure (.builtin "BaseException.__getattribute__",[self]):=PySem.F.attr_Exception.ga.bind self
theorem bexc_check {x:Addr} {o:Obj} {nameV:Value} {Q:Unit→Shared→Prop} {hdct:Bool}
    (hC:h.get? C=some (ownExc nm q C D N bs hdct sn sub ab col dd k0 k1 k2 k3 k5)) (hx:h.get? x=some o) (hc:o.cls=.ref C) (hq:Q () ⟨h,g,d,t,os⟩) :
    wpAny M A (checkBuiltinCall "BaseException.__getattribute__" ⟨[.ref x,nameV],[]⟩) Q E ⟨h,g,d,t,os⟩:=by
  have hk:builtinKind "BaseException.__getattribute__" = some .slot:=by decide +kernel
  have hsplit:splitId "BaseException.__getattribute__" = some ("BaseException","__getattribute__"):=by decide +kernel
  have hcB:(Value.ref C::Value.ref D::bmE).contains (.type "BaseException")=true:=has_own (fun _ e=>nomatch e) (by decide)
  have ha:=PySem.F.args_bexc_ga (.ref x) nameV
  simp only [checkBuiltinCall,hk,hsplit]
  refine wpAny_bind ?_
  · unfold isInstance
    repeat (first|(with_reducible refine wpAny_loadPart_at hx ?_;rw [hc])|(with_reducible refine wpAny_isSubtype_exc hC ?_;rw [hcB])|wp_step)
    exact hq
theorem exc_get {x dx:Addr} {o:Obj} {cd:ClassData} {name:Str} {v:Value} {mA:Str→Option Value} {K:Frag} {expr:Bool} {Q:Value→Shared→Prop} (X:K.In h)
    (hC:h.get? C=some (ownExc nm q C D N bs true sn sub ab col dd k0 k1 k2 k3 k5)) (hga:findIn K (.ref C) "__getattribute__" = some (some (.builtin "BaseException.__getattribute__"))) (hgt:findIn K (.ref C) "__getattr__" = some none) (hna:findIn K (.ref C) name=some none)
    (hcd:clsIn K C=some cd) (hD:cd.hasDict=true)
    (hx:h.get? x=some o) (hc:o.cls=.ref C) (hnc:∀ c,o.data≠.cls c) (hdx:o.dict=some dx) (hns:h.Ns dx mA) (hv:mA name=some v) (hh:handedOut v=pure v) (hq:Q v ⟨h,g,d,t+1,os⟩) :
    wpAny (model prog w) A (getAttr (.ref x) name expr) Q E ⟨h,g,d,t,os⟩:=by
  have f3:=bexc_ga_bind (.ref x)
  have L0:=looks_findIn (M:=model prog w) X hga
  have L1:=looks_findIn (M:=model prog w) X hgt
  have hx0:(expr && onTheHeap (Value.builtin "BaseException.__getattribute__"))=false:=by cases expr <;> rfl
  have hx2:(Value.builtin "BaseException.__getattribute__" == Value.builtin "object.__getattribute__")=false:=by decide +kernel
  have hx1:(onTheHeap (Value.ref C) && Value.builtin "BaseException.__getattribute__" == Value.builtin "object.__getattribute__")=false:=by rw [hx2];rfl
  unfold getAttr getAttrBy
  repeat (any_goals (first|assumption|(with_reducible refine wpAny_loadPart_at hx ?_;rw [hc])|(with_reducible refine L0.at ?_)|(with_reducible refine L1.at ?_)|((fail_if_success (with_reducible show codeAny _ _ _ _ _));wp_step)))
  have hk:builtinKind "BaseException.__getattribute__" = some .slot:=by decide +kernel
  have hsplit:splitId "BaseException.__getattribute__" = some ("BaseException","__getattribute__"):=by decide +kernel
  have hcB:(Value.ref C::Value.ref D::bmE).contains (.type "BaseException")=true:=has_own (fun _ e=>nomatch e) (by decide)
  have ha:=PySem.F.args_bexc_ga (.ref x) (.str name t)
  refine codeAny_call_builtin PySem.F.attr_Exception.ga.plain PySem.F.entry_bexc_ga (bexc_check hC hx hc ?_)
  unfold Builtin.«object.__getattribute__»
  repeat (any_goals (first|assumption|(with_reducible refine wpAny_loadPart_at hx ?_;rw [hc])|(with_reducible refine find_own X hx hc hnc hdx hcd hD hna hns hv ?_)|wp_step))
end
end
section
set_option Elab.async false
set_option maxRecDepth 100000
set_option maxHeartbeats 4000000
set_option linter.unusedVariables false
def TracedD (base:Heap) (e C dx:Addr) (fl:Value) (h:Heap):Prop :=
  ∃ oe vs T oT ts,h.get? e=some oe∧(oe.cls=.ref C∧oe.dict=some dx)∧oe.data=.fields vs∧vs[1]? = some (.ref T)∧base.get? T=none∧T≠e∧h.get? T=some oT∧oT.data=.fields ts∧ts[3]? = some fl
def FlyD (base:Heap) (l:List Env) (e C dx:Addr) (fl:Value) (h:Heap):Prop :=
  base.StaysIn h∧base.get? e=none∧h.FunFrames base l∧TracedD base e C dx fl h
theorem dict_mapFields (o:Obj) (f:Array Value→Array Value):(Obj.mapFields f o).dict=o.dict:=by
  obtain ⟨_,_,dt,_⟩:=o
  cases dt <;> rfl
section
variable {M:Model} {A:Around} {E:Value→Shared→Prop} {s:Shared}
theorem entryD {base:Heap} {env:Env} {outer:List Env} {L e C dx:Addr} {oe:Obj} {vs:Array Value} {head:Value} {hadNext:Bool} {Q:Unit→Shared→Prop}
    (hfr:A.frames=some (env::outer)) (hl:s.heap.FunFrames base (env::outer)) (hf:env.frame=some L)
    (he:s.heap.get? e=some oe) (hkb:base.StaysIn s.heap) (hen:base.get? e=none) (hk:oe.cls=.ref C∧oe.dict=some dx) (hd:oe.data=.fields vs) (hsz:1<vs.size)
    (h:∀ h',FlyD base (env::outer) e C dx (rawInt L) h'→s.heap.UpToSlots h'→Q () {s with heap:=h'}) :
    wpAny M A (do let a ← frameOf env;let pl ← entryPlaceOf L hadNext;let b ← EntryCells.newEntry head a .none (rawInt L) .none pl;setField (.ref e) 1 b) Q E s:=by
  have hene:e∉(env::outer).filterMap (·.frame):=fun hm=>by
    obtain ⟨_,o,ho,hnf⟩:=hl.mem hm
    rw [he] at ho;injection ho with ho;subst ho;exact hnf vs hd
  refine wpAny_bind (wpAny_frameOf_fun hfr hl hf fun h₁ hs₁=>?_)
  refine wpAny_bind (wpAny_entryPlaceOf fun pl hpl=>?_)
  unfold EntryCells.newEntry newFields
  refine wpAny_bind (wpAny_newObj_type ?_ (hpl.sizeOk5 _ _ _ _ _))
  have he₁:h₁.get? e=some oe:=(hs₁.2.1 e hene).trans he
  have kb₁:base.StaysIn h₁:=fun b o hbo=>(hs₁.2.1 b fun hm=>by rw [(hl.mem hm).1] at hbo;cases hbo).trans (hkb b o hbo)
  generalize hT:({cls:=.type "traceback",dict:=none,data:=.fields ([head,.ref L,.none,rawInt L,.none]++(if pl.isEmpty then List.replicate 6 Value.none else pl)).toArray}:Obj)=oT
  have hTd:oT.data=.fields ([head,.ref L,.none,rawInt L,.none]++(if pl.isEmpty then List.replicate 6 Value.none else pl)).toArray:=by rw [← hT]
  have hTf:oT.isFreed=false:=by rw [← hT];rfl
  have he₂:=Heap.get?_push_of_some (h:=h₁) oT he₁
  have hTe:h₁.objs.size≠e:=Nat.ne_of_gt (Heap.lt_size he₁)
  refine wpAny_setField he₂ hd hsz (h _ ?_ ?_)
  · have hd₃:=Obj.data_mapFields hd (·.setIfInBounds 1 (Value.ref h₁.objs.size))
    have he₃:=Heap.get?_update_self (Obj.mapFields (·.setIfInBounds 1 (Value.ref h₁.objs.size))) he₂ (Obj.isFreed_of_fields hd₃)
    have hT₃:=(Heap.get?_update_other (h₁.push oT) (Obj.mapFields (·.setIfInBounds 1 (Value.ref h₁.objs.size))) (Ne.symm hTe)).trans (Heap.get?_push_size h₁ hTf)
    have keep:∀ b o,b≠e→h₁.get? b=some o→((h₁.push oT).update e (Obj.mapFields (·.setIfInBounds 1 (Value.ref h₁.objs.size)))).get? b=some o:=fun b o hbe hb =>
      (Heap.get?_update_other _ _ (Ne.symm hbe)).trans (Heap.get?_push_of_some _ hb)
    refine ⟨fun b o hbo=>keep b o (fun q=>by rw [q,hen] at hbo;cases hbo) (kb₁ b o hbo),hen,hl.of_keeps fun b o hb hnf=>?_, ?_⟩
    · obtain ⟨sl,hs⟩:=hs₁.2.2 b o hb
      exact ⟨_,keep b _ (fun q=>by rw [q,he] at hb;cases hb;exact hnf vs hd) hs,rfl⟩
    · exact ⟨_,_,h₁.objs.size,oT,_,he₃,⟨(Obj.cls_mapFields _ _).trans hk.1,(dict_mapFields _ _).trans hk.2⟩,hd₃,by simp [hsz],kb₁.fresh,hTe,hT₃,hTd,by first|(simp;done)|(rcases hpl with rfl|⟨_,_,_,_,_,_,_,rfl⟩ <;> simp)⟩
  · intro b o hb hnf
    obtain ⟨sl,hs⟩:=hs₁.2.2 b o hb
    refine ⟨sl,(Heap.get?_update_other _ _ (fun q:e=b=>?_)).trans (Heap.get?_push_of_some _ hs)⟩
    rw [← q,he] at hb;cases hb;exact hnf vs hd
theorem landD {base:Heap} {l:List Env} {e C dx:Addr} {fl:Value} {Q:Unit→Shared→Prop} (hh:FlyD base l e C dx fl s.heap)
    (h:∀ h',FlyD base l e C dx .none h'→s.heap.UpToSlots h'→Q () {s with heap:=h'}):wpAny M A (setFlight (.ref e) none) Q E s:=by
  obtain ⟨hkb,hen,hl,oe,vs,T,oT,ts,he,hk,hd,h1,hnT,hTe,hT,hdT,h3⟩:=hh
  have hsz3:3<ts.size:=(Array.getElem?_eq_some_iff.mp h3).1
  have other:∀ b,b≠T→(s.heap.update T (Obj.mapFields (·.setIfInBounds 3 ((none:Option Addr).elim Value.none fun f=>rawInt f)))).get? b=s.heap.get? b :=
    fun b hb=>Heap.get?_update_other _ _ (Ne.symm hb)
  have noRecord:∀ b o,s.heap.get? b=some o→(∀ vs,o.data≠.fields vs)→b≠T:=fun b o hb hnf q=>by
    rw [q,hT] at hb;injection hb with hb;subst hb;exact hnf ts hdT
  unfold setFlight
  refine wpAny_bind (wpAny_field he hd h1 ?_)
  rw [if_pos (show (Value.ref T != Value.none)=true from by simp)]
  refine wpAny_setField hT hdT hsz3 (h _ ⟨fun b o hbo=>(other b fun q=>by rw [q,hnT] at hbo;cases hbo).trans (hkb b o hbo),hen,hl.of_keeps fun b o hb hnf=>⟨o,(other b (noRecord b o hb hnf)).trans hb,rfl⟩, ?_⟩ fun b o hb hnf=>⟨o.slots,(other b (noRecord b o hb hnf)).trans hb⟩)
  exact ⟨oe,vs,T,_,_,(other e (Ne.symm hTe)).trans he,hk,hd,h1,hnT,hTe,Heap.get?_update_self _ hT (Obj.isFreed_of_fields (Obj.data_mapFields hdT _)),Obj.data_mapFields hdT _,by simp [hsz3]⟩
theorem noteD_first {base:Heap} {env:Env} {outer:List Env} {L e C dx:Addr} {oe:Obj} {vs:Array Value} {Q:Unit→Shared→Prop}
    (hfr:A.frames=some (env::outer)) (hl:s.heap.FunFrames base (env::outer)) (hf:env.frame=some L)
    (he:s.heap.get? e=some oe) (hkb:base.StaysIn s.heap) (hen:base.get? e=none) (hk:oe.cls=.ref C∧oe.dict=some dx) (hd:oe.data=.fields vs) (h1:vs[1]? = some .none)
    (h:∀ h',FlyD base (env::outer) e C dx (rawInt L) h'→s.heap.UpToSlots h'→Q () {s with heap:=h'}):wpAny M A (noteFrame (.ref e) env) Q E s:=by
  unfold noteFrame
  simp only [hf]
  refine wpAny_bind (wpAny_field he hd h1 ?_)
  rw [if_neg (by decide)]
  exact entryD hfr hl hf he hkb hen hk hd (Array.getElem?_eq_some_iff.mp h1).1 h
theorem noteD_next {base:Heap} {env:Env} {outer:List Env} {L e C dx:Addr} {Q:Unit→Shared→Prop} (hfr:A.frames=some (env::outer)) (hf:env.frame=some L) (hh:FlyD base (env::outer) e C dx .none s.heap)
    (h:∀ h',FlyD base (env::outer) e C dx (rawInt L) h'→s.heap.UpToSlots h'→Q () {s with heap:=h'}):wpAny M A (noteFrame (.ref e) env) Q E s:=by
  obtain ⟨hkb,hen,hl,oe,vs,T,oT,ts,he,hk,hd,h1,hnT,hTe,hT,hdT,h3⟩:=hh
  unfold noteFrame
  simp only [hf]
  refine wpAny_bind (wpAny_field he hd h1 ?_)
  rw [if_pos (show (Value.ref T != Value.none)=true from by simp)]
  refine wpAny_bind (wpAny_field hT hdT h3 ?_)
  rw [if_neg (show ¬ ((Value.none == rawInt L)=true) from by simp [rawInt])]
  refine wpAny_bind (wpAny_setField hT hdT (Array.getElem?_eq_some_iff.mp h3).1 ?_)
  have other:∀ b,b≠T→(s.heap.update T (Obj.mapFields (·.setIfInBounds 3 Value.none))).get? b=s.heap.get? b:=fun b hb=>Heap.get?_update_other _ _ (Ne.symm hb)
  have noRecord:∀ b o,s.heap.get? b=some o→(∀ vs,o.data≠.fields vs)→b≠T:=fun b o hb hnf q=>by
    rw [q,hT] at hb;injection hb with hb;subst hb;exact hnf ts hdT
  refine entryD hfr (hl.of_keeps fun b o hb hnf=>⟨o,(other b (noRecord b o hb hnf)).trans hb,rfl⟩) hf ((other e (Ne.symm hTe)).trans he)
    (fun b o hbo=>(other b fun q=>by rw [q,hnT] at hbo;cases hbo).trans (hkb b o hbo)) hen hk hd (Array.getElem?_eq_some_iff.mp h1).1
    fun h' x1 x2=>h h' x1 fun b o hb hnf=>x2 b o ((other b (noRecord b o hb hnf)).trans hb) hnf
theorem noteD_again {base:Heap} {l:List Env} {env:Env} {L e C dx:Addr} {Q:Unit→Shared→Prop} (hf:env.frame=some L) (hh:FlyD base l e C dx (rawInt L) s.heap) (h:Q () s):wpAny M A (noteFrame (.ref e) env) Q E s:=by
  obtain ⟨hkb,hen,hl,oe,vs,T,oT,ts,he,hk,hd,h1,hnT,hTe,hT,hdT,h3⟩:=hh
  unfold noteFrame
  simp only [hf]
  refine wpAny_bind (wpAny_field he hd h1 ?_)
  rw [if_pos (show (Value.ref T != Value.none)=true from by simp)]
  refine wpAny_bind (wpAny_field hT hdT h3 ?_)
  rw [if_pos (show (rawInt L == rawInt L)=true from by simp)]
  exact wpAny_pure h
theorem FlyD.tail {base h:Heap} {env:Env} {l:List Env} {e C dx:Addr} {fl:Value} (x:FlyD base (env::l) e C dx fl h):FlyD base l e C dx fl h :=
  ⟨x.1,x.2.1,x.2.2.1.2.2,x.2.2.2⟩
theorem FlyD.there {base h:Heap} {l:List Env} {e C dx:Addr} {fl:Value} (x:FlyD base l e C dx fl h):∃ oe vs,h.get? e=some oe∧oe.cls=.ref C∧oe.dict=some dx∧oe.data=.fields vs:=by
  obtain ⟨_,_,_,oe,vs,T,oT,ts,he,hk,hd,_⟩:=x
  exact ⟨oe,vs,he,hk.1,hk.2,hd⟩
theorem leaveD_first {base:Heap} {env:Env} {outer:List Env} {L e C dx:Addr} {oe:Obj} {vs:Array Value} {Q:Unit→Shared→Prop}
    (hfr:A.frames=some (env::outer)) (hl:s.heap.FunFrames base (env::outer)) (hf:env.frame=some L)
    (he:s.heap.get? e=some oe) (hkb:base.StaysIn s.heap) (hen:base.get? e=none) (hk:oe.cls=.ref C∧oe.dict=some dx) (hd:oe.data=.fields vs) (h1:vs[1]? = some .none)
    (h:∀ h',FlyD base outer e C dx .none h'→s.heap.UpToSlots h'→Q () {s with heap:=h'}):wpAny M A (leaving env (.ref e)) Q E s:=by
  unfold leaving
  refine wpAny_bind (noteD_first hfr hl hf he hkb hen hk hd h1 fun h₁ x1 x2=>?_)
  exact landD x1 fun h₂ y1 y2=>h h₂ y1.tail (x2.trans y2)
theorem leaveD_next {base:Heap} {env:Env} {outer:List Env} {L e C dx:Addr} {Q:Unit→Shared→Prop} (hfr:A.frames=some (env::outer)) (hf:env.frame=some L) (hh:FlyD base (env::outer) e C dx .none s.heap)
    (h:∀ h',FlyD base outer e C dx .none h'→s.heap.UpToSlots h'→Q () {s with heap:=h'}):wpAny M A (leaving env (.ref e)) Q E s:=by
  unfold leaving
  refine wpAny_bind (noteD_next hfr hf hh fun h₁ x1 x2=>?_)
  exact landD x1 fun h₂ y1 y2=>h h₂ y1.tail (x2.trans y2)
end
end
section
set_option Elab.async false
set_option maxRecDepth 100000
set_option maxHeartbeats 4000000
set_option linter.unusedVariables false
def OdIs (od:Obj) (mA:Str→Option Value):Prop:=∃ es ep,od.data=.dict es ep∧StrKeys es∧UniqKeys es∧∀ name,nsFind es name=mA name
theorem OdIs.ns1 {h:Heap} {dx:Addr} {od:Obj} {mA:Str→Option Value} (x:OdIs od mA) (e:h.get? dx=some od):h.Ns1 dx mA :=
  let ⟨es,ep,a,b,c,f⟩:=x;⟨od,es,ep,e,a,b,c,f⟩
theorem odIs_of {h:Heap} {dx:Addr} {mA:Str→Option Value} (x:h.Ns1 dx mA):∃ od,h.get? dx=some od∧OdIs od mA :=
  let ⟨od,es,ep,e,a,b,c,f⟩:=x;⟨od,e,es,ep,a,b,c,f⟩
section
variable {prog:Program} {w:World} {A:Around} {E:Value→Shared→Prop} {s:Shared} {h₀:Heap} {L:Addr} {m:Str→Option Value} {news news':List (Addr×Obj)} {K:Frag}
variable {nm q:Str} {C D N':Addr} {bs:List Value} {sn:List Str} {sub:List Value} {ab:Bool} {col:Option Bool} {dd:Option Addr} {k0 k1 k2 k3 k5:Option Value}
theorem InstAt.exc {h:Heap} {x:Addr} {vs:Array Value} (N:News h₀ L h news) (hx:(x,excObj C none vs)∈news):InstAt h x (excObj C none vs) C none:=⟨(N _ hx).1,rfl,rfl,trivial⟩
theorem push_ledger {h h':Heap} {b:Addr} {o:Obj} (F:Fr h₀ L h m) (N:News h₀ L h news) (hb:h.get? b=none) (ho:h'.get? b=some o) (k:∀ c o,h.get? c=some o→h'.get? c=some o) :
    Fr h₀ L h' m∧News h₀ L h' ((b,o)::news):=by
  obtain ⟨oL,es,ep,hL,r⟩:=F.ns
  refine ⟨⟨⟨oL,es,ep,k _ _ hL,r⟩,fun c o e=>k c o (F.keep c o e),F.above⟩,fun p hp=>?_⟩
  rcases List.mem_cons.mp hp with rfl|hp
  · refine ⟨ho,fun q=>?_, ?_⟩
    · have q':b=L:=q
      rw [q',hL] at hb;cases hb
    · show h₀.get? b=none
      cases z:h₀.get? b with
      | none=>rfl
      | some o=>have:=F.keep _ _ z;rw [hb] at this;cases this
  · exact ⟨k _ _ (N p hp).1,(N p hp).2⟩
theorem x_make {rest:List Value} {fI:Addr} {Q:Value→Shared→Prop} (F:Fr h₀ L s.heap m) (X₀:K.In h₀) (N:News h₀ L s.heap news) (hC:K.lookup C=some (ownExc nm q C D N' bs true sn sub ab col dd k0 k1 k2 k3 k5))
    (hi:findIn K (.ref C) "__init__" = some (some (.ref fI))) (hf:typeIn K (.ref fI)=some (.type "function")) (hrest:rest.length≤sizeLine)
    (h:∀ x a0 h',Fr h₀ L h' m→News h₀ L h' ((x,excObj C none #[.ref a0,.none,.none,.none,.bool false,.none])::news)→(∀ p∈news,p.1<x) →
      codeAny (model prog w) (A.under (.builtin "type.__call__" ⟨.ref C::rest,[]⟩)) (.call (.ref fI) ⟨.ref x::rest,[]⟩) (InitBack x fun r s'=>match r with|.ok (.ret v)=>Q v s'|.ok _=>False|.error e=>E e s') {s with heap:=h'}) :
    wpAny (model prog w) A (call (.ref C) rest []) Q E s:=by
  obtain ⟨hh,g,d,t,os⟩:=s
  refine wpAny_call (exc_make (X₀.keeps F.keep) ((X₀.keeps F.keep) _ _ hC) hi hf hrest ?_)
  obtain ⟨F1,N1⟩:Fr h₀ L (hh.push {cls:=.type "tuple",data:=.seq rest.toArray}) m∧News h₀ L (hh.push {cls:=.type "tuple",data:=.seq rest.toArray}) news:=⟨F.push _,News.pushKeep N _⟩
  have N2:=N1.push F1 (excObj C none #[.ref hh.objs.size,.none,.none,.none,.bool false,.none])
  rw [Heap.size_push] at N2
  exact h _ _ _ (F1.push _) N2 fun p hp=>Nat.lt_succ_of_lt (Heap.lt_size (N p hp).1)
theorem x_method {so x:Addr} {vs:Array Value} {dx:Option Addr} {pl:Sem Bool} {Q:Value×List Value→Shared→Prop} (F:Fr h₀ L s.heap m) (X₀:K.In h₀) (N:News h₀ L s.heap news) (hC:K.lookup C=some (ownExc nm q C D N' bs true sn sub ab col dd k0 k1 k2 k3 k5))
    (hso:(so,ks_superObj D x C)∈news) (hx:(x,excObj C dx vs)∈news) (ho:nsIn K cStatics "thirdparty.any" = some none) (hCD:C≠D)
    (h:∀ mw h',Fr h₀ L h' m→News h₀ L h' ((mw,mwObj "Exception.__init__" x)::news)→(∀ p∈news,p.1<mw)→Q (.ref mw,[]) {s with heap:=h',toks:=s.toks+1}) :
    wpAny (model prog w) A (getMethod (.ref so) "__init__" pl) Q E s:=by
  have X:=X₀.keeps F.keep
  obtain ⟨hh,g,d,t,os⟩:=s
  have hxC:x≠C:=fun e=>by
    have h1:=(N _ hx).2.2
    have h2:=X₀ _ _ hC
    rw [e] at h1
    rw [h1] at h2
    cases h2
  refine super_method (X _ _ hC) (N _ hx).1 (N _ hso).1 (looks_opaque X ho) X hxC hCD ?_
  exact h _ _ (F.push _) (N.push F _) fun p hp=>Heap.lt_size (N p hp).1
theorem keeper_mw {M:Model} {h:Heap} {mw x:Addr} {b:String} (hm:h.get? mw=some (mwObj b x)):∃ k,(k=Keeper.frame∨k=Keeper.machine∨k=Keeper.boundFrame)∧Looks M h (keeperOf (.ref mw)) k :=
  ⟨.machine,.inr (.inl rfl),fun A Q E s k q=>by
    unfold keeperOf
    refine wpAny_bind (wpAny_loadPart (k _ _ hm) ?_)
    exact wpAny_pure q⟩
theorem x_callWith {mw x:Addr} {b:String} {e:Expr} {rest:List Expr} {first:List Value} {pos:Pos} {env:Env} {Q:Value→Shared→Prop} (N:News h₀ L s.heap news) (hm:(mw,mwObj b x)∈news)
    (h:wpAny (model prog w) A (spliced (backTo pos (starEach (e::rest) env))) (fun vs s₁=>s₁.heap.get? mw=some (mwObj b x)∧wpAny (model prog w) A (call (.ref mw) (first++vs)) Q E s₁) E s)
    (he:starEach (e::rest) env=(false,eval e env)::starEach rest env:=by rfl) (hplain:(backTo pos (starEach rest env)).any (·.1)=false:=by rfl) :
    wpAny (model prog w) A (callWith pos (.ref mw) first (backTo pos (starEach (e::rest) env)) []) Q E s:=by
  rw [he] at h ⊢
  exact callWith_of (P:=fun h=>h.get? mw=some (mwObj b x)) (by show ((false || (backTo pos (starEach rest env)).any (·.1)) || false)=false;rw [hplain];rfl) (fun h hm=>keeper_mw hm) (evalArgs_plain h)
theorem upd_ledger {h h':Heap} {x:Addr} {o o':Obj} {f:Obj→List (Addr×Obj)} (F:Fr h₀ L h m) (N:News h₀ L h news) (U:UpdF x o news f) (k:∀ b o,b≠x→h.get? b=some o→h'.get? b=some o) (hx:h'.get? x=some o') :
    Fr h₀ L h' m∧News h₀ L h' (f o'):=by
  obtain ⟨own,rest,rfl,hg,h1,h2⟩:=U.split
  have hm:=N (x,o) (List.mem_append_right _ (.head _))
  obtain ⟨oL,es,ep,hL,r⟩:=F.ns
  refine ⟨⟨⟨oL,es,ep,k _ _ (Ne.symm hm.2.1) hL,r⟩,fun b ob e=>k b ob (fun q=>?_) (F.keep b ob e),F.above⟩, ?_⟩
  · have:=hm.2.2
    rw [← q,e] at this;cases this
  · rw [hg]
    intro p hp
    rcases List.mem_append.mp hp with q|q
    · exact ⟨k _ _ (h1 p q) (N p (List.mem_append_left _ q)).1,(N p (List.mem_append_left _ q)).2⟩
    · rcases List.mem_cons.mp q with rfl|q
      · exact ⟨hx,hm.2⟩
      · have z:=N p (List.mem_append_right _ (.tail _ q))
        exact ⟨k _ _ (h2 p q) z.1,z.2⟩
theorem x_init {x mw a0:Addr} {dx:Option Addr} {v:Value} {Q:Value→Shared→Prop} {f:Obj→List (Addr×Obj)} (F:Fr h₀ L s.heap m) (X₀:K.In h₀) (N:News h₀ L s.heap news) (hC:K.lookup C=some (ownExc nm q C D N' bs true sn sub ab col dd k0 k1 k2 k3 k5))
    (hm:(mw,mwObj "Exception.__init__" x)∈news) (U:UpdF x (excObj C dx #[.ref a0,.none,.none,.none,.bool false,.none]) news f)
    (h:∀ a1 h',Fr h₀ L h' m→News h₀ L h' (f (excObj C dx #[.ref a1,.none,.none,.none,.bool false,.none]))→Q .none {s with heap:=h'}):wpAny (model prog w) A (call (.ref mw) [v]) Q E s:=by
  have X:=X₀.keeps F.keep
  obtain ⟨own,rest,e,_,_,_⟩:=U.split
  have hx:(x,excObj C dx #[.ref a0,.none,.none,.none,.bool false,.none])∈news:=by rw [e];exact List.mem_append_right _ (.head _)
  obtain ⟨hh,g,d,t,os⟩:=s
  refine init_call (X _ _ hC) (N _ hx).1 (N _ hm).1 fun h' k hx' _=>?_
  obtain ⟨F1,N1⟩:=upd_ledger F N U k hx'
  exact h _ _ F1 N1
theorem x_set1 {x:Addr} {vs:Array Value} {name:Str} {v:Value} {Q:Unit→Shared→Prop} {f:Obj→List (Addr×Obj)} (F:Fr h₀ L s.heap m) (X₀:K.In h₀) (N:News h₀ L s.heap news) (hC:K.lookup C=some (ownExc nm q C D N' bs true sn sub ab col dd k0 k1 k2 k3 k5))
    (hs:findIn K (.ref C) "__setattr__" = some (some (.builtin "object.__setattr__"))) (hna:findIn K (.ref C) name=some none) (U:UpdF x (excObj C none vs) news f)
    (h:∀ dx od h' tk',Fr h₀ L h' m→News h₀ L h' ((dx,od)::f (excObj C (some dx) vs))→OdIs od (fun y=>if y=name then some v else none)→(∀ p∈news,p.1<dx)→Q () {s with heap:=h',toks:=tk'}) :
    wpAny (model prog w) A (setAttr (.ref x) name v) Q E s:=by
  have X:=X₀.keeps F.keep
  obtain ⟨own,rest,e,_,_,_⟩:=U.split
  have hx:(x,excObj C none vs)∈news:=by rw [e];exact List.mem_append_right _ (.head _)
  obtain ⟨hh,g,d,t,os⟩:=s
  refine exc_set_first X (X _ _ hC) hs hna (N _ hx).1 fun h' tk' dx hds hx' hdx hns k=>?_
  obtain ⟨F1,N1⟩:=upd_ledger F N U k hx'
  obtain ⟨od,ho,hod⟩:=odIs_of hns
  have hL:L≠dx:=fun q=>by
    obtain ⟨oL,es,ep,hL,r⟩:=F.ns
    rw [q,hdx] at hL;cases hL
  have hn:h₀.get? dx=none:=by
    cases z:h₀.get? dx with
    | none=>rfl
    | some o=>have:=F.keep _ _ z;rw [hdx] at this;cases this
  refine h dx od h' tk' F1 (fun p hp=>?_) hod (fun p hp=>by rw [hds];exact Heap.lt_size (N p hp).1)
  rcases List.mem_cons.mp hp with rfl|hp
  · exact ⟨ho,Ne.symm hL,hn⟩
  · exact N1 p hp
theorem x_set2 {x dx:Addr} {od:Obj} {vs:Array Value} {name:Str} {v:Value} {mA:Str→Option Value} {ns:List Str} {Q:Unit→Shared→Prop} {f:Obj→List (Addr×Obj)} (F:Fr h₀ L s.heap m) (X₀:K.In h₀) (N:News h₀ L s.heap news) (hC:K.lookup C=some (ownExc nm q C D N' bs true sn sub ab col dd k0 k1 k2 k3 k5))
    (hs:findIn K (.ref C) "__setattr__" = some (some (.builtin "object.__setattr__"))) (hna:findIn K (.ref C) name=some none) (hx:(x,excObj C (some dx) vs)∈news) (U:UpdF dx od news f) (O:OdIs od mA) (hw:Within mA ns) (hsz:ns.length≤100)
    (h:∀ od' h' tk',Fr h₀ L h' m→News h₀ L h' (f od')→OdIs od' (fun y=>if y=name then some v else mA y)→Q () {s with heap:=h',toks:=tk'}) :
    wpAny (model prog w) A (setAttr (.ref x) name v) Q E s:=by
  have X:=X₀.keeps F.keep
  obtain ⟨own,rest,e,_,_,_⟩:=U.split
  have hd:(dx,od)∈news:=by rw [e];exact List.mem_append_right _ (.head _)
  obtain ⟨hh,g,d,t,os⟩:=s
  have hne:dx≠x:=fun q=>by
    have h1:=(N _ hd).1
    have h2:=(N _ hx).1
    rw [q] at h1 h2
    rw [h2] at h1
    obtain ⟨es,ep,z,_⟩:=O
    have z':excObj C (some x) vs=od:=Option.some.inj h1
    rw [← z'] at z
    cases z
  refine exc_set_more X (X _ _ hC) hs hna (N _ hx).1 hne (O.ns1 (N _ hd).1) hw hsz fun h' tk' hns sb=>?_
  obtain ⟨od',ho,hod⟩:=odIs_of hns
  obtain ⟨F1,N1⟩:=upd_ledger F N U (fun b o hb e=>(sb.2 b hb).trans e) ho
  exact h od' h' tk' F1 N1 hod
end
end
section
set_option Elab.async false
set_option maxRecDepth 100000
set_option maxHeartbeats 4000000
set_option linter.unusedVariables false
section
variable {M:Model} {A:Around} {E:Value→Shared→Prop} {env:Env}
variable {nm q:Str} {C D N:Addr} {bs:List Value} {hdct:Bool} {sn:List Str} {sub:List Value} {ab:Bool} {col:Option Bool} {dd:Option Addr} {k0 k1 k2 k3 k5:Option Value}
theorem x_raiseStmt {s:Shared} {x:Sem Value} {Q:Flow→Shared→Prop} (hh:A.handled=none)
    (h:wpAny M A x (fun v s₁=>∃ e dx a0,v=.ref e∧s₁.heap.get? C=some (ownExc nm q C D N bs hdct sn sub ab col dd k0 k1 k2 k3 k5)∧s₁.heap.get? e=some (excObj C dx #[.ref a0,.none,.none,.none,.bool false,.none])∧E (.ref e) s₁) E s) :
    wpAny M A (raiseStmt env (some x) none) Q E s:=by
  have hcB:(Value.ref C::Value.ref D::bmE).contains (.type "BaseException")=true:=has_own (fun _ e=>nomatch e) (by decide)
  unfold raiseStmt
  refine wpAny_bind (wpAny_mono h (fun v s₁ h₁=>?_) fun _ _ x=>x)
  obtain ⟨e,dx,a0,rfl,hC,he,hE⟩:=h₁
  obtain ⟨hp,g,d,tk,os⟩:=s₁
  repeat (first|with_reducible refine wpAny_loadPart_at he ?_|with_reducible refine wpAny_loadPart_at hC ?_|(with_reducible refine wpAny_isSubtype_exc hC ?_;rw [hcB])|wp_step)
  exact wpAny_raiseNew_none hh hE
theorem x_Raise {prog:Program} {w:World} {s:Shared} {env:Env} {K:Frag} {gg:Heap} (XX:K.In gg) {x:Str} {np cpos pos:Pos} {args:List Expr} {C D N:Addr} {Q:Flow→Shared→Prop} (hh:A.handled=none) (hC:K.lookup C=some (ownExc nm q C D N bs hdct sn sub ab col dd k0 k1 k2 k3 k5))
    (h:wpAny (model prog w) A (eval (.Call (.Name x np) args [] cpos) env) (fun v s₁=>∃ e dx a0,v=.ref e∧K.In s₁.heap∧s₁.heap.get? e=some (excObj C dx #[.ref a0,.none,.none,.none,.bool false,.none])∧E (.ref e) s₁) E s) :
    wpAny (model prog w) A (exec (.Raise (some (.Call (.Name x np) args [] cpos)) none pos) env) Q E s:=by
  rw [arm_exec_Raise]
  refine wpAny_bind (wpAny_standAt (x_raiseStmt (C:=C) (nm:=nm) (q:=q) (D:=D) (N:=N) (bs:=bs) (hdct:=hdct) (sn:=sn) (sub:=sub) (ab:=ab) (col:=col) (dd:=dd) (k0:=k0) (k1:=k1) (k2:=k2) (k3:=k3) (k5:=k5) hh ?_))
  refine wpAny_bind (wpAny_mono h (fun v s₃ h₃=>wpAny_bind (wpAny_standAt (wpAny_pure ?_))) fun _ _ x=>x)
  obtain ⟨e,dx,a0,rfl,X,he,hE⟩:=h₃
  exact ⟨e,dx,a0,rfl,X _ _ hC,he,hE⟩
end
structure Thrown (h:Heap) (adr:List Addr) (base:Heap) (l:List Env) (e dx:Addr) (od:Obj) (own:List (Addr×Obj)) (h':Heap):Prop where
  bs:∃ Bs,base.StaysIn Bs∧(∀ b o,h.get? b=some o→b∉l.filterMap (·.frame)→b∉adr→Bs.get? b=some o)∧Bs.get? dx=some od∧(∀ p∈own,Bs.get? p.1=some p.2)∧FlyD Bs l e 61 dx .none h'
  fr:∀ b o,h.get? b=some o→b∈l.filterMap (·.frame)→∃ sl,h'.get? b=some {o with slots:=sl}
  nx:∀ o,h.get? dx=some o→dx∈adr
section
variable {M:Model} {A:Around} {E:Value→Shared→Prop} {s':Shared} {base g h H:Heap} {outer:List Env} {L a e dx a0:Addr} {od:Obj} {m:Str→Option Value} {name:Str} {scope:Scope} {cd:Value} {Q:Unit→Shared→Prop} {own:List (Addr×Obj)} {adr:List Addr}
theorem leave_thrown (K:Below A base outer g) (F:Fr g L s'.heap m) (N:News g L s'.heap ((dx,od)::(e,excObj 61 (some dx) #[.ref a0,.none,.none,.none,.bool false,.none])::own)) (hne:@Ne Nat dx e) (hoe:∀ p∈own,p.1≠e) (G:GSub H g adr)
    (hadr:∀ b∈outer.filterMap (·.frame),b∉adr)
    (hQ:∀ h',Thrown H adr base outer e dx od own h'→Q () {s' with heap:=h'}) (hk:scope.kind=.function:=by rfl) :
    wpAny M (A.deeper (envOf name scope L a cd)) (leaving (envOf name scope L a cd) (.ref e)) Q E s':=by
  have K':=K.push (name:=name) (a:=a) (cd:=cd) F hk
  have hL:g.get? L=none:=kts_self F
  have fr_g:∀ b∈outer.filterMap (·.frame),∃ o,g.get? b=some o:=fun b hb=>let ⟨_,o,ho,_⟩:=K.frames.mem hb;⟨o,ho⟩
  have he:=(N _ (.tail _ (.head _))).1
  have heg:=(N _ (.tail _ (.head _))).2.2
  have off:∀ b,g.get? b=none→b≠L→b≠e→b∉e::(envOf name scope L a cd::outer).filterMap (·.frame):=fun b hb h1 h2 hm=>by
    rcases List.mem_cons.mp hm with z|hm
    · exact h2 z
    · rcases kts_mem hm with z|z
      · exact h1 z
      · obtain ⟨o,ho⟩:=fr_g b z
        rw [hb] at ho;cases ho
  have offg:∀ b o,g.get? b=some o→b∉outer.filterMap (·.frame)→b∉e::(envOf name scope L a cd::outer).filterMap (·.frame):=fun b o hb hn hm=>by
    rcases List.mem_cons.mp hm with z|hm
    · have heg':g.get? e=none:=heg
      rw [z,heg'] at hb;cases hb
    · rcases kts_mem hm with z|z
      · rw [z,hL] at hb;cases hb
      · exact hn z
  have st:base.StaysIn (hideAll s'.heap (e::(envOf name scope L a cd::outer).filterMap (·.frame))):=fun b o q=>hideAll_get _ (K'.stays b o q) (offg b o (K.stays b o q) fun hm=>by
    rw [(K.frames.mem hm).1] at q;cases q)
  refine leaveD_first (base:=hideAll s'.heap (e::(envOf name scope L a cd::outer).filterMap (·.frame))) K'.stack (funFrames_hide K'.frames fun env henv b hb=>.tail _ (List.mem_filterMap.mpr ⟨env,henv,hb⟩)) rfl he (fun b o q=>of_hideAll _ q) (hideAll_none _ (.head _)) ⟨rfl,rfl⟩ rfl rfl fun h' fly up=>hQ h' ⟨⟨_,st, ?_, ?_, ?_,fly⟩, ?_, ?_⟩
  · intro b o hb hn ha
    have hg:=G b o hb ha
    exact hideAll_get _ (F.keep b o hg) (offg b o hg hn)
  · have z:=N _ (.head _)
    exact hideAll_get _ z.1 (off dx z.2.2 z.2.1 hne)
  · intro p hp
    have z:=N _ (.tail _ (.tail _ hp))
    exact hideAll_get _ z.1 (off p.1 z.2.2 z.2.1 (hoe p hp))
  · intro b o hb hm
    have hg:=G b o hb (hadr b hm)
    obtain ⟨_,o',ho',hd⟩:=K.frames.mem hm
    rw [hg] at ho'
    cases ho'
    exact up b o (F.keep b o hg) hd
  · intro o ho
    refine Classical.byContradiction fun hn=>?_
    have z:=G dx o ho hn
    rw [(N _ (.head _)).2.2] at z;cases z
theorem pass_thrown {h:Heap} {adr2:List Addr} {own2:List (Addr×Obj)} (K:Below A base outer g) (F:Fr g L h m) (T:Thrown h adr base (envOf name scope L a cd::outer) e dx od own s'.heap) (G:GSub H g adr2)
    (hadr:∀ b∈outer.filterMap (·.frame),b∉adr2) (hga:∀ b∈adr,g.get? b=none)
    (hown:∀ p∈own2,p∈own∨(h.get? p.1=some p.2∧p.1≠L∧g.get? p.1=none∧p.1∉adr))
    (hQ:∀ h',Thrown H adr2 base outer e dx od own2 h'→Q () {s' with heap:=h'}) :
    wpAny M (A.deeper (envOf name scope L a cd)) (leaving (envOf name scope L a cd) (.ref e)) Q E s':=by
  obtain ⟨⟨Bs,hB,hBh,hdx,hown',fly⟩,hfr,hnx⟩:=T
  have hL:g.get? L=none:=kts_self F
  have fr_g:∀ b∈outer.filterMap (·.frame),∃ o,g.get? b=some o:=fun b hb=>let ⟨_,o,ho,_⟩:=K.frames.mem hb;⟨o,ho⟩
  have offg:∀ b o,g.get? b=some o→b∉outer.filterMap (·.frame)→b∉(envOf name scope L a cd::outer).filterMap (·.frame):=fun b o hb hn hm=>by
    rcases kts_mem hm with z|z
    · rw [z,hL] at hb;cases hb
    · exact hn z
  refine leaveD_next (Around.frames_deeper K.stack) rfl fly fun h' fly' up=>hQ h' ⟨⟨Bs,hB, ?_,hdx, ?_,fly'⟩, ?_, ?_⟩
  · intro b o hb hn ha
    have hg:=G b o hb ha
    exact hBh b o (F.keep b o hg) (offg b o hg hn) fun q=>by rw [hga b q] at hg;cases hg
  · intro p hp
    rcases hown p hp with q|⟨h1,h2,h3,h4⟩
    · exact hown' p q
    · refine hBh _ _ h1 (fun hm=>?_) h4
      rcases kts_mem hm with z|z
      · exact h2 z
      · obtain ⟨o,ho⟩:=fr_g _ z
        rw [h3] at ho;cases ho
  · intro b o hb hm
    have hg:=G b o hb (hadr b hm)
    obtain ⟨_,o',ho',hd⟩:=K.frames.mem hm
    rw [hg] at ho'
    cases ho'
    obtain ⟨sl,hs⟩:=hfr b o (F.keep b o hg) (by
      obtain ⟨env,henv,hf⟩:=List.mem_filterMap.mp hm
      exact List.mem_filterMap.mpr ⟨env,.tail _ henv,hf⟩)
    obtain ⟨sl',hs'⟩:=up b _ hs hd
    exact ⟨sl',hs'⟩
  · intro o ho
    refine Classical.byContradiction fun hn=>?_
    have z:=G dx o ho hn
    have z2:=hga dx (hnx o (F.keep _ _ z))
    rw [z2] at z;cases z
theorem off_frames {own':List (Addr×Obj)} {h:Heap} (K:Below A base outer g) (N:News g L h own'):∀ b∈outer.filterMap (·.frame),b∉own'.map (·.1):=fun b hb hm=>by
  obtain ⟨_,o,ho,_⟩:=K.frames.mem hb
  obtain ⟨p,hp,e⟩:=List.mem_map.mp hm
  have:=(N p hp).2.2
  rw [e,ho] at this
  cases this
def FaultAt (od:Obj) (i:Int):Prop:=∃ ti f,OdIs od f∧f (Str.ofString "at")=some (.int i ti)
theorem faultAt_of {od:Obj} {i:Int} {ti:Tok} {v:Value} (O:OdIs od (fun y=>if y=Str.ofString "at" then some (.int i ti) else if y=Str.ofString "what" then some v else none)):FaultAt od i:=⟨ti,_,O,if_pos rfl⟩
theorem news_two {g h:Heap} {x y:Addr×Obj} {news:List (Addr×Obj)} (N:News g L h (x::y::news)):News g L h [x,y]:=news_sub N fun p hp=>by
  rcases List.mem_cons.mp hp with rfl|hp
  · exact .head _
  rcases List.mem_cons.mp hp with rfl|hp
  · exact .tail _ (.head _)
  cases hp
theorem fresh_two {g h:Heap} {a b:Addr} {x y:Obj} {news:List (Addr×Obj)} (N:News g L h ((a,x)::(b,y)::news)):∀ z∈[a,b],g.get? z=none:=fun z hz=>by
  rcases List.mem_cons.mp hz with rfl|hz
  · exact (N _ (.head _)).2.2
  rcases List.mem_cons.mp hz with rfl|hz
  · exact (N _ (.tail _ (.head _))).2.2
  cases hz
theorem off_fresh {adr':List Addr} (K:Below A base outer g) (hf:∀ z∈adr',g.get? z=none):∀ b∈outer.filterMap (·.frame),b∉adr':=fun b hb hm=>by
  obtain ⟨_,o,ho,_⟩:=K.frames.mem hb
  rw [hf b hm] at ho
  cases ho
theorem exc_two {g h:Heap} {news:List (Addr×Obj)} (N:News g L h ((dx,od)::(e,excObj 61 (some dx) #[.ref a0,.none,.none,.none,.bool false,.none])::news)):h.get? e=some (excObj 61 (some dx) #[.ref a0,.none,.none,.none,.bool false,.none]):=(N _ (.tail _ (.head _))).1
theorem exc_two_ne {g h:Heap} {news:List (Addr×Obj)} {mA:Str→Option Value} (N:News g L h ((dx,od)::(e,excObj 61 (some dx) #[.ref a0,.none,.none,.none,.bool false,.none])::news)) (O:OdIs od mA):@Ne Nat dx e:=fun q=>by
  have h1:=(N _ (.head _)).1
  have h2:=exc_two N
  have q':dx=e:=q
  simp only [q',h2] at h1
  obtain ⟨es,ep,hd,_⟩:=O
  injection h1 with h1
  rw [← h1] at hd
  cases hd
end
end
section
set_option Elab.async false
set_option maxRecDepth 100000
set_option maxHeartbeats 4000000
set_option linter.unusedVariables false
section
variable {prog:Program} {w:World} {A₀ A:Around} {s:Shared} {base h₀:Heap} {outer:List Env} {L a:Addr} {m:Str→Option Value} {cn:Str} {cs:Scope} {ccd:Value} {news:List (Addr×Obj)} {K:Frag} {p:Program} {loose:List Str} {mean:ExcName→Option Value} {mg mb:Str→Option Value}
    {R:Result→Shared→Prop} {name qual:Str} {params:Arguments} {body:List Stmt} {scope:Scope} {dV kV doc pm cdv ct oc:Value} {an od:Option Addr} {osl:Array (Option Value)} {f:Addr} {args:Args} {binds:List (Str×Value)}
theorem enter_S {env:Env} (B:Below A₀ base [] h₀) (F:Fr h₀ L s.heap m) (X₀:K.In h₀) (N:News h₀ L s.heap news) (T:Top p loose mean mg mb h₀) (hA:A.frames=some [env]) (hf:env.frame=some L) (hke:env.scope.kind=.function)
    (ho:K.lookup f=some ⟨oc,od,.func (fnOf name qual params body scope dV kV doc pm an cdv ct),osl⟩) (hcd:codeIn K cdv qual=true) (hroom:A.depth<recursionLimit)
    (hbind:BindsTo s (fnOf name qual params body scope dV kV doc pm an cdv ct) args binds) (hloc:∀ y∈binds,scope.names.lookup y.1=some .local)
    (h:∀ g L' h₁,Fr h₀ L g m→Fr g L' h₁ (fun y=>binds.reverse.lookup y)→News g L' h₁ news→Below A base [env] g→K.In g→Top p loose mean mg mb g→GSub s.heap g (news.map (·.1))→g.get? L'=none →
      wpAny (model prog w) (A.deeper (envOf qual scope L' f cdv)) (execs body (envOf qual scope L' f cdv))
        (fun fl s'=>LeaveS0 ([env].filterMap (·.frame)) h₀ L m g R (match fl with|.ret v=>v|_=>.none) s')
        (fun e s'=>wpAny (model prog w) (A.deeper (envOf qual scope L' f cdv)) (leaving (envOf qual scope L' f cdv) e) (fun _ s''=>R (.error e) s'') (fun e' s''=>R (.error e') s'') s')
        {s with heap:=h₁,toks:=s.toks+binds.length})
    (hco:scope.isCoroutine=false) (hgen:scope.isGenerator=false) (hk:scope.kind=.function)
    (hcell:∀ x∈scope.names,x.2≠.cell):codeAny (model prog w) A (.call (.ref f) args) R s:=by
  have X:=X₀.keeps F.keep
  obtain ⟨FG,BG,st,lv⟩:=groundX (R:=R) B F N hA hf hke
  have nL₀:h₀.get? L=none:=kts_self F
  obtain ⟨oL,es,ep,hL,hLd,hLk,hLf⟩:=F.ns
  have nL:L∉news.map (·.1):=fun q=>by
    obtain ⟨p,hp,e⟩:=List.mem_map.mp q
    exact (N p hp).2.1 e
  have hLg:=hideAll_get (news.map (·.1)) hL nL
  refine codeAny_call_def (fd:=fnOf name qual params body scope dV kV doc pm an cdv ct) (body:=body) (binds:=binds) hroom (X _ _ ho) rfl (T.nolimit.keeps F.keep) (codeRec_of X hcd) rfl hbind hcell hloc (fun h₁ hns hk₁=>?_) hco hgen hk
  have F₁:Fr (hideAll s.heap (news.map (·.1))) s.heap.objs.size h₁ (fun y=>binds.reverse.lookup y):=⟨hns,fun b o e=>hk₁ b o (of_hideAll _ e),Nat.le_of_eq (hideAll_size _ _)⟩
  have N₁:News (hideAll s.heap (news.map (·.1))) s.heap.objs.size h₁ news:=fun q hq=>⟨hk₁ _ _ (N q hq).1,Nat.ne_of_lt (Heap.lt_size (N q hq).1),hideAll_none _ (List.mem_map_of_mem hq)⟩
  refine wpAny_mono (h _ _ h₁ FG F₁ N₁ BG (X₀.keeps st) (T.keeps st) (gsub_hide _ _) (kts_self F₁)) (fun fl s' hl=>?_) fun _ _ y=>y
  obtain ⟨g',L',m',news',T',F',N',k⟩:=hl
  obtain ⟨sl,hs⟩:=T'.up hLg
  have mem1:∀ b,b∈[env].filterMap (·.frame)→b=L:=fun b hb=>by
    obtain ⟨e',he',hfe⟩:=List.mem_filterMap.mp hb
    rw [List.mem_singleton.mp he',hf] at hfe
    exact (Option.some.inj hfe).symm
  have off:∀ b o,h₀.get? b=some o→b∉[env].filterMap (·.frame):=fun b o e q=>by
    rw [mem1 b q,nL₀] at e;cases e
  have Fk:Fr h₀ L s'.heap m:=⟨⟨_,es,ep,F'.keep _ _ hs,hLd,hLk,hLf⟩,fun b o e=>F'.keep b o (T'.other b o (st b o e) (off b o e)),F.above⟩
  refine k Fk fun q hq=>⟨(N' q hq).1,fun z=>?_, ?_⟩
  · have:=(N' q hq).2.2
    rw [z,hs] at this;cases this
  · cases z:h₀.get? q.1 with
    | none=>rfl
    | some o =>
      obtain ⟨sl',hs'⟩:=T'.up (st _ _ z)
      have:=(N' q hq).2.2
      rw [hs'] at this;cases this
theorem mem_env1 {env:Env} {L b:Addr} (hf:env.frame=some L) (hb:b∈[env].filterMap (·.frame)):b=L:=by
  obtain ⟨e',he',hfe⟩:=List.mem_filterMap.mp hb
  rw [List.mem_singleton.mp he',hf] at hfe
  exact (Option.some.inj hfe).symm
end
section
abbrev caught_D_S {prog:Program} {w:World} {A₀:Around} {E:Value→Shared→Prop} {s':Shared} {base g H:Heap} {outer:List Env} {L a e dx:Addr} {od:Obj} {m:Str→Option Value} {name:Str} {scope:Scope} {cd:Value} {Q:Flow→Shared→Prop} {adr:List Addr} {rest:List (Addr×Obj)} {KF:Frag} {p:Program} {loose:List Str} {mean:ExcName→Option Value} {mg mb:Str→Option Value} {x n:Str} {np pos:Pos} {b₀:Stmt} {suite:List Stmt} {hs:List ExceptHandler}:Prop:=∀ (R:Thrown H adr base (envOf name scope L a cd::outer) e dx od [] s'.heap) (F:Fr g L H m) (K:Below A₀ base outer g) (X:KF.In g) (XB:KF.In base) (TB:Top p loose mean mg mb base) (Nr:News g L H rest) (hrest:∀ p∈rest,p.1∉adr) (hadr:∀ b∈adr,g.get? b=none) (hLa:L∉adr) (ex:nsIn KF mainGlobals x=some (some (.ref 61))) (q:ktsIn KF 61 "BaseException" = true) (k:∀ h' g' oe tk vs,KtsTurn (outer.filterMap (·.frame)) g g'→Fr g' L h' (fun y=>if y=n then some (.ref e) else m y)→News g' L h' ((e,oe)::(dx,od)::rest)→oe.cls=.ref 61→oe.dict=some dx→oe.data=.fields vs→Below A₀ base outer g'→KF.In g'→Top p loose mean mg mb g' →
      wpAny (model prog w) ((A₀.deeper (envOf name scope L a cd)).mark (some (.ref e))) (execs (b₀::suite) (envOf name scope L a cd))
        (fun f s₄=>wpAny (model prog w) (A₀.deeper (envOf name scope L a cd)) (do bindName (envOf name scope L a cd) n .none;unbindBehindTheSuite (envOf name scope L a cd) n pos) (fun _ s₅=>Q f s₅) E s₄)
        (AsSuiteRaised (model prog w) ((A₀.deeper (envOf name scope L a cd)).mark (some (.ref e))) (envOf name scope L a cd) n pos (notedBy (model prog w) ((A₀.deeper (envOf name scope L a cd)).mark (some (.ref e))) (envOf name scope L a cd) (cameBackBy (model prog w) (A₀.deeper (envOf name scope L a cd)) (envOf name scope L a cd) E)))
        {s' with heap:=h',toks:=tk}) (hk:scope.kind=.function:=by rfl) (hlo:(envOf name scope L a cd).kindOf n=some .local:=by rfl) (hx:(envOf name scope L a cd).kindOf x=some .globalImplicit:=by rfl) (hd:(x == ("__debug__" : Str))=false:=by decide),
    wpAny (model prog w) (A₀.deeper (envOf name scope L a cd)) (noteFrame (.ref e) (envOf name scope L a cd))
      (fun _ s₂=>wpAny (model prog w) (A₀.deeper (envOf name scope L a cd)) (setFlight (.ref e) none) (fun _ s₃ =>
        wpAny (model prog w) (A₀.deeper (envOf name scope L a cd)) (handleBy (.ref e) (envOf name scope L a cd) (.ExceptHandler (some (.Name x np)) (some n) (b₀::suite) pos::hs)) Q E s₃) E s₂) E s'
namespace caught_D_E
noncomputable section
def ep:=U fun prog=>U fun w=>U fun A₀=>U fun E=>U fun s'=>U fun base=>U fun g=>U fun H=>U fun outer=>U fun L=>U fun a=>U fun e=>U fun dx=>U fun od=>U fun m=>U fun name=>U fun scope=>U fun cd=>U fun Q=>U fun adr=>U fun rest=>U fun KF=>U fun p=>U fun loose=>U fun mean=>U fun mg=>U fun mb=>U fun x=>U fun n=>U fun np=>U fun pos=>U fun b₀=>U fun suite=>fun hs=>¬ @caught_D_S prog w A₀ E s' base g H outer L a e dx od m name scope cd Q adr rest KF p loose mean mg mb x n np pos b₀ suite hs
def ec:=pick ep (df,sW,callerA,df,{},{},{},{},[],0,0,0,0,df,df,df,df,df,df,[],[],[],df,[],df,df,df,df,df,df,df,df,[],[])
@[irreducible] def prog:=ec.1
@[irreducible] def w:=ec.2.1
@[irreducible] def A₀:=ec.2.2.1
@[irreducible] def E:=ec.2.2.2.1
@[irreducible] def s':=ec.2.2.2.2.1
@[irreducible] def base:=ec.2.2.2.2.2.1
@[irreducible] def g:=ec.2.2.2.2.2.2.1
def ec1:=ec.2.2.2.2.2.2.2
@[irreducible] def H:=ec1.1
@[irreducible] def outer:=ec1.2.1
@[irreducible] def L:=ec1.2.2.1
@[irreducible] def a:=ec1.2.2.2.1
@[irreducible] def e:=ec1.2.2.2.2.1
@[irreducible] def dx:=ec1.2.2.2.2.2.1
@[irreducible] def od:=ec1.2.2.2.2.2.2.1
def ec2:=ec1.2.2.2.2.2.2.2
@[irreducible] def m:=ec2.1
@[irreducible] def name:=ec2.2.1
@[irreducible] def scope:=ec2.2.2.1
@[irreducible] def cd:=ec2.2.2.2.1
@[irreducible] def Q:=ec2.2.2.2.2.1
@[irreducible] def adr:=ec2.2.2.2.2.2.1
@[irreducible] def rest:=ec2.2.2.2.2.2.2.1
def ec3:=ec2.2.2.2.2.2.2.2
@[irreducible] def KF:=ec3.1
@[irreducible] def p:=ec3.2.1
@[irreducible] def loose:=ec3.2.2.1
@[irreducible] def mean:=ec3.2.2.2.1
@[irreducible] def mg:=ec3.2.2.2.2.1
@[irreducible] def mb:=ec3.2.2.2.2.2.1
@[irreducible] def x:=ec3.2.2.2.2.2.2.1
def ec4:=ec3.2.2.2.2.2.2.2
@[irreducible] def n:=ec4.1
@[irreducible] def np:=ec4.2.1
@[irreducible] def pos:=ec4.2.2.1
@[irreducible] def b₀:=ec4.2.2.2.1
@[irreducible] def suite:=ec4.2.2.2.2.1
@[irreducible] def hs:=ec4.2.2.2.2.2
theorem ek:@caught_D_S prog w A₀ E s' base g H outer L a e dx od m name scope cd Q adr rest KF p loose mean mg mb x n np pos b₀ suite hs:=by
  intro R F K X XB TB Nr hrest hadr hLa ex q k hk hlo hx hd
  obtain ⟨⟨B,hB,hBH,hdx,_,fly⟩,hfr,hnx⟩:=R
  have hL:B.get? L=none:=by
    obtain ⟨_,⟨L',_,hf,hn',_⟩,_⟩:=fly.2.2.1
    obtain rfl:L=L':=Option.some.inj hf
    exact hn'
  have kH:∀ b o,(hideAll H adr).get? b=some o→H.get? b=some o∧b∉adr:=fun b o z=>by
    refine ⟨of_hideAll _ z,fun hm=>?_⟩
    rw [hideAll_none _ hm] at z;cases z
  have FG:Fr g L (hideAll H adr) m:=by
    obtain ⟨oL,es,ep,hoL,hdL,hLk,hLf⟩:=F.ns
    exact ⟨⟨oL,es,ep,hideAll_get _ hoL hLa,hdL,hLk,hLf⟩,fun b o z=>hideAll_get _ (F.keep b o z) (fun hm=>by rw [hadr b hm] at z;cases z),F.above⟩
  have hBG:∀ b o,(hideAll H adr).get? b=some o→b∉(envOf name scope L a cd::outer).filterMap (·.frame)→B.get? b=some o:=fun b o z hn=>hBH b o (kH b o z).1 hn (kH b o z).2
  have hsm:(hideAll H adr).UpToSlots s'.heap:=fun b o z hnf=>by
    by_cases hm:b∈(envOf name scope L a cd::outer).filterMap (·.frame)
    · exact hfr b o (kH b o z).1 hm
    · exact ⟨o.slots,fly.1 b o (hBG b o z hm)⟩
  refine noteD_next (Around.frames_deeper K.stack) rfl fly fun h₄ fly₄ hsm₄=>?_
  refine landD fly₄ fun h₅ fly₅ hsm₅'=>?_
  have hsm₅:=hsm₄.trans hsm₅'
  obtain ⟨g₅,T₅,F₅,K₅⟩:=kts_ground K FG hBG fly₅.1 (hsm.trans hsm₅)
  have X₅:KF.In g₅:=XB.keeps K₅.stays
  have P₅:TopRead p loose mg mb g₅:=topRead_of (TB.keeps K₅.stays)
  obtain ⟨ob,_,hob,hobc,_⟩:=fly₅.there
  obtain ⟨nm,q',N,bs,bm,hdct,sn,sub,ab,col,dd,k0,k1,k2,k3,k5,newId,hC,hbase,hbT⟩:=kts_cls X₅ q
  have hC₅:=F₅.keep _ _ hC
  refine wpAny_handleBy_cons (codeAny_handlers_test (name_K F₅ X₅ P₅ ex ?_ hk hx hd)) (by intro q;cases q)
  refine wpAny_excMatches_sub_self hC₅ hob hobc hbase (codeAny_handlers_suite_as ?_)
  refine landD fly₅ fun h₆ fly₆ hsm₆=>?_
  obtain ⟨g₆,T₆,F₆,K₆⟩:=kts_ground K FG hBG fly₆.1 ((hsm.trans hsm₅).trans hsm₆)
  obtain ⟨oe,ws,hoe,hoec,hoed,hoe0⟩:=fly₆.there
  have dead:∀ b o,g.get? b=some o→B.get? b=none→(∃ o',h₆.get? b=some o'∧∃ vs,o'.data=.fields vs)→False:=fun b o hb hn ho'=>by
    by_cases hm:b∈outer.filterMap (·.frame)
    · obtain ⟨_,o',ho2,hd2⟩:=K.frames.mem hm
      rw [hb] at ho2
      cases ho2
      obtain ⟨sl,hs2⟩:=((hsm.trans hsm₅).trans hsm₆) _ _ (FG.keep _ _ hb) hd2
      obtain ⟨o3,h3,vs3,d3⟩:=ho'
      rw [h3] at hs2
      cases hs2
      exact hd2 _ d3
    · have:=hBG b o (FG.keep b o hb) (fun hm'=>by
        rcases kts_mem hm' with z|z
        · rw [z,kts_self F] at hb;cases hb
        · exact hm z)
      rw [hn] at this;cases this
  have ne₆:g₆.get? e=none:=T₆.none_ _ (by
    cases z:g.get? e with
    | none=>rfl
    | some o=>exact (dead e o z fly₆.2.1 ⟨oe,hoe,ws,hoe0⟩).elim)
  have nd₆:g₆.get? dx=none:=T₆.none_ _ (by
    cases z:g.get? dx with
    | none=>rfl
    | some o =>
      have:=hadr dx (hnx o (F.keep _ _ z))
      rw [z] at this;cases this)
  have N₆:News g₆ L h₆ ((e,oe)::(dx,od)::rest):=by
    intro r hr
    rcases List.mem_cons.mp hr with rfl|hr
    · refine ⟨hoe,fun z=>?_,ne₆⟩
      obtain ⟨_,⟨L',oL,hf,_,hoL,hdL⟩,_⟩:=fly₆.2.2.1
      obtain rfl:L=L':=Option.some.inj hf
      have z':e=L:=z
      rw [z'] at hoe
      rw [hoe] at hoL
      cases hoL
      exact hdL _ hoe0
    rcases List.mem_cons.mp hr with rfl|hr
    · refine ⟨fly₆.1 _ _ hdx,fun z=>?_,nd₆⟩
      have z':dx=L:=z
      rw [z',hL] at hdx
      cases hdx
    · have hr':=Nr r hr
      refine ⟨fly₆.1 _ _ (hBG _ _ (hideAll_get _ hr'.1 (hrest r hr)) fun hm=>?_),hr'.2.1,T₆.none_ _ hr'.2.2⟩
      rcases kts_mem hm with z|z
      · exact hr'.2.1 z
      · obtain ⟨_,o,ho,_⟩:=K.frames.mem z
        rw [hr'.2.2] at ho;cases ho
  have X₆:KF.In g₆:=XB.keeps K₆.stays
  have P₆:Top p loose mean mg mb g₆:=TB.keeps K₆.stays
  refine stN F₆ N₆ (fun h₇ F₇ N₇=>?_) hk hlo
  exact k h₇ g₆ oe _ ws T₆ F₇ N₇ hoec hoed hoe0 K₆ X₆ P₆
end
end caught_D_E
theorem caught_D {prog:Program} {w:World} {A₀:Around} {E:Value→Shared→Prop} {s':Shared} {base g H:Heap} {outer:List Env} {L a e dx:Addr} {od:Obj} {m:Str→Option Value} {name:Str} {scope:Scope} {cd:Value} {Q:Flow→Shared→Prop} {adr:List Addr} {rest:List (Addr×Obj)} {KF:Frag} {p:Program} {loose:List Str} {mean:ExcName→Option Value} {mg mb:Str→Option Value} {x n:Str} {np pos:Pos} {b₀:Stmt} {suite:List Stmt} {hs:List ExceptHandler}:@caught_D_S prog w A₀ E s' base g H outer L a e dx od m name scope cd Q adr rest KF p loose mean mg mb x n np pos b₀ suite hs:=@Classical.byContradiction _ fun h=>pick_all (P:=caught_D_E.ep) (by with_unfolding_all exact fun k=>k @caught_D_E.ek) (prog,w,A₀,E,s',base,g,H,outer,L,a,e,dx,od,m,name,scope,cd,Q,adr,rest,KF,p,loose,mean,mg,mb,x,n,np,pos,b₀,suite,hs) h
end
end
section
set_option Elab.async false
set_option maxRecDepth 100000
set_option linter.unusedVariables false
set_option maxHeartbeats 4000000
set_option pp.deepTerms false
set_option pp.maxSteps 2000
section
variable {prog:Program} {w:World}
theorem codeG_call_def {A:Around} {s:Shared} {R:Result→Shared→Prop} {a:Addr} {o:Obj} {fd:FuncData} {body:List Stmt} {args:Args} {binds:List (Str×Value)}
    (hroom:A.depth<recursionLimit) (ho:s.heap.get? a=some o) (hdata:o.data=.func fd) (hlim:s.heap.NoLimit) (hcd:s.heap.CodeRec fd.code fd.qualname)
    (hbody:fd.body=.stmts body) (hbind:BindsTo s fd args binds)
    (hcell:∀ x∈fd.scope.names,x.2≠.cell) (hloc:∀ x∈binds,fd.scope.names.lookup x.1=some .local)
    (h:∀ h₀,h₀.Ns s.heap.objs.size (fun x=>binds.reverse.lookup x)→(∀ b o,s.heap.get? b=some o→h₀.get? b=some o) →
      wpG (model prog w) (A.deeper (callEnv fd s.heap.objs.size a)) (execs body (callEnv fd s.heap.objs.size a)) (fun f s'=>R (.ok (.ret (match f with|.ret v=>v|_=>.none))) s')
        (fun e s'=>wpAny (model prog w) (A.deeper (callEnv fd s.heap.objs.size a)) (leaving (callEnv fd s.heap.objs.size a) e) (fun _ s''=>R (.error e) s'') (fun e' s''=>R (.error e') s'') s')
        {s with heap:=h₀,toks:=s.toks+binds.length})
    (hco:fd.scope.isCoroutine=false:=by rfl) (hgen:fd.scope.isGenerator=false:=by rfl) (hk:fd.scope.kind=.function:=by rfl) :
    codeG (model prog w) A (.call (.ref a) args) R s:=by
  refine codeG_call_function hroom ho hdata hco hgen hbody hcd (hbind _ _ _ _ ?_)
  refine wpAny_newFunctionEnv hcell hloc (fun h₀ hns₀ hsb₀=>⟨hlim.fresh _ hsb₀,codeG_func (h h₀ hns₀ fun b o e=>?_)⟩) hk
  exact hsb₀.extBut b o (Nat.ne_of_lt (Heap.lt_size e)) (Heap.get?_push_of_some _ e)
end
section
variable {prog:Program} {w:World} {A₀ A:Around} {s:Shared} {base h₀:Heap} {outer:List Env} {L a:Addr} {m:Str→Option Value} {env:Env} {cn:Str} {cs:Scope} {ccd:Value} {news:List (Addr×Obj)} {K:Frag} {p:Program} {loose:List Str} {mean:ExcName→Option Value} {mg mb:Str→Option Value}
    {R:Result→Shared→Prop} {name qual:Str} {params:Arguments} {body:List Stmt} {scope:Scope} {dV kV doc pm cdv ct oc:Value} {an od:Option Addr} {osl:Array (Option Value)} {f:Addr} {args:Args} {binds:List (Str×Value)}
theorem enterG (B:Below A₀ base outer h₀) (F:Fr h₀ L s.heap m) (X₀:K.In h₀) (N:News h₀ L s.heap news) (T:Top p loose mean mg mb h₀) (hA:A.frames=some (env::outer)) (hf:env.frame=some L) (hke:env.scope.kind=.function)
    (ho:K.lookup f=some ⟨oc,od,.func (fnOf name qual params body scope dV kV doc pm an cdv ct),osl⟩) (hcd:codeIn K cdv qual=true) (hroom:A.depth<recursionLimit)
    (hbind:BindsTo s (fnOf name qual params body scope dV kV doc pm an cdv ct) args binds) (hloc:∀ y∈binds,scope.names.lookup y.1=some .local)
    (h:∀ g L' h₁,Fr h₀ L g m→Fr g L' h₁ (fun y=>binds.reverse.lookup y)→News g L' h₁ news→Below A base (env::outer) g→K.In g→Top p loose mean mg mb g→GSub s.heap g (news.map (·.1)) →
      wpG (model prog w) (A.deeper (envOf qual scope L' f cdv)) (execs body (envOf qual scope L' f cdv))
        (fun fl s'=>LeaveK h₀ L m g R (match fl with|.ret v=>v|_=>.none) s')
        (fun e s'=>wpAny (model prog w) (A.deeper (envOf qual scope L' f cdv)) (leaving (envOf qual scope L' f cdv) e) (fun _ s''=>R (.error e) s'') (fun e' s''=>R (.error e') s'') s')
        {s with heap:=h₁,toks:=s.toks+binds.length})
    (hco:scope.isCoroutine=false) (hgen:scope.isGenerator=false) (hk:scope.kind=.function)
    (hcell:∀ x∈scope.names,x.2≠.cell):codeG (model prog w) A (.call (.ref f) args) R s:=by
  obtain ⟨FG,BG,st,lv⟩:=groundX (R:=R) B F N hA hf hke
  refine codeG_call_def (fd:=fnX name qual params body scope [] dV kV doc pm an cdv ct) (body:=body) (binds:=binds) hroom ((X₀.keeps F.keep) _ _ ho) rfl (T.nolimit.keeps F.keep) (codeRec_of (X₀.keeps F.keep) hcd) rfl hbind hcell hloc (fun h₁ hns hk₁=>?_) hco hgen hk
  exact wpG_mono (h _ s.heap.objs.size h₁ FG ⟨hns,fun b o e=>hk₁ b o (of_hideAll _ e),Nat.le_of_eq (hideAll_size _ _)⟩
    (fun p hp=>⟨hk₁ _ _ (N p hp).1,Nat.ne_of_lt (Heap.lt_size (N p hp).1),hideAll_none _ (List.mem_map_of_mem hp)⟩) BG (X₀.keeps st) (T.keeps st) (fun b o e n=>hideAll_get _ e n)) (fun fl s' hl=>lv _ _ hl) fun _ _ y=>y
theorem enterSG (B:Below A₀ base [] h₀) (F:Fr h₀ L s.heap m) (X₀:K.In h₀) (N:News h₀ L s.heap news) (T:Top p loose mean mg mb h₀) (hA:A.frames=some [env]) (hf:env.frame=some L) (hke:env.scope.kind=.function)
    (ho:K.lookup f=some ⟨oc,od,.func (fnOf name qual params body scope dV kV doc pm an cdv ct),osl⟩) (hcd:codeIn K cdv qual=true) (hroom:A.depth<recursionLimit)
    (hbind:BindsTo s (fnOf name qual params body scope dV kV doc pm an cdv ct) args binds) (hloc:∀ y∈binds,scope.names.lookup y.1=some .local)
    (h:∀ g L' h₁,Fr h₀ L g m→Fr g L' h₁ (fun y=>binds.reverse.lookup y)→News g L' h₁ news→Below A base [env] g→K.In g→Top p loose mean mg mb g→GSub s.heap g (news.map (·.1))→g.get? L'=none →
      wpG (model prog w) (A.deeper (envOf qual scope L' f cdv)) (execs body (envOf qual scope L' f cdv))
        (fun fl s'=>LeaveS0 ([env].filterMap (·.frame)) h₀ L m g R (match fl with|.ret v=>v|_=>.none) s')
        (fun e s'=>wpAny (model prog w) (A.deeper (envOf qual scope L' f cdv)) (leaving (envOf qual scope L' f cdv) e) (fun _ s''=>R (.error e) s'') (fun e' s''=>R (.error e') s'') s')
        {s with heap:=h₁,toks:=s.toks+binds.length})
    (hco:scope.isCoroutine=false) (hgen:scope.isGenerator=false) (hk:scope.kind=.function)
    (hcell:∀ x∈scope.names,x.2≠.cell):codeG (model prog w) A (.call (.ref f) args) R s:=by
  have X:=X₀.keeps F.keep
  obtain ⟨FG,BG,st,lv⟩:=groundX (R:=R) B F N hA hf hke
  have nL₀:h₀.get? L=none:=kts_self F
  obtain ⟨oL,es,ep,hL,hLd,hLk,hLf⟩:=F.ns
  have nL:L∉news.map (·.1):=fun q=>by
    obtain ⟨p,hp,e⟩:=List.mem_map.mp q
    exact (N p hp).2.1 e
  have hLg:=hideAll_get (news.map (·.1)) hL nL
  refine codeG_call_def (fd:=fnOf name qual params body scope dV kV doc pm an cdv ct) (body:=body) (binds:=binds) hroom (X _ _ ho) rfl (T.nolimit.keeps F.keep) (codeRec_of X hcd) rfl hbind hcell hloc (fun h₁ hns hk₁=>?_) hco hgen hk
  have F₁:Fr (hideAll s.heap (news.map (·.1))) s.heap.objs.size h₁ (fun y=>binds.reverse.lookup y):=⟨hns,fun b o e=>hk₁ b o (of_hideAll _ e),Nat.le_of_eq (hideAll_size _ _)⟩
  have N₁:News (hideAll s.heap (news.map (·.1))) s.heap.objs.size h₁ news:=fun q hq=>⟨hk₁ _ _ (N q hq).1,Nat.ne_of_lt (Heap.lt_size (N q hq).1),hideAll_none _ (List.mem_map_of_mem hq)⟩
  refine wpG_mono (h _ _ h₁ FG F₁ N₁ BG (X₀.keeps st) (T.keeps st) (gsub_hide _ _) (kts_self F₁)) (fun fl s' hl=>?_) fun _ _ y=>y
  obtain ⟨g',L',m',news',T',F',N',k⟩:=hl
  obtain ⟨sl,hs⟩:=T'.up hLg
  have mem1:∀ b,b∈[env].filterMap (·.frame)→b=L:=fun b hb=>by
    obtain ⟨e',he',hfe⟩:=List.mem_filterMap.mp hb
    rw [List.mem_singleton.mp he',hf] at hfe
    exact (Option.some.inj hfe).symm
  have off:∀ b o,h₀.get? b=some o→b∉[env].filterMap (·.frame):=fun b o e q=>by
    rw [mem1 b q,nL₀] at e;cases e
  have Fk:Fr h₀ L s'.heap m:=⟨⟨_,es,ep,F'.keep _ _ hs,hLd,hLk,hLf⟩,fun b o e=>F'.keep b o (T'.other b o (st b o e) (off b o e)),F.above⟩
  refine k Fk fun q hq=>⟨(N' q hq).1,fun z=>?_, ?_⟩
  · have:=(N' q hq).2.2
    rw [z,hs] at this;cases this
  · cases z:h₀.get? q.1 with
    | none=>rfl
    | some o =>
      obtain ⟨sl',hs'⟩:=T'.up (st _ _ z)
      have:=(N' q hq).2.2
      rw [hs'] at this;cases this
end
end
section
set_option Elab.async false
set_option maxRecDepth 100000
set_option maxHeartbeats 4000000
set_option linter.unusedVariables false
set_option pp.deepTerms false
set_option pp.maxSteps 2000
theorem enterTopG {prog:Program} {w:World} {A:Around} {R:Result→Shared→Prop} {s:Shared} {name:Str} {params:Arguments} {body:List Stmt} {scope:Scope} {pm cd doc:Value} {a:Addr} {o:Obj} {args:List Value} {binds:List (Str×Value)}
    (hroom:A.depth<recursionLimit) (ho:s.heap.get? a=some o) (hdata:o.data=.func (Calls.docDef name params body scope pm cd doc)) (hlim:s.heap.NoLimit) (hcd:s.heap.CodeRec cd name)
    (hbind:BindsTo s (Calls.docDef name params body scope pm cd doc) ⟨args,[]⟩ binds)
    (hkind:(binds.all fun y=>scope.names.lookup y.1 == some .local || scope.names.lookup y.1 == some .cell)=true) (hnd:((cellsFrom 0 scope.names []).map (·.1)).Nodup)
    (h:∀ h₁ tk cells,Fr s.heap s.heap.objs.size h₁ (bindL (envOfC name scope s.heap.objs.size a cd).kindOf binds fun _=>none)→News s.heap s.heap.objs.size h₁ cells →
      CellsAre (bindC (envOfC name scope s.heap.objs.size a cd).kindOf binds fun _=>none) (cellsFrom (s.heap.objs.size+1) scope.names []) cells →
      wpG (model prog w) (A.deeper (envOfC name scope s.heap.objs.size a cd)) (execs body (envOfC name scope s.heap.objs.size a cd))
        (fun f s'=>R (.ok (.ret (match f with|.ret v=>v|_=>.none))) s')
        (fun e s'=>wpAny (model prog w) (A.deeper (envOfC name scope s.heap.objs.size a cd)) (leaving (envOfC name scope s.heap.objs.size a cd) e) (fun _ s''=>R (.error e) s'') (fun e' s''=>R (.error e') s'') s')
        {s with heap:=h₁,toks:=tk})
    (hco:scope.isCoroutine=false) (hgen:scope.isGenerator=false) (hk:scope.kind=.function):codeG (model prog w) A (.call (.ref a) ⟨args,[]⟩) R s:=by
  refine codeG_call_function hroom ho hdata hco hgen rfl hcd (hbind _ _ _ _ ?_)
  refine wpAny_newFunctionEnv_cells hk (kindsX hkind _) fun env' he s' x=>?_
  subst he
  refine ⟨hlim.keeps x.toInCall.keep,codeG_func ?_⟩
  obtain ⟨h₁,tk,rfl,_⟩:=x.done
  obtain ⟨cells,NC,Y⟩:=Cl.news (h₀:=s.heap) (Nat.le_refl _) fun n c hm=>⟨x.cell n c (lookup_of_mem_nodup (cellsFrom_names scope.names 0 (s.heap.objs.size+1) [] [] rfl ▸ hnd) hm),x.above n c hm⟩
  exact h h₁ tk cells ⟨x.toInCall.ns,x.toInCall.keep,Nat.le_refl _⟩ NC Y
end
section
set_option Elab.async false
set_option maxRecDepth 100000
def bit (f:Int) (i:Nat):Bool:=decide (f / 2 ^ i % 2=1)
def ones (f:Int):Nat:=((List.range 8).filter (bit f)).length
def num2 (ks:List Int) (i:Int):Int:=256*ks.getD i.toNat 0+ks.getD (i.toNat+1) 0
def sgn (n:Int):Int:=if n<32768 then n else n - 65536
theorem bitAnd_one {x:Int} (h:0≤x):Builtin.bitAnd x 1=x % 2:=by
  obtain ⟨n,rfl⟩:=Int.eq_ofNat_of_zero_le h
  show ((n &&& 1:Nat):Int)=_
  rw [Nat.and_one_is_mod]
  omega
theorem pow_pos2 (k:Nat):(0:Int)<2 ^ k:=Int.pow_pos (by decide)
theorem fdiv_pow {f:Int} (k:Nat):f.fdiv (2 ^ k)=f / 2 ^ k:=by
  rw [Int.fdiv_eq_ediv_of_nonneg _ (Int.le_of_lt (pow_pos2 k))]
theorem div_pow_nonneg {f:Int} (h:0≤f) (k:Nat):0≤f / 2 ^ k:=Int.ediv_nonneg h (Int.le_of_lt (pow_pos2 k))
theorem and_bit {f:Int} (h:0≤f) (k:Nat):(Builtin.bitAnd (f.fdiv (2 ^ k)) 1=1)=(bit f k=true):=by
  rw [fdiv_pow,bitAnd_one (div_pow_nonneg h k)]
  simp [bit]
theorem fmod_bit (f:Int) (k:Nat):((f.fdiv (2 ^ k)).fmod 2=1)=(bit f k=true):=by
  rw [fdiv_pow,Int.fmod_eq_emod_of_nonneg _ (by decide)]
  simp [bit]
theorem fold_filter {α:Type} (p:α→Prop) [DecidablePred p] (q:α→Bool) (hpq:∀ x,p x↔q x=true):∀ (l acc:List α),l.foldl (fun l' k'=>if p k' then l'++[k'] else l') acc=acc++l.filter q
  | [],acc=>by simp
  | x::r,acc=>by
    rw [List.foldl_cons,fold_filter p q hpq r,List.filter_cons]
    by_cases h:p x
    · rw [if_pos h,if_pos ((hpq x).mp h)];simp
    · rw [if_neg h,if_neg (fun e=>h ((hpq x).mpr e))]
theorem rangeKs8:rangeKs 0 8=[0,1,2,3,4,5,6,7]:=by decide
theorem ones_eq (f:Int):(((rangeKs 0 8).filter fun k=>bit f k.toNat).length:Int)=ones f:=by
  rw [rangeKs8]
  show _=(((List.filter (bit f) [0,1,2,3,4,5,6,7]).length:Nat):Int)
  have:[(0:Int),1,2,3,4,5,6,7]=List.map (fun n:Nat=>(n:Int)) [0,1,2,3,4,5,6,7]:=by decide
  rw [this,List.filter_map,List.length_map]
  rfl
theorem size_of_val {f:Int} (h:0≤f):(2*(((List.foldl (fun l' k'=>if Builtin.bitAnd (f.fdiv (2 ^ k'.toNat)) 1=1 then l'++[k'] else l') ([]:List Int) (rangeKs 0 (2*4 - 0:Int).toNat)).length:Nat):Int))=2*(ones f:Int):=by
  rw [fold_filter _ (fun k=>bit f k.toNat) (fun k=>by rw [and_bit h])]
  rw [List.nil_append]
  exact congrArg (2*·) (ones_eq f)
theorem ones_val (f:Int):(((List.foldl (fun l' k'=>if (f.fdiv (2 ^ k'.toNat)).fmod 2=1 then l'++[k'] else l') ([]:List Int) (rangeKs 0 (8 - 0:Int).toNat)).length:Nat):Int)=(ones f:Int):=by
  rw [fold_filter _ (fun k=>bit f k.toNat) (fun k=>by rw [fmod_bit])]
  rw [List.nil_append]
  exact ones_eq f
theorem cut2 {ks:List Int} {i:Int} (h0:0≤i) (h1:i+2≤ks.length) :
    (ks.drop (clipAt ks.length i)).take (clipAt ks.length (i+2) - clipAt ks.length i)=[ks.getD i.toNat 0,ks.getD (i.toNat+1) 0]:=by
  obtain ⟨n,rfl⟩:=Int.eq_ofNat_of_zero_le h0
  have a1:clipAt ks.length (n:Int)=n:=by
    have:=clipAt_nat ks.length n
    rw [this];omega
  have a2:clipAt ks.length ((n:Int)+2)=n+2:=by
    have:=clipAt_nat ks.length (n+2)
    have e:(((n+2:Nat)):Int)=(n:Int)+2:=by omega
    rw [← e,this];omega
  rw [a1,a2]
  have h2:n+2≤ks.length:=by omega
  have e2:n+2 - n=2:=by omega
  rw [e2]
  have d0:ks.drop n=ks[n]'(by omega)::ks[n+1]'(by omega)::ks.drop (n+2):=by
    rw [List.drop_eq_getElem_cons (by omega),List.drop_eq_getElem_cons (by omega)]
  rw [d0]
  have g0:ks.getD n 0=ks[n]'(by omega):=by rw [List.getD_eq_getElem?_getD,List.getElem?_eq_getElem (by omega)];rfl
  have g1:ks.getD (n+1) 0=ks[n+1]'(by omega):=by rw [List.getD_eq_getElem?_getD,List.getElem?_eq_getElem (by omega)];rfl
  show [_,_]=[_,_]
  rw [Int.toNat_natCast,g0,g1]
theorem bitOr_nat (x y:Nat):Builtin.bitOr (x:Int) (y:Int)=((x ||| y:Nat):Int):=by
  have hx:¬ (0≤Builtin.bitNot (x:Int)):=by unfold Builtin.bitNot;omega
  have hy:¬ (0≤Builtin.bitNot (y:Int)):=by unfold Builtin.bitNot;omega
  unfold Builtin.bitOr Builtin.bitAnd
  simp only [hx,hy,decide_false]
  have e1:(Builtin.bitNot (Builtin.bitNot (x:Int))).toNat=x:=by unfold Builtin.bitNot;omega
  have e2:(Builtin.bitNot (Builtin.bitNot (y:Int))).toNat=y:=by unfold Builtin.bitNot;omega
  rw [e1,e2]
  unfold Builtin.bitNot
  omega
theorem bitOr_shl {a b:Int} (ha:0≤a) (hb:0≤b) (hb':b<256):Builtin.bitOr (a*2 ^ (8:Int).toNat) b=a*256+b:=by
  obtain ⟨x,rfl⟩:=Int.eq_ofNat_of_zero_le ha
  obtain ⟨y,rfl⟩:=Int.eq_ofNat_of_zero_le hb
  have e:(x:Int)*2 ^ (8:Int).toNat=((x*256:Nat):Int):=by
    show (x:Int)*256=_
    omega
  rw [e,bitOr_nat]
  have h2:x*256 ||| y=x*256+y:=by
    have:=Nat.two_pow_add_eq_or_of_lt (i:=8) (b:=y) (by omega) x
    rw [show (2:Nat) ^ 8=256 from rfl] at this
    rw [Nat.mul_comm x 256]
    exact this.symm
  rw [h2]
  omega
theorem or_shl {prog:Program} {w:World} {A:Around} {E:Value→Shared→Prop} {s:Shared} {a b:Int} {t u:Tok} {Q:Value→Shared→Prop} (ha:0≤a) (hb:0≤b) (hb':b<256)
    (h:Q (.int (a*256+b) s.toks) {s with toks:=s.toks+1}):wpAny (model prog w) A (binaryOp .BitOr (.int (a*2 ^ (8:Int).toNat) t) (.int b u)) Q E s :=
  or_int (by rw [bitOr_shl ha hb hb'];exact h)
theorem num2_range {d:Array UInt8} {ks:List Int} (hb:KBw.bInts d=ks) (i:Int):0≤num2 ks i∧num2 ks i<65536:=by
  subst hb
  have h1:=KBw.getD_in (ks:=KBw.bInts d) (j:=i.toNat) fun k hk=>KBw.ints_in hk
  have h2:=KBw.getD_in (ks:=KBw.bInts d) (j:=i.toNat+1) fun k hk=>KBw.ints_in hk
  unfold num2
  omega
end
local macro_rules | `(tactic| ktr_room)=>`(tactic| first|(with_reducible exact room1 (by with_reducible assumption) (by decide))|(with_reducible exact room2 (by with_reducible assumption) (by decide))|(with_reducible exact room3 (by with_reducible assumption) (by decide))|(with_reducible exact room0 (by with_reducible assumption)))
local macro_rules | `(tactic| ktr_units)=>`(tactic| first|(with_reducible exact room1 (by with_reducible assumption) (by decide))|(with_reducible exact room2 (by with_reducible assumption) (by decide))|(with_reducible exact room3 (by with_reducible assumption) (by decide))|(with_reducible exact room0 (by with_reducible assumption)))
local macro_rules | `(tactic| walk_at "execs cons")=>`(tactic| ((with_reducible refine gen_toks ?_);intro tk9;(try dsimp only);(rename News _ _ _ _=>nZ);(rename Fr _ _ _ _=>fZ);(try dsimp only at nZ);(try dsimp only at fZ)))
local macro_rules | `(tactic| k_ne)=>`(tactic| (refine neN ?_;(try dsimp only);first|with_reducible assumption|exact Ne.symm (by with_reducible assumption)|omega))
local macro_rules | `(tactic| k_room)=>`(tactic| ktr_room)
local macro_rules | `(tactic| k_units)=>`(tactic| ktr_units)
local macro_rules | `(tactic| k_all)=>`(tactic| first|exact allLt_ne (by assumption)|exact allLt_ne2 (by assumption)|exact allLt_ne3 (by assumption)|exact allLt_ne4 (by assumption)|exact allLt_ne5 (by assumption))
local macro_rules | `(tactic| cell_enter)=>`(tactic| (refine' code_defG ?k1 ?k2 ?k3 ?k4 ?k5 ?kA ?kF ?kK ?k6 ?k7 ?k8 ?k9 ?kB ?_ ?c2 ?c3 ?c4 ?c5;(case kA=>exact rfl);(case kF=>exact rfl);(case kK=>assumption);(case k1=>k_asm);(case k2=>k_asm);(case k3=>k_asm);(case k4=>k_asm);(case k5=>k_asm);(case k6=>k_is);(case k7=>k_is);(case k8=>ktr_room);(case k9=>exact BindsTo.of_eq rfl);(case c5=>decide);(case kB=>exact locs rfl);(case c2=>exact rfl);(case c3=>exact rfl);(case c4=>exact rfl);k_whole;intro g' L' h' FG' F' N' B' X' T' kG';(try dsimp only);(try k_lift B');(try k_fold)))
local macro_rules | `(tactic| cell_enter)=>`(tactic| (refine' enter_cells ?k1 ?k2 ?k3 ?k4 ?k5 ?kA ?kF ?kK ?k6 ?k7 ?k8 ?k9 ?kB ?kD ?_ ?c2 ?c3 ?c4;(case kA=>exact rfl);(case kF=>exact rfl);(case kK=>assumption);(case k1=>k_asm);(case k2=>k_asm);(case k3=>k_asm);(case k4=>k_asm);(case k5=>k_asm);(case k6=>k_is);(case k7=>k_is);(case k8=>ktr_room);(case k9=>exact BindsTo.of_eq rfl);(case kB=>exact rfl);(case kD=>decide +kernel);(case c2=>exact rfl);(case c3=>exact rfl);(case c4=>exact rfl);k_whole;intro g' L' h' tk' cells' FG' F' N' Y' B' X' T' l1 kG';(try k_lt l1);k_cells Y';(try simp only [List.cons_append,List.nil_append] at N');(try dsimp only);(try k_lift B');(try k_fold)))
section
set_option Elab.async false
set_option maxRecDepth 100000
set_option maxHeartbeats 4000000
set_option linter.unusedVariables false
set_option pp.deepTerms false
set_option pp.maxSteps 2000
section
variable {w:World} {p:Program} {loose:List Str} {mean:ExcName→Option Value} {mg mb:Str→Option Value} {dp un:Nat} {gd:Option (List Code)} {cn:Str} {cs:Scope} {a:Addr} {ccd:Value} {cl:List (Str×Addr)} {outer:List Env} {A₀:Around} {base h₀:Heap} {L:Addr} {m:Str→Option Value} {s:Shared} {Q E:Value→Shared→Prop}
local macro_rules | `(tactic| k_inst)=>`(tactic| (refine' InstAt.exc ?N ?h;(case N=>k_asm);(case h=>k_mem)))
theorem fault2_c {news:List (Addr×Obj)} (B:Below A₀ base outer h₀) (F:Fr h₀ L s.heap m) (X:(hd.heap_39 w.params).In h₀) (N:News h₀ L s.heap news) (T:Top p loose mean mg mb h₀) (hk:cs.kind=.function) (hd:dp+3<recursionLimit) (hu:un+24<cLine)
    {msg:Str} {i:Int} {tm ti:Tok}
    (hret:∀ e dx od a0 h' tk',Fr h₀ L h' m→News h₀ L h' ((dx,od)::(e,excObj 61 (some dx) #[.ref a0,.none,.none,.none,.bool false,.none])::news)→OdIs od (fun y=>if y="at" then some (.int i ti) else if y="what" then some (.str msg tm) else none)→Q (.ref e) {s with heap:=h',toks:=tk'}) :
    wpAny (model PySem.Challenge.rw_nu0167_01.row.prog w) (ktrTop dp un gd cn cs L a ccd cl outer) (call (.ref 61) [.str msg tm,.int i ti]) Q E s:=by
  k_dflt (refine' x_make ?k1 ?k2 ?k3 ?k4 ?k5 ?k6 ?k7 ?_;(case k1=>k_asm);(case k2=>k_asm);(case k3=>k_asm);(case k4=>k_is);(case k5=>k_is);(case k6=>k_is);(case k7=>size_fits))
  intro x' a' h' F' N' l1
  replace l1:=allLt_of l1
  k_dflt (refine' ks_code_super ?k1 ?k2 ?k3 ?k4 ?k5 ?kA ?kF ?kK ?k6 ?k7 ?k8 ?k9 ?kB ?_ ?c1 ?c2 ?c3 ?c4;(case kA=>exact rfl);(case kF=>exact rfl);(case kK=>assumption);(case k1=>k_asm);(case k2=>k_asm);(case k3=>k_asm);(case k4=>k_asm);(case k5=>k_asm);(case k6=>k_is);(case k7=>k_is);(case k8=>ktr_room);(case k9=>exact binds_K (by k_in) rfl (by k_is) rfl rfl rfl);(case kB=>exact locs rfl);(case c1=>decide);(case c2=>exact rfl);(case c3=>exact rfl);(case c4=>exact rfl);intro g' L' h' FG' F' N' B' X' T' l2;(try dsimp only);(try k_lift B'))
  (repeat' (first|(k_unfold;(try dsimp only))|(k_end;wrow_close)|(k_dflt (ks_step "attributeBase Call";k_here;k_dflt (refine ks_node (by k_asm) (by k_asm) (by k_asm) (by k_asm) (by k_is) (by rfl) (by rfl) (by k_inst) (by k_is) (by rfl) (by first|rfl|decide +kernel) (by k_is) (by k_is) (by k_is) (by k_is) (by decide) (by rfl) (by rfl) (by rfl) (by rfl) (by decide +kernel) (by first|boot_by_name|rfl|kernel_rfl) ?_;intro so' h' F' N' l1;(try k_lt l1))))|(k_dflt (ks_step "eval Call";refine ks_wpAt_MethodCall ?_))|(k_dflt (ks_step "exec Expr";refine ks_wpAt_Expr_any ?_))|(k_here;k_dflt (refine' x_set2 ?k1 ?k2 ?k3 ?k4 ?k5 ?k6 ?k7 ?k8 ?k9 ?k10 ?k11 ?_;(case k1=>k_asm);(case k2=>k_asm);(case k3=>k_asm);(case k9=>assumption);(case k7=>k_mem);(case k8=>k_updF);(case k4=>k_is);(case k5=>k_is);(case k6=>k_is);(case k10=>exact Within.cons _ _ Within.nil);(case k11=>decide));intro od' h' tk' F' N' O';(try dsimp only at N');(try k_sweep))|(k_here;k_dflt (refine' x_set1 ?k1 ?k2 ?k3 ?k4 ?k5 ?k6 ?k7 ?_;(case k1=>k_asm);(case k2=>k_asm);(case k3=>k_asm);(case k7=>k_updF);(case k4=>k_is);(case k5=>k_is);(case k6=>k_is));intro dx' od' h' tk' F' N' O' l1;(try dsimp only at N');(try k_lt l1);(try k_sweep))|((with_reducible show wpAny _ _ (call (Value.ref _) _) _ _ _);(k_here;(try dsimp only [List.nil_append,List.cons_append]);k_dflt (refine' x_init ?k1 ?k2 ?k3 ?k4 ?k5 ?k6 ?_;(case k1=>k_asm);(case k2=>k_asm);(case k3=>k_asm);(case k5=>k_mem);(case k6=>k_updF);(case k4=>k_is));intro a1' h' F' N';(try dsimp only at N');(try k_sweep)))|((with_reducible show Heap.get? _ _=some (mwObj _ _));k_dflt (exact News.get (by assumption) (by k_mem)))|(k_here;k_dflt (refine' x_callWith (by k_asm) (by k_mem) ?_))|(k_here;k_dflt (refine' x_method ?k1 ?k2 ?k3 ?k4 ?k5 ?k6 ?k7 ?k8 ?_;(case k1=>k_asm);(case k2=>k_asm);(case k3=>k_asm);(case k5=>k_mem);(case k6=>k_mem);(case k4=>k_is);(case k7=>k_is);(case k8=>decide));intro mw' h' F' N' l1;(try k_lt l1);(try k_sweep))|walk1|(dsimp only;walk1)|(leave1;walk_say "STEP leave1";try dsimp only)|fail "no step"))
  exact hret _ _ _ _ _ _ (by assumption) (news_sub (by assumption) (fun p hp=>by
    rcases List.mem_cons.mp hp with rfl|hp
    · exact .head _
    rcases List.mem_cons.mp hp with rfl|hp
    · exact .tail _ (.tail _ (.tail _ (.head _)))
    exact .tail _ (.tail _ (.tail _ (.tail _ hp))))) (by assumption)
theorem fault1_c {news:List (Addr×Obj)} (B:Below A₀ base outer h₀) (F:Fr h₀ L s.heap m) (X:(hd.heap_39 w.params).In h₀) (N:News h₀ L s.heap news) (T:Top p loose mean mg mb h₀) (hk:cs.kind=.function) (hd:dp+3<recursionLimit) (hu:un+24<cLine)
    {msg:Str} {tm:Tok}
    (hret:∀ ti e dx od a0 h' tk',Fr h₀ L h' m→News h₀ L h' ((dx,od)::(e,excObj 61 (some dx) #[.ref a0,.none,.none,.none,.bool false,.none])::news)→OdIs od (fun y=>if y="at" then some (.int (-1) ti) else if y="what" then some (.str msg tm) else none)→Q (.ref e) {s with heap:=h',toks:=tk'}) :
    wpAny (model PySem.Challenge.rw_nu0167_01.row.prog w) (ktrTop dp un gd cn cs L a ccd cl outer) (call (.ref 61) [.str msg tm]) Q E s:=by
  k_dflt (refine' x_make ?k1 ?k2 ?k3 ?k4 ?k5 ?k6 ?k7 ?_;(case k1=>k_asm);(case k2=>k_asm);(case k3=>k_asm);(case k4=>k_is);(case k5=>k_is);(case k6=>k_is);(case k7=>size_fits))
  intro x' a' h' F' N' l1
  replace l1:=allLt_of l1
  k_dflt (refine' ks_code_super ?k1 ?k2 ?k3 ?k4 ?k5 ?kA ?kF ?kK ?k6 ?k7 ?k8 ?k9 ?kB ?_ ?c1 ?c2 ?c3 ?c4;(case kA=>exact rfl);(case kF=>exact rfl);(case kK=>assumption);(case k1=>k_asm);(case k2=>k_asm);(case k3=>k_asm);(case k4=>k_asm);(case k5=>k_asm);(case k6=>k_is);(case k7=>k_is);(case k8=>ktr_room);(case k9=>exact binds_K (by k_in) rfl (by k_is) rfl rfl rfl);(case kB=>exact locs rfl);(case c1=>decide);(case c2=>exact rfl);(case c3=>exact rfl);(case c4=>exact rfl);intro g' L' h' FG' F' N' B' X' T' l2;(try dsimp only);(try k_lift B'))
  (repeat' (first|(k_unfold;(try dsimp only))|(k_end;wrow_close)|(k_dflt (ks_step "attributeBase Call";k_here;k_dflt (refine ks_node (by k_asm) (by k_asm) (by k_asm) (by k_asm) (by k_is) (by rfl) (by rfl) (by k_inst) (by k_is) (by rfl) (by first|rfl|decide +kernel) (by k_is) (by k_is) (by k_is) (by k_is) (by decide) (by rfl) (by rfl) (by rfl) (by rfl) (by decide +kernel) (by first|boot_by_name|rfl|kernel_rfl) ?_;intro so' h' F' N' l1;(try k_lt l1))))|(k_dflt (ks_step "eval Call";refine ks_wpAt_MethodCall ?_))|(k_dflt (ks_step "exec Expr";refine ks_wpAt_Expr_any ?_))|(k_here;k_dflt (refine' x_set2 ?k1 ?k2 ?k3 ?k4 ?k5 ?k6 ?k7 ?k8 ?k9 ?k10 ?k11 ?_;(case k1=>k_asm);(case k2=>k_asm);(case k3=>k_asm);(case k9=>assumption);(case k7=>k_mem);(case k8=>k_updF);(case k4=>k_is);(case k5=>k_is);(case k6=>k_is);(case k10=>exact Within.cons _ _ Within.nil);(case k11=>decide));intro od' h' tk' F' N' O';(try dsimp only at N');(try k_sweep))|(k_here;k_dflt (refine' x_set1 ?k1 ?k2 ?k3 ?k4 ?k5 ?k6 ?k7 ?_;(case k1=>k_asm);(case k2=>k_asm);(case k3=>k_asm);(case k7=>k_updF);(case k4=>k_is);(case k5=>k_is);(case k6=>k_is));intro dx' od' h' tk' F' N' O' l1;(try dsimp only at N');(try k_lt l1);(try k_sweep))|((with_reducible show wpAny _ _ (call (Value.ref _) _) _ _ _);(k_here;(try dsimp only [List.nil_append,List.cons_append]);k_dflt (refine' x_init ?k1 ?k2 ?k3 ?k4 ?k5 ?k6 ?_;(case k1=>k_asm);(case k2=>k_asm);(case k3=>k_asm);(case k5=>k_mem);(case k6=>k_updF);(case k4=>k_is));intro a1' h' F' N';(try dsimp only at N');(try k_sweep)))|((with_reducible show Heap.get? _ _=some (mwObj _ _));k_dflt (exact News.get (by assumption) (by k_mem)))|(k_here;k_dflt (refine' x_callWith (by k_asm) (by k_mem) ?_))|(k_here;k_dflt (refine' x_method ?k1 ?k2 ?k3 ?k4 ?k5 ?k6 ?k7 ?k8 ?_;(case k1=>k_asm);(case k2=>k_asm);(case k3=>k_asm);(case k5=>k_mem);(case k6=>k_mem);(case k4=>k_is);(case k7=>k_is);(case k8=>decide));intro mw' h' F' N' l1;(try k_lt l1);(try k_sweep))|walk1|(dsimp only;walk1)|(leave1;walk_say "STEP leave1";try dsimp only)|fail "no step"))
  exact hret _ _ _ _ _ _ _ (by assumption) (news_sub (by assumption) (fun p hp=>by
    rcases List.mem_cons.mp hp with rfl|hp
    · exact .head _
    rcases List.mem_cons.mp hp with rfl|hp
    · exact .tail _ (.tail _ (.tail _ (.head _)))
    exact .tail _ (.tail _ (.tail _ (.tail _ hp))))) (by assumption)
end
end
section
set_option Elab.async false
set_option maxRecDepth 100000
set_option maxHeartbeats 4000000
set_option linter.unusedVariables false
set_option pp.deepTerms false
set_option pp.maxSteps 2000
section
variable {w:World} {p:Program} {loose:List Str} {mean:ExcName→Option Value} {mg mb:Str→Option Value} {dp un:Nat} {gd:Option (List Code)} {cn:Str} {cs:Scope} {a:Addr} {ccd:Value} {cl:List (Str×Addr)} {outer:List Env} {A₀:Around} {base h₀:Heap} {L:Addr} {m:Str→Option Value} {s:Shared} {Q E:Value→Shared→Prop}
theorem signed_c (B:Below A₀ base outer h₀) (F:Fr h₀ L s.heap m) (X:(hd.heap_39 w.params).In h₀) (N:News h₀ L s.heap []) (T:Top p loose mean mg mb h₀) (hk:cs.kind=.function) (hd:dp+1<recursionLimit) (hu:un+8<cLine)
    {n:Int} {t t2:Tok} (h0:0≤n) (h1:n<65536)
    (hret:∀ (t:Tok) h' tk',Fr h₀ L h' m→KeepBut [] s.heap h'→Q (.int (sgn n) t) {s with heap:=h',toks:=tk'}) :
    wpAny (model PySem.Challenge.rw_nu0167_01.row.prog w) (ktrTop dp un gd cn cs L a ccd cl outer) (call (.ref 194) [.int n t,.int 16 t2]) Q E s:=by
  refine wpAny_call ?_
  k_dflt cell_enter
  k_steps
  · have hb:n.fdiv (2 ^ (16 - 1:Int).toNat)=1:=by assumption
    have e:n - 1*2 ^ Int.toNat 16=sgn n:=by
      rw [fdiv_pow] at hb
      have h2:(2:Int) ^ (16 - 1:Int).toNat=32768:=by decide
      have h3:(1:Int)*2 ^ Int.toNat 16=65536:=by decide
      rw [h2] at hb
      rw [h3]
      unfold sgn
      rw [if_neg (by omega)]
    rw [e]
    exact hret _ _ _ (by assumption) (keepBut_of (by assumption) (by assumption))
  · have hb:¬ n.fdiv (2 ^ (16 - 1:Int).toNat)=1:=by assumption
    have e:n=sgn n:=by
      rw [fdiv_pow] at hb
      have h2:(2:Int) ^ (16 - 1:Int).toNat=32768:=by decide
      rw [h2] at hb
      unfold sgn
      rw [if_pos (by omega)]
    rw [← e] at hret
    exact hret _ _ _ (by assumption) (keepBut_of (by assumption) (by assumption))
theorem size_of_c (B:Below A₀ base outer h₀) (F:Fr h₀ L s.heap m) (X:(hd.heap_39 w.params).In h₀) (N:News h₀ L s.heap []) (T:Top p loose mean mg mb h₀) (hk:cs.kind=.function) (hd:dp+1<recursionLimit) (hu:un+8<cLine)
    {f:Int} {tf:Tok} (h0:0≤f)
    (hret:∀ (t:Tok) h' tk',Fr h₀ L h' m→KeepBut [] s.heap h'→Q (.int (2*(ones f:Int)) t) {s with heap:=h',toks:=tk'}) :
    wpAny (model PySem.Challenge.rw_nu0167_01.row.prog w) (ktrTop dp un gd cn cs L a ccd cl outer) (call (.ref 110) [.int f tf]) Q E s:=by
  refine wpAny_call ?_
  k_dflt cell_enter
  k_steps
  rw [size_of_val h0]
  exact hret _ _ _ (by assumption) (keepBut_of (by assumption) (by assumption))
theorem ones_c (B:Below A₀ base outer h₀) (F:Fr h₀ L s.heap m) (X:(hd.heap_39 w.params).In h₀) (N:News h₀ L s.heap []) (T:Top p loose mean mg mb h₀) (hk:cs.kind=.function) (hd:dp+1<recursionLimit) (hu:un+8<cLine)
    {f:Int} {tf:Tok} (h0:0≤f)
    (hret:∀ (t:Tok) h' tk',Fr h₀ L h' m→KeepBut [] s.heap h'→Q (.int (ones f:Int) t) {s with heap:=h',toks:=tk'}) :
    wpAny (model PySem.Challenge.rw_nu0167_01.row.prog w) (ktrTop dp un gd cn cs L a ccd cl outer) (call (.ref 400) [.int f tf]) Q E s:=by
  refine wpAny_call ?_
  k_dflt cell_enter
  k_steps
  rw [ones_val]
  exact hret _ _ _ (by assumption) (keepBut_of (by assumption) (by assumption))
theorem check_ok (B:Below A₀ base outer h₀) (F:Fr h₀ L s.heap m) (X:(hd.heap_39 w.params).In h₀) (N:News h₀ L s.heap []) (T:Top p loose mean mg mb h₀) (hk:cs.kind=.function) (hd:dp+1<recursionLimit) (hu:un+8<cLine)
    {d:Array UInt8} {ks:List Int} {i:Int} {td ti tc:Tok} (hb:KBw.bInts d=ks) (hz:ks.length≤1000) (h0:0≤i) (h1:i+2≤ks.length)
    (hret:∀ h' tk',Fr h₀ L h' m→KeepBut [] s.heap h'→Q .none {s with heap:=h',toks:=tk'}) :
    wpAny (model PySem.Challenge.rw_nu0167_01.row.prog w) (ktrTop dp un gd cn cs L a ccd cl outer) (call (.ref 180) [.bytes d td,.int i ti,.int 2 tc]) Q E s:=by
  refine wpAny_call ?_
  k_dflt cell_enter
  k_steps
  exact hret _ _ (by assumption) (keepBut_of (by assumption) (by assumption))
end
end
section
set_option Elab.async false
set_option maxRecDepth 100000
set_option maxHeartbeats 4000000
set_option linter.unusedVariables false
set_option pp.deepTerms false
set_option pp.maxSteps 2000
section
variable {w:World} {p:Program} {loose:List Str} {mean:ExcName→Option Value} {mg mb:Str→Option Value} {dp un:Nat} {gd:Option (List Code)} {cn:Str} {cs:Scope} {a:Addr} {ccd:Value} {cl:List (Str×Addr)} {outer:List Env} {A₀:Around} {base h₀:Heap} {L:Addr} {m:Str→Option Value} {s:Shared} {Q E:Value→Shared→Prop}
local macro_rules | `(tactic| walk_at "exec For")=>`(tactic| (k_here;(rename Fr _ _ _ _=>lF');(with_unfolding_all refine' For_invVF lF' ?k1 ?k2 ?_;(case k1=>exact rfl);(case k2=>exact rfl);k_whole)))
local macro_rules | `(tactic| walk_at "pyIter bytes")=>`(tactic| ((rename Fr _ _ _ _=>lF');(rename News _ _ _ _=>lN');(with_unfolding_all refine iter_bytesUnr (l:=[_,_]) (by rfl) lF' lN' (Eq.trans (by assumption) (by assumption)) ?_);clear lF' lN';intro i' l1;(try k_lt l1)))
local macro_rules | `(tactic| walk_at "binaryOp BitOr int int")=>`(tactic| (k_here;refine or_shl (by first|assumption|omega) (by assumption) (by assumption) ?_))
theorem number_ok (B:Below A₀ base outer h₀) (F:Fr h₀ L s.heap m) (X:(hd.heap_39 w.params).In h₀) (N:News h₀ L s.heap []) (T:Top p loose mean mg mb h₀) (hk:cs.kind=.function) (hd:dp+2<recursionLimit) (hu:un+16<cLine)
    {d:Array UInt8} {ks:List Int} {i:Int} {td ti tc:Tok} (hb:KBw.bInts d=ks) (hz:ks.length≤1000) (h0:0≤i) (h1:i+2≤ks.length)
    (hret:∀ (t:Tok) h' tk',Fr h₀ L h' m→KeepBut [] s.heap h'→Q (.int (num2 ks i) t) {s with heap:=h',toks:=tk'}) :
    wpAny (model PySem.Challenge.rw_nu0167_01.row.prog w) (ktrTop dp un gd cn cs L a ccd cl outer) (call (.ref 187) [.bytes d td,.int i ti,.int 2 tc]) Q E s:=by
  refine wpAny_call ?_
  k_dflt cell_enter
  have hx:=cut2 h0 h1
  (repeat' (first|(k_unfold;(try dsimp only))|(k_end;wrow_close)|((with_reducible show wpAny _ _ (call (Value.ref _) _) _ _ _);with_reducible (k_here;(with_reducible show wpAny _ _ (call (Value.ref 180) _) _ _ _);k_dflt (refine' check_ok (by k_asm) (by k_asm) (by k_asm) (by exact News.nil) (by k_asm) (by exact rfl) (by ktr_room) (by ktr_units) (by assumption) (by assumption) (by omega) (by omega) ?_);intro h9 tk9 F9 K9;(have N9:=newsKeep (by assumption) K9);clear K9;(try k_sweep);(try dsimp only)))|walk1|(dsimp only;(with_reducible show wpAny _ _ (call (Value.ref _) _) _ _ _))|(dsimp only;walk1)|(leave1;walk_say "STEP leave1";try dsimp only)|fail "no step"))
  rw [show (0*256+ks.getD i.toNat 0)*256+ks.getD (i.toNat+1) 0=num2 ks i by unfold num2;omega]
  exact hret _ _ _ (by assumption) (keepBut_of (by assumption) (by assumption))
end
end
section
set_option Elab.async false
set_option maxRecDepth 100000
set_option maxHeartbeats 4000000
set_option linter.unusedVariables false
set_option pp.deepTerms false
set_option pp.maxSteps 2000
section
variable {w:World} {p:Program} {loose:List Str} {mean:ExcName→Option Value} {mg mb:Str→Option Value} {dp un:Nat} {gd:Option (List Code)} {cn:Str} {cs:Scope} {a:Addr} {ccd:Value} {cl:List (Str×Addr)} {outer:List Env} {A₀:Around} {base h₀:Heap} {L:Addr} {m:Str→Option Value} {s:Shared} {Q E:Value→Shared→Prop}
theorem in_number_ok (B:Below A₀ base outer h₀) (F:Fr h₀ L s.heap m) (X:(hd.heap_39 w.params).In h₀) {src ds:Addr} {d:Array UInt8} {ks:List Int} {i:Int} {td ti tc ka kb:Tok} {ea eb:Int}
    (N:News h₀ L s.heap [(src,instObj 280 ds),(ds,dictOf [⟨ea,.str (Str.ofString "data") ka,.bytes d td⟩,⟨eb,.str (Str.ofString "at") kb,.int i ti⟩] 2)]) (T:Top p loose mean mg mb h₀) (hk:cs.kind=.function) (hd:dp+3<recursionLimit) (hu:un+24<cLine)
    (hne:@Ne Nat src ds) (hb:KBw.bInts d=ks) (hz:ks.length≤1000) (h0:0≤i) (h1:i+2≤ks.length)
    (hret:∀ (t t':Tok) h' tk',Fr h₀ L h' m→News h₀ L h' [(src,instObj 280 ds),(ds,dictOf [⟨ea,.str (Str.ofString "data") ka,.bytes d td⟩,⟨eb,.str (Str.ofString "at") kb,.int (i+2) t'⟩] 2)]→KeepBut [src,ds] s.heap h'→Q (.int (num2 ks i) t) {s with heap:=h',toks:=tk'}) :
    wpAny (model PySem.Challenge.rw_nu0167_01.row.prog w) (ktrTop dp un gd cn cs L a ccd cl outer) (call (.ref 223) [.ref src,.int 2 tc]) Q E s:=by
  refine wpAny_call ?_
  k_dflt cell_enter
  (repeat' (first|(k_unfold;(try dsimp only))|(k_end;wrow_close)|((with_reducible show wpAny _ _ (call (Value.ref _) _) _ _ _);with_reducible (k_here;(with_reducible show wpAny _ _ (call (Value.ref 187) _) _ _ _);k_dflt (refine' number_ok (by k_asm) (by k_asm) (by k_asm) (by exact News.nil) (by k_asm) (by exact rfl) (by ktr_room) (by ktr_units) (by assumption) (by assumption) (by omega) (by omega) ?_);intro t9 h9 tk9 F9 K9;(have N9:=newsKeep (by assumption) K9);clear K9;(try k_sweep);(try dsimp only)))|walk1|(dsimp only;(with_reducible show wpAny _ _ (call (Value.ref _) _) _ _ _))|(dsimp only;walk1)|(leave1;walk_say "STEP leave1";try dsimp only)|fail "no step"))
  exact hret _ _ _ _ (by assumption) (by assumption) (keepBut_of (by assumption) (by assumption))
local macro_rules | `(tactic| k_all)=>`(tactic| ((with_reducible show Rest _ _ _);first|exact Rest.nil|(refine' Rest.keep ?ra ?rb;(case ra=>(repeat' (first|exact True.intro|refine And.intro (by k_ne) ?_));done);(case rb=>k_all))|(refine' Rest.drop ?_;k_all)))
theorem in_u16_ok (B:Below A₀ base outer h₀) (F:Fr h₀ L s.heap m) (X:(hd.heap_39 w.params).In h₀) {src ds:Addr} {d:Array UInt8} {ks:List Int} {i:Int} {td ti ka kb:Tok} {ea eb:Int}
    (N:News h₀ L s.heap [(src,instObj 280 ds),(ds,dictOf [⟨ea,.str (Str.ofString "data") ka,.bytes d td⟩,⟨eb,.str (Str.ofString "at") kb,.int i ti⟩] 2)]) (T:Top p loose mean mg mb h₀) (hk:cs.kind=.function) (hd:dp+4<recursionLimit) (hu:un+32<cLine)
    (hne:@Ne Nat src ds) (hb:KBw.bInts d=ks) (hz:ks.length≤1000) (h0:0≤i) (h1:i+2≤ks.length)
    (hret:∀ (t t':Tok) h' tk',Fr h₀ L h' m→News h₀ L h' [(src,instObj 280 ds),(ds,dictOf [⟨ea,.str (Str.ofString "data") ka,.bytes d td⟩,⟨eb,.str (Str.ofString "at") kb,.int (i+2) t'⟩] 2)]→KeepBut [src,ds] s.heap h'→Q (.int (num2 ks i) t) {s with heap:=h',toks:=tk'}) :
    wpAny (model PySem.Challenge.rw_nu0167_01.row.prog w) (ktrTop dp un gd cn cs L a ccd cl outer) (call (.ref 237) [.ref src]) Q E s:=by
  refine wpAny_call ?_
  k_dflt cell_enter
  (repeat' (first|(k_unfold;(try dsimp only))|(k_end;wrow_close)|((with_reducible show wpAny _ _ (call (Value.ref _) _) _ _ _);with_reducible (k_here;(try dsimp only [List.nil_append,List.cons_append]);(with_reducible show wpAny _ _ (call (Value.ref 223) _) _ _ _);k_dflt (refine' in_number_ok (by k_asm) (by k_asm) (by k_asm) (by ((refine news_sub (by assumption) ?_);k_allIn)) (by k_asm) (by exact rfl) (by ktr_room) (by ktr_units) (by k_ne) (by assumption) (by assumption) (by omega) (by omega) ?_);intro t9 t9' h9 tk9 F9 N9 K9;(have N8:=rejoin (by assumption) K9 N9 (by k_all));clear K9 N9;(simp only [List.cons_append,List.nil_append] at N8);(try k_sweep);(try dsimp only)))|walk1|(dsimp only;(with_reducible show wpAny _ _ (call (Value.ref _) _) _ _ _))|(dsimp only;walk1)|(leave1;walk_say "STEP leave1";try dsimp only)|fail "no step"))
  exact hret _ _ _ _ (by assumption) (by assumption) (keepBut_of (by assumption) (by assumption))
theorem in_i16_ok (B:Below A₀ base outer h₀) (F:Fr h₀ L s.heap m) (X:(hd.heap_39 w.params).In h₀) {src ds:Addr} {d:Array UInt8} {ks:List Int} {i:Int} {td ti ka kb:Tok} {ea eb:Int}
    (N:News h₀ L s.heap [(src,instObj 280 ds),(ds,dictOf [⟨ea,.str (Str.ofString "data") ka,.bytes d td⟩,⟨eb,.str (Str.ofString "at") kb,.int i ti⟩] 2)]) (T:Top p loose mean mg mb h₀) (hk:cs.kind=.function) (hd:dp+4<recursionLimit) (hu:un+32<cLine)
    (hne:@Ne Nat src ds) (hb:KBw.bInts d=ks) (hz:ks.length≤1000) (h0:0≤i) (h1:i+2≤ks.length)
    (hret:∀ (t t':Tok) h' tk',Fr h₀ L h' m→News h₀ L h' [(src,instObj 280 ds),(ds,dictOf [⟨ea,.str (Str.ofString "data") ka,.bytes d td⟩,⟨eb,.str (Str.ofString "at") kb,.int (i+2) t'⟩] 2)]→KeepBut [src,ds] s.heap h'→Q (.int (sgn (num2 ks i)) t) {s with heap:=h',toks:=tk'}) :
    wpAny (model PySem.Challenge.rw_nu0167_01.row.prog w) (ktrTop dp un gd cn cs L a ccd cl outer) (call (.ref 244) [.ref src]) Q E s:=by
  have hr:=num2_range hb i
  obtain ⟨hr0,hr1⟩:=hr
  refine wpAny_call ?_
  k_dflt cell_enter
  (repeat' (first|(k_unfold;(try dsimp only))|(k_end;wrow_close)|((with_reducible show wpAny _ _ (call (Value.ref _) _) _ _ _);with_reducible (first|(k_here;(try dsimp only [List.nil_append,List.cons_append]);(with_reducible show wpAny _ _ (call (Value.ref 194) _) _ _ _);k_dflt (refine' signed_c (by k_asm) (by k_asm) (by k_asm) (by exact News.nil) (by k_asm) (by exact rfl) (by ktr_room) (by ktr_units) (by assumption) (by assumption) ?_);intro t9 h9 tk9 F9 K9;(have N9:=newsKeep (by assumption) K9);clear K9;(try k_sweep);(try dsimp only))|(k_here;(try dsimp only [List.nil_append,List.cons_append]);(with_reducible show wpAny _ _ (call (Value.ref 223) _) _ _ _);k_dflt (refine' in_number_ok (by k_asm) (by k_asm) (by k_asm) (by ((refine news_sub (by assumption) ?_);k_allIn)) (by k_asm) (by exact rfl) (by ktr_room) (by ktr_units) (by k_ne) (by assumption) (by assumption) (by omega) (by omega) ?_);intro t9 t9' h9 tk9 F9 N9 K9;(have N8:=rejoin (by assumption) K9 N9 (by k_all));clear K9 N9;(simp only [List.cons_append,List.nil_append] at N8);(try k_sweep);(try dsimp only))))|walk1|(dsimp only;(with_reducible show wpAny _ _ (call (Value.ref _) _) _ _ _))|(dsimp only;walk1)|(leave1;walk_say "STEP leave1";try dsimp only)|fail "no step"))
  exact hret _ _ _ _ (by assumption) (by assumption) (keepBut_of (by assumption) (by assumption))
end
end
section
set_option Elab.async false
set_option maxRecDepth 100000
set_option maxHeartbeats 4000000
set_option linter.unusedVariables false
set_option pp.deepTerms false
set_option pp.maxSteps 2000
section
variable {w:World} {p:Program} {loose:List Str} {mean:ExcName→Option Value} {mg mb:Str→Option Value} {dp un:Nat} {gd:Option (List Code)} {cn:Str} {cs:Scope} {a:Addr} {ccd:Value} {cl:List (Str×Addr)} {outer:List Env} {A₀:Around} {base h₀:Heap} {L:Addr} {m:Str→Option Value} {s:Shared} {Q E:Value→Shared→Prop}
theorem check_raise (B:Below A₀ base outer h₀) (F:Fr h₀ L s.heap m) (X:(hd.heap_39 w.params).In h₀) (N:News h₀ L s.heap []) (T:Top p loose mean mg mb h₀) (hk:cs.kind=.function) (hd:dp+4<recursionLimit) (hu:un+32<cLine)
    {d:Array UInt8} {ks:List Int} {i:Int} {td ti tc:Tok} (hb:KBw.bInts d=ks) (hz:ks.length≤1000) (h0:0≤i) (h1:ks.length<i+2)
    (hraise:∀ e dx od h' tk',Thrown s.heap [] base (envX cn cs L a ccd cl::outer) e dx od [] h'→FaultAt od i→E (.ref e) {s with heap:=h',toks:=tk'}) :
    wpAny (model PySem.Challenge.rw_nu0167_01.row.prog w) (ktrTop dp un gd cn cs L a ccd cl outer) (call (.ref 180) [.bytes d td,.int i ti,.int 2 tc]) Q E s:=by
  refine wpAny_call ?_
  k_dflt cell_enter
  (repeat' (first|(k_unfold;(try dsimp only))|(k_end;wrow_close)|((with_reducible show wpAny _ _ (exec (Stmt.Raise ..) _) _ _ _);(with_reducible (k_dflt (refine' x_Raise (C:=61) (by k_asm) (by exact rfl) (by k_is) ?_))))|((with_reducible show wpAny _ _ (call (Value.ref _) _) _ _ _);with_reducible (k_here;(try dsimp only [List.nil_append,List.cons_append]);(with_reducible show wpAny _ _ (call (Value.ref 61) [_,_]) _ _ _);k_dflt (refine' fault2_c (by k_asm) (by k_asm) (by k_asm) (by k_asm) (by k_asm) (by exact rfl) (by ktr_room) (by ktr_units) ?_);intro e9 dx9 od9 a9 h9 tk9 F9 N9 O9))|walk1|(dsimp only;(with_reducible show wpAny _ _ (call (Value.ref _) _) _ _ _))|(dsimp only;walk1)|(leave1;walk_say "STEP leave1";try dsimp only)|fail "no step"))
  · exact exc_two (by assumption)
  · have FO:=faultAt_of (by assumption)
    refine leave_thrown (by assumption) (by assumption) (by assumption) (exc_two_ne (by assumption) (by assumption)) ?_ (by assumption) ?_ fun h' th=>hraise _ _ _ _ _ th FO
    · intro _ h;cases h
    · intro _ _ h;cases h
end
end
section
set_option Elab.async false
set_option maxRecDepth 100000
set_option maxHeartbeats 4000000
set_option linter.unusedVariables false
set_option pp.deepTerms false
set_option pp.maxSteps 2000
section
variable {w:World} {p:Program} {loose:List Str} {mean:ExcName→Option Value} {mg mb:Str→Option Value} {dp un:Nat} {gd:Option (List Code)} {cn:Str} {cs:Scope} {a:Addr} {ccd:Value} {cl:List (Str×Addr)} {outer:List Env} {A₀:Around} {base h₀:Heap} {L:Addr} {m:Str→Option Value} {s:Shared} {Q E:Value→Shared→Prop}
theorem number_raise (B:Below A₀ base outer h₀) (F:Fr h₀ L s.heap m) (X:(hd.heap_39 w.params).In h₀) (N:News h₀ L s.heap []) (T:Top p loose mean mg mb h₀) (hk:cs.kind=.function) (hd:dp+5<recursionLimit) (hu:un+40<cLine)
    {d:Array UInt8} {ks:List Int} {i:Int} {td ti tc:Tok} (hb:KBw.bInts d=ks) (hz:ks.length≤1000) (h0:0≤i) (h1:ks.length<i+2)
    (hraise:∀ e dx od h' tk',Thrown s.heap [] base (envX cn cs L a ccd cl::outer) e dx od [] h'→FaultAt od i→E (.ref e) {s with heap:=h',toks:=tk'}) :
    wpAny (model PySem.Challenge.rw_nu0167_01.row.prog w) (ktrTop dp un gd cn cs L a ccd cl outer) (call (.ref 187) [.bytes d td,.int i ti,.int 2 tc]) Q E s:=by
  refine wpAny_call ?_
  k_dflt cell_enter
  (repeat' (first|(k_unfold;(try dsimp only))|(k_end;wrow_close)|((with_reducible show wpAny _ _ (call (Value.ref _) _) _ _ _);with_reducible (k_here;(try dsimp only [List.nil_append,List.cons_append]);(with_reducible show wpAny _ _ (call (Value.ref 180) _) _ _ _);k_dflt (refine' check_raise (by k_asm) (by k_asm) (by k_asm) (by exact News.nil) (by k_asm) (by exact rfl) (by ktr_room) (by ktr_units) (by assumption) (by assumption) (by omega) (by omega) ?_);intro e9 dx9 od9 h9 tk9 th9 fa9;(try dsimp only)))|walk1|(dsimp only;(with_reducible show wpAny _ _ (call (Value.ref _) _) _ _ _))|(dsimp only;walk1)|(leave1;walk_say "STEP leave1";try dsimp only)|fail "no step"))
  refine pass_thrown (by assumption) (by assumption) (by assumption) (by assumption) ?_ ?_ ?_ fun h' th=>hraise _ _ _ _ _ th (by assumption)
  · intro _ _ h;cases h
  · intro _ h;cases h
  · intro _ h;cases h
theorem in_number_raise (B:Below A₀ base outer h₀) (F:Fr h₀ L s.heap m) (X:(hd.heap_39 w.params).In h₀) {src ds:Addr} {d:Array UInt8} {ks:List Int} {i:Int} {td ti tc ka kb:Tok} {ea eb:Int}
    (N:News h₀ L s.heap [(src,instObj 280 ds),(ds,dictOf [⟨ea,.str (Str.ofString "data") ka,.bytes d td⟩,⟨eb,.str (Str.ofString "at") kb,.int i ti⟩] 2)]) (T:Top p loose mean mg mb h₀) (hk:cs.kind=.function) (hd:dp+6<recursionLimit) (hu:un+48<cLine)
    (hne:@Ne Nat src ds) (hb:KBw.bInts d=ks) (hz:ks.length≤1000) (h0:0≤i) (h1:ks.length<i+2)
    (hraise:∀ e dx od h' tk',Thrown s.heap [src,ds] base (envX cn cs L a ccd cl::outer) e dx od [] h'→FaultAt od i→E (.ref e) {s with heap:=h',toks:=tk'}) :
    wpAny (model PySem.Challenge.rw_nu0167_01.row.prog w) (ktrTop dp un gd cn cs L a ccd cl outer) (call (.ref 223) [.ref src,.int 2 tc]) Q E s:=by
  refine wpAny_call ?_
  k_dflt cell_enter
  (repeat' (first|(k_unfold;(try dsimp only))|(k_end;wrow_close)|((with_reducible show wpAny _ _ (call (Value.ref _) _) _ _ _);with_reducible (k_here;(try dsimp only [List.nil_append,List.cons_append]);(with_reducible show wpAny _ _ (call (Value.ref 187) _) _ _ _);k_dflt (refine' number_raise (by k_asm) (by k_asm) (by k_asm) (by exact News.nil) (by k_asm) (by exact rfl) (by ktr_room) (by ktr_units) (by assumption) (by assumption) (by omega) (by omega) ?_);intro e9 dx9 od9 h9 tk9 th9 fa9;(try dsimp only)))|walk1|(dsimp only;(with_reducible show wpAny _ _ (call (Value.ref _) _) _ _ _))|(dsimp only;walk1)|(leave1;walk_say "STEP leave1";try dsimp only)|fail "no step"))
  refine pass_thrown (by assumption) (by assumption) (by assumption) (by assumption) ?_ ?_ ?_ fun h' th=>hraise _ _ _ _ _ th (by assumption)
  · exact off_frames (by assumption) (by assumption)
  · intro _ h;cases h
  · intro _ h;cases h
theorem in_u16_raise (B:Below A₀ base outer h₀) (F:Fr h₀ L s.heap m) (X:(hd.heap_39 w.params).In h₀) {src ds:Addr} {d:Array UInt8} {ks:List Int} {i:Int} {td ti ka kb:Tok} {ea eb:Int}
    (N:News h₀ L s.heap [(src,instObj 280 ds),(ds,dictOf [⟨ea,.str (Str.ofString "data") ka,.bytes d td⟩,⟨eb,.str (Str.ofString "at") kb,.int i ti⟩] 2)]) (T:Top p loose mean mg mb h₀) (hk:cs.kind=.function) (hd:dp+7<recursionLimit) (hu:un+56<cLine)
    (hne:@Ne Nat src ds) (hb:KBw.bInts d=ks) (hz:ks.length≤1000) (h0:0≤i) (h1:ks.length<i+2)
    (hraise:∀ e dx od h' tk',Thrown s.heap [src,ds] base (envX cn cs L a ccd cl::outer) e dx od [] h'→FaultAt od i→E (.ref e) {s with heap:=h',toks:=tk'}) :
    wpAny (model PySem.Challenge.rw_nu0167_01.row.prog w) (ktrTop dp un gd cn cs L a ccd cl outer) (call (.ref 237) [.ref src]) Q E s:=by
  refine wpAny_call ?_
  k_dflt cell_enter
  (repeat' (first|(k_unfold;(try dsimp only))|(k_end;wrow_close)|((with_reducible show wpAny _ _ (call (Value.ref _) _) _ _ _);with_reducible (k_here;(try dsimp only [List.nil_append,List.cons_append]);(with_reducible show wpAny _ _ (call (Value.ref 223) _) _ _ _);k_dflt (refine' in_number_raise (by k_asm) (by k_asm) (by k_asm) (by ((refine news_sub (by assumption) ?_);k_allIn)) (by k_asm) (by exact rfl) (by ktr_room) (by ktr_units) (by k_ne) (by assumption) (by assumption) (by omega) (by omega) ?_);intro e9 dx9 od9 h9 tk9 th9 fa9;(try dsimp only)))|walk1|(dsimp only;(with_reducible show wpAny _ _ (call (Value.ref _) _) _ _ _))|(dsimp only;walk1)|(leave1;walk_say "STEP leave1";try dsimp only)|fail "no step"))
  refine pass_thrown (by assumption) (by assumption) (by assumption) (by assumption) ?_ ?_ ?_ fun h' th=>hraise _ _ _ _ _ th (by assumption)
  · exact off_frames (by assumption) (by assumption)
  · intro b hb
    rcases List.mem_cons.mp hb with rfl|hb
    · exact News.fresh (by assumption) (.head _)
    rcases List.mem_cons.mp hb with rfl|hb
    · exact News.fresh (by assumption) (.tail _ (.head _))
    cases hb
  · intro _ h;cases h
theorem in_i16_raise (B:Below A₀ base outer h₀) (F:Fr h₀ L s.heap m) (X:(hd.heap_39 w.params).In h₀) {src ds:Addr} {d:Array UInt8} {ks:List Int} {i:Int} {td ti ka kb:Tok} {ea eb:Int}
    (N:News h₀ L s.heap [(src,instObj 280 ds),(ds,dictOf [⟨ea,.str (Str.ofString "data") ka,.bytes d td⟩,⟨eb,.str (Str.ofString "at") kb,.int i ti⟩] 2)]) (T:Top p loose mean mg mb h₀) (hk:cs.kind=.function) (hd:dp+7<recursionLimit) (hu:un+56<cLine)
    (hne:@Ne Nat src ds) (hb:KBw.bInts d=ks) (hz:ks.length≤1000) (h0:0≤i) (h1:ks.length<i+2)
    (hraise:∀ e dx od h' tk',Thrown s.heap [src,ds] base (envX cn cs L a ccd cl::outer) e dx od [] h'→FaultAt od i→E (.ref e) {s with heap:=h',toks:=tk'}) :
    wpAny (model PySem.Challenge.rw_nu0167_01.row.prog w) (ktrTop dp un gd cn cs L a ccd cl outer) (call (.ref 244) [.ref src]) Q E s:=by
  refine wpAny_call ?_
  k_dflt cell_enter
  (repeat' (first|(k_unfold;(try dsimp only))|(k_end;wrow_close)|((with_reducible show wpAny _ _ (call (Value.ref _) _) _ _ _);with_reducible (k_here;(try dsimp only [List.nil_append,List.cons_append]);(with_reducible show wpAny _ _ (call (Value.ref 223) _) _ _ _);k_dflt (refine' in_number_raise (by k_asm) (by k_asm) (by k_asm) (by ((refine news_sub (by assumption) ?_);k_allIn)) (by k_asm) (by exact rfl) (by ktr_room) (by ktr_units) (by k_ne) (by assumption) (by assumption) (by omega) (by omega) ?_);intro e9 dx9 od9 h9 tk9 th9 fa9;(try dsimp only)))|walk1|(dsimp only;(with_reducible show wpAny _ _ (call (Value.ref _) _) _ _ _))|(dsimp only;walk1)|(leave1;walk_say "STEP leave1";try dsimp only)|fail "no step"))
  refine pass_thrown (by assumption) (by assumption) (by assumption) (by assumption) ?_ ?_ ?_ fun h' th=>hraise _ _ _ _ _ th (by assumption)
  · exact off_frames (by assumption) (by assumption)
  · intro b hb
    rcases List.mem_cons.mp hb with rfl|hb
    · exact News.fresh (by assumption) (.head _)
    rcases List.mem_cons.mp hb with rfl|hb
    · exact News.fresh (by assumption) (.tail _ (.head _))
    cases hb
  · intro _ h;cases h
end
end
section
set_option Elab.async false
set_option maxRecDepth 100000
set_option maxHeartbeats 4000000
set_option linter.unusedVariables false
set_option pp.deepTerms false
set_option pp.maxSteps 2000
section
variable {w:World} {p:Program} {loose:List Str} {mean:ExcName→Option Value} {mg mb:Str→Option Value} {dp un:Nat} {gd:Option (List Code)} {cn:Str} {cs:Scope} {a:Addr} {ccd:Value} {cl:List (Str×Addr)} {outer:List Env} {A₀:Around} {base h₀:Heap} {L:Addr} {m:Str→Option Value} {s:Shared} {Q E:Value→Shared→Prop}
local macro_rules | `(tactic| k_all)=>`(tactic| ((with_reducible show Rest _ _ _);first|exact Rest.nil|(refine' Rest.keep ?ra ?rb;(case ra=>(repeat' (first|exact True.intro|refine And.intro (by k_ne) ?_));done);(case rb=>k_all))|(refine' Rest.drop ?_;k_all)))
theorem read_form_ok (B:Below A₀ base outer h₀) (F:Fr h₀ L s.heap m) (X:(hd.heap_39 w.params).In h₀) {src ds:Addr} {d:Array UInt8} {ks:List Int} {i:Int} {td ti ka kb:Tok} {ea eb:Int}
    (N:News h₀ L s.heap [(src,instObj 280 ds),(ds,dictOf [⟨ea,.str (Str.ofString "data") ka,.bytes d td⟩,⟨eb,.str (Str.ofString "at") kb,.int i ti⟩] 2)]) (T:Top p loose mean mg mb h₀) (hk:cs.kind=.function) (hd:dp+5<recursionLimit) (hu:un+40<cLine)
    (hne:@Ne Nat src ds) (hb:KBw.bInts d=ks) (hz:ks.length≤1000) (h0:0≤i) (h1:i+2≤ks.length) (h2:num2 ks i≤255)
    (hret:∀ (t t':Tok) h' tk',Fr h₀ L h' m→News h₀ L h' [(src,instObj 280 ds),(ds,dictOf [⟨ea,.str (Str.ofString "data") ka,.bytes d td⟩,⟨eb,.str (Str.ofString "at") kb,.int (i+2) t'⟩] 2)]→KeepBut [src,ds] s.heap h'→Q (.int (num2 ks i) t) {s with heap:=h',toks:=tk'}) :
    wpAny (model PySem.Challenge.rw_nu0167_01.row.prog w) (ktrTop dp un gd cn cs L a ccd cl outer) (call (.ref 105) [.ref src]) Q E s:=by
  refine wpAny_call ?_
  k_dflt cell_enter
  (repeat' (first|(k_unfold;(try dsimp only))|(k_end;wrow_close)|((with_reducible show wpAny _ _ (call (Value.ref _) _) _ _ _);with_reducible (k_here;(try dsimp only [List.nil_append,List.cons_append]);(with_reducible show wpAny _ _ (call (Value.ref 237) _) _ _ _);k_dflt (refine' in_u16_ok (by k_asm) (by k_asm) (by k_asm) (by ((refine news_sub (by assumption) ?_);k_allIn)) (by k_asm) (by exact rfl) (by ktr_room) (by ktr_units) (by k_ne) (by assumption) (by assumption) (by omega) (by omega) ?_);intro t9 t9' h9 tk9 F9 N9 K9;(have N8:=rejoin (by assumption) K9 N9 (by k_all));clear K9 N9;(simp only [List.cons_append,List.nil_append] at N8);(try k_sweep);(try dsimp only)))|walk1|(dsimp only;(with_reducible show wpAny _ _ (call (Value.ref _) _) _ _ _))|(dsimp only;walk1)|(leave1;walk_say "STEP leave1";try dsimp only)|fail "no step"))
  exact hret _ _ _ _ (by assumption) (by assumption) (keepBut_of (by assumption) (by assumption))
theorem read_form_raise (B:Below A₀ base outer h₀) (F:Fr h₀ L s.heap m) (X:(hd.heap_39 w.params).In h₀) {src ds:Addr} {d:Array UInt8} {ks:List Int} {i:Int} {td ti ka kb:Tok} {ea eb:Int}
    (N:News h₀ L s.heap [(src,instObj 280 ds),(ds,dictOf [⟨ea,.str (Str.ofString "data") ka,.bytes d td⟩,⟨eb,.str (Str.ofString "at") kb,.int i ti⟩] 2)]) (T:Top p loose mean mg mb h₀) (hk:cs.kind=.function) (hd:dp+8<recursionLimit) (hu:un+64<cLine)
    (hne:@Ne Nat src ds) (hb:KBw.bInts d=ks) (hz:ks.length≤1000) (h0:0≤i) (h1:ks.length<i+2∨255<num2 ks i)
    (hraise:∀ e dx od h' tk',Thrown s.heap [src,ds] base (envX cn cs L a ccd cl::outer) e dx od [] h'→FaultAt od i→E (.ref e) {s with heap:=h',toks:=tk'}) :
    wpAny (model PySem.Challenge.rw_nu0167_01.row.prog w) (ktrTop dp un gd cn cs L a ccd cl outer) (call (.ref 105) [.ref src]) Q E s:=by
  by_cases h3:ks.length<i+2
  · clear h1
    refine wpAny_call ?_
    k_dflt cell_enter
    (repeat' (first|(k_unfold;(try dsimp only))|(k_end;wrow_close)|((with_reducible show wpAny _ _ (call (Value.ref _) _) _ _ _);with_reducible (k_here;(try dsimp only [List.nil_append,List.cons_append]);(with_reducible show wpAny _ _ (call (Value.ref 237) _) _ _ _);k_dflt (refine' in_u16_raise (by k_asm) (by k_asm) (by k_asm) (by ((refine news_sub (by assumption) ?_);k_allIn)) (by k_asm) (by exact rfl) (by ktr_room) (by ktr_units) (by k_ne) (by assumption) (by assumption) (by omega) (by omega) ?_);intro e9 dx9 od9 h9 tk9 th9 fa9;(try dsimp only)))|walk1|(dsimp only;(with_reducible show wpAny _ _ (call (Value.ref _) _) _ _ _))|(dsimp only;walk1)|(leave1;walk_say "STEP leave1";try dsimp only)|fail "no step"))
    refine pass_thrown (by assumption) (by assumption) (by assumption) (by assumption) ?_ (fresh_two (by assumption)) ?_ fun h' th=>hraise _ _ _ _ _ th (by assumption)
    · exact off_frames (by assumption) (by assumption)
    · intro _ h;cases h
  · have h4:i+2≤ks.length:=by omega
    have h5:255<num2 ks i:=by omega
    clear h1 h3
    refine wpAny_call ?_
    k_dflt cell_enter
    (repeat' (first|(k_unfold;(try dsimp only))|(k_end;wrow_close)|((with_reducible show wpAny _ _ (exec (Stmt.Raise ..) _) _ _ _);(with_reducible (k_dflt (refine' x_Raise (C:=61) (by k_asm) (by exact rfl) (by k_is) ?_))))|((with_reducible show wpAny _ _ (call (Value.ref _) _) _ _ _);with_reducible (first|(k_here;(try dsimp only [List.nil_append,List.cons_append]);(with_reducible show wpAny _ _ (call (Value.ref 61) [_,_]) _ _ _);k_dflt (refine' fault2_c (by k_asm) (by k_asm) (by k_asm) (by k_asm) (by k_asm) (by exact rfl) (by ktr_room) (by ktr_units) ?_);intro e9 dx9 od9 a9 h9 tk9 F9 N9 O9)|(k_here;(try dsimp only [List.nil_append,List.cons_append]);(with_reducible show wpAny _ _ (call (Value.ref 237) _) _ _ _);k_dflt (refine' in_u16_ok (by k_asm) (by k_asm) (by k_asm) (by ((refine news_sub (by assumption) ?_);k_allIn)) (by k_asm) (by exact rfl) (by ktr_room) (by ktr_units) (by k_ne) (by assumption) (by assumption) (by omega) (by omega) ?_);intro t9 t9' h9 tk9 F9 N9 K9;(have N8:=rejoin (by assumption) K9 N9 (by k_all));clear K9 N9;(simp only [List.cons_append,List.nil_append] at N8);(try k_sweep);(try dsimp only))))|walk1|(dsimp only;(with_reducible show wpAny _ _ (call (Value.ref _) _) _ _ _))|(dsimp only;walk1)|(leave1;walk_say "STEP leave1";try dsimp only)|fail "no step"))
    · exact exc_two (by assumption)
    · have FO:=faultAt_of (by assumption)
      refine leave_thrown (by assumption) (by assumption) (news_two (by assumption)) (exc_two_ne (by assumption) (by assumption)) ?_ (by assumption) ?_ fun h' th=>hraise _ _ _ _ _ th FO
      · intro _ h;cases h
      · exact off_fresh (by assumption) (fresh_two (by assumption))
end
end
local macro_rules | `(tactic| k_all)=>`(tactic| ((with_reducible show Rest _ _ _);first|exact Rest.nil|(refine' Rest.keep ?ra ?rb;(case ra=>(repeat' (first|exact True.intro|refine And.intro (by ((try dsimp only);k_ne)) ?_));done);(case rb=>k_all))|(refine' Rest.drop ?_;k_all)))
section
set_option Elab.async false
set_option maxRecDepth 100000
set_option maxHeartbeats 4000000
set_option linter.unusedVariables false
set_option pp.deepTerms false
set_option pp.maxSteps 2000
section
variable {w:World} {p:Program} {loose:List Str} {mean:ExcName→Option Value} {mg mb:Str→Option Value} {dp un:Nat} {gd:Option (List Code)} {cn:Str} {cs:Scope} {a:Addr} {ccd:Value} {cl:List (Str×Addr)} {outer:List Env} {A₀:Around} {base h₀:Heap} {L:Addr} {m:Str→Option Value} {s:Shared} {Q E:Value→Shared→Prop}
def bl (f:Int) (k:Nat):Nat:=((List.range k).filter (bit f)).length
def fld (ks:List Int) (f i:Int) (k:Nat):Int:=if bit f k=true then sgn (num2 ks (i+2*(bl f k:Int))) else 0
def flds (ks:List Int) (f i:Int) (k:Nat):List Int:=(List.range k).map (fld ks f i)
theorem bl_succ (f:Int) (k:Nat):bl f (k+1)=bl f k+if bit f k=true then 1 else 0:=by
  unfold bl
  rw [List.range_succ,List.filter_append,List.length_append]
  by_cases h:bit f k=true
  · simp [h]
  · simp [h]
theorem bl_mono (f:Int) {a b:Nat} (h:a≤b):bl f a≤bl f b:=by
  induction h with
  | refl=>exact Nat.le_refl _
  | step _ ih=>exact Nat.le_trans ih (by rw [bl_succ];exact Nat.le_add_right _ _)
theorem bl_ones (f:Int):bl f 8=ones f:=rfl
theorem bl_room {f:Int} {k:Nat} (hk:k<8) (hb:bit f k=true):bl f k+1≤ones f:=by
  have h:=bl_mono f (a:=k+1) (b:=8) hk
  rw [bl_succ,if_pos hb] at h
  exact h
def SrcIs (src ds:Addr) (d:Array UInt8) (td ka kb:Tok) (ea eb:Int) (i:Int) (nx:List (Addr×Obj)):Prop :=
  ∃ t,nx=[(src,instObj 280 ds),(ds,dictOf [⟨ea,.str (Str.ofString "data") ka,.bytes d td⟩,⟨eb,.str (Str.ofString "at") kb,.int i t⟩] 2)]
def RvJ (lf src ds:Addr) (d:Array UInt8) (td ka kb:Tok) (ea eb:Int) (ks:List Int) (f i:Int) (k:Nat) (ps:List (Str×Value)) (nx:List (Addr×Obj)):Prop :=
  ∃ vs nn t,ps=[]∧IntsAre vs (flds ks f i k)∧nx=[(lf,W.listOf vs.toArray nn),(src,instObj 280 ds),(ds,dictOf [⟨ea,.str (Str.ofString "data") ka,.bytes d td⟩,⟨eb,.str (Str.ofString "at") kb,.int (i+2*(bl f k:Int)) t⟩] 2)]
theorem rvJ0 {lf src ds:Addr} {d:Array UInt8} {td ka kb ti:Tok} {ea eb:Int} {ks:List Int} {f i:Int}:RvJ lf src ds d td ka kb ea eb ks f i 0 [] [(lf,W.listOf #[] 0),(src,instObj 280 ds),(ds,dictOf [⟨ea,.str (Str.ofString "data") ka,.bytes d td⟩,⟨eb,.str (Str.ofString "at") kb,.int i ti⟩] 2)] :=
  ⟨[],0,ti,rfl,.nil,by rw [show i+2*((bl f 0:Nat):Int)=i from Int.add_zero i]⟩
theorem rv_cond {f:Int} {k:Nat} (hf:0≤f):Builtin.bitAnd (f.fdiv (2 ^ (0+(k:Int)).toNat)) 1=1↔bit f k=true:=by
  rw [show (0+(k:Int)).toNat=k by omega,and_bit hf]
theorem rv_pos {i f:Int} {k:Nat} (h0:0≤i):0≤i+2*(bl f k:Int):=by omega
theorem rv_room {i f:Int} {k n:Nat} (hk:k<8) (hb:bit f k=true) (h1:i+2*(ones f:Int)≤n):i+2*(bl f k:Int)+2≤n:=by
  have:=bl_room hk hb
  omega
def RwJ (lf:Addr) (vs:List Value) (nn:Nat) (src ds:Addr) (d:Array UInt8) (td ka kb:Tok) (ea eb:Int) (f i:Int) (k:Nat) (ps:List (Str×Value)) (nx:List (Addr×Obj)):Prop :=
  ∃ t,ps=[]∧nx=[(lf,W.listOf vs.toArray nn),(src,instObj 280 ds),(ds,dictOf [⟨ea,.str (Str.ofString "data") ka,.bytes d td⟩,⟨eb,.str (Str.ofString "at") kb,.int (i+2*(bl f (4+k):Int)) t⟩] 2)]
theorem rwJ0 {lf src ds:Addr} {vs:List Value} {nn:Nat} {d:Array UInt8} {td ka kb t:Tok} {ea eb:Int} {f i:Int}:RwJ lf vs nn src ds d td ka kb ea eb f i 0 [] [(lf,W.listOf vs.toArray nn),(src,instObj 280 ds),(ds,dictOf [⟨ea,.str (Str.ofString "data") ka,.bytes d td⟩,⟨eb,.str (Str.ofString "at") kb,.int (i+2*(bl f 4:Int)) t⟩] 2)] :=
  ⟨t,rfl,rfl⟩
theorem rw_cond {f:Int} {k:Nat} (hf:0≤f):Builtin.bitAnd (f.fdiv (2 ^ (4+(k:Int)).toNat)) 1=1↔bit f (4+k)=true:=by
  rw [show (4+(k:Int)).toNat=4+k by omega,and_bit hf]
theorem ints_inv {vs:List Value} {n:Int} {r:List Int} (h:IntsAre vs (n::r)):∃ t us,vs=.int n t::us∧IntsAre us r:=by
  cases h with
  | cons k t q=>exact ⟨t,_,rfl,q⟩
theorem ints_inv0 {vs:List Value} (h:IntsAre vs []):vs=[]:=by
  cases h
  rfl
theorem ints_four {vs:List Value} {a b c e:Int} (h:IntsAre vs [a,b,c,e]):∃ t1 t2 t3 t4,vs=[.int a t1,.int b t2,.int c t3,.int e t4]:=by
  obtain ⟨t1,u1,rfl,g1⟩:=ints_inv h
  obtain ⟨t2,u2,rfl,g2⟩:=ints_inv g1
  obtain ⟨t3,u3,rfl,g3⟩:=ints_inv g2
  obtain ⟨t4,u4,rfl,g4⟩:=ints_inv g3
  obtain rfl:=ints_inv0 g4
  exact ⟨t1,t2,t3,t4,rfl⟩
theorem flds4 (ks:List Int) (f i:Int):flds ks f i 4=[fld ks f i 0,fld ks f i 1,fld ks f i 2,fld ks f i 3]:=rfl
theorem rv_size {vs:List Value} {ks:List Int} {f i:Int} {k:Nat} (h:IntsAre vs (flds ks f i k)) (hk:k<4):vs.toArray.size≤sizeLine:=by
  have h1:=h.length
  have h2:(flds ks f i k).length=k:=by simp [flds]
  rw [List.size_toArray,h1,h2]
  exact Nat.le_trans (Nat.le_of_lt hk) (by decide)
theorem rvJ_pos {lf src ds:Addr} {vs:List Value} {nn:Nat} {d:Array UInt8} {td ka kb t t':Tok} {ea eb:Int} {ks:List Int} {f i:Int} {k:Nat} (hb:bit f k=true) (h:IntsAre vs (flds ks f i k)) :
    RvJ lf src ds d td ka kb ea eb ks f i (k+1) [] [(lf,W.listOf (vs.toArray.push (.int (sgn (num2 ks (i+2*(bl f k:Int)))) t)) (nn+1)),(src,instObj 280 ds),(ds,dictOf [⟨ea,.str (Str.ofString "data") ka,.bytes d td⟩,⟨eb,.str (Str.ofString "at") kb,.int (i+2*(bl f k:Int)+2) t'⟩] 2)] :=
  ⟨vs++[.int (sgn (num2 ks (i+2*(bl f k:Int)))) t],nn+1,t',rfl,by
    have e:flds ks f i (k+1)=flds ks f i k++[sgn (num2 ks (i+2*(bl f k:Int)))]:=by
      unfold flds
      rw [List.range_succ,List.map_append]
      show _++[fld ks f i k]=_
      rw [show fld ks f i k=sgn (num2 ks (i+2*(bl f k:Int))) from if_pos hb]
    rw [e]
    exact h.append (.cons _ _ .nil),by
    have e:i+2*((bl f (k+1):Nat):Int)=i+2*(bl f k:Int)+2:=by
      rw [bl_succ,if_pos hb];omega
    rw [e,List.push_toArray]⟩
theorem rvJ_neg {lf src ds:Addr} {vs:List Value} {nn:Nat} {d:Array UInt8} {td ka kb t t':Tok} {ea eb:Int} {ks:List Int} {f i:Int} {k:Nat} (hb:¬ bit f k=true) (h:IntsAre vs (flds ks f i k)) :
    RvJ lf src ds d td ka kb ea eb ks f i (k+1) [] [(lf,W.listOf (vs.toArray.push (.int 0 t)) (nn+1)),(src,instObj 280 ds),(ds,dictOf [⟨ea,.str (Str.ofString "data") ka,.bytes d td⟩,⟨eb,.str (Str.ofString "at") kb,.int (i+2*(bl f k:Int)) t'⟩] 2)] :=
  ⟨vs++[.int 0 t],nn+1,t',rfl,by
    have e:flds ks f i (k+1)=flds ks f i k++[0]:=by
      unfold flds
      rw [List.range_succ,List.map_append]
      show _++[fld ks f i k]=_
      rw [show fld ks f i k=0 from if_neg hb]
    rw [e]
    exact h.append (.cons _ _ .nil),by
    have e:i+2*((bl f (k+1):Nat):Int)=i+2*(bl f k:Int):=by
      rw [bl_succ,if_neg hb];omega
    rw [e,List.push_toArray]⟩
theorem rwJ_pos {lf src ds:Addr} {vs:List Value} {nn:Nat} {d:Array UInt8} {td ka kb t':Tok} {ea eb:Int} {f i:Int} {k:Nat} (hb:bit f (4+k)=true) :
    RwJ lf vs nn src ds d td ka kb ea eb f i (k+1) [] [(lf,W.listOf vs.toArray nn),(src,instObj 280 ds),(ds,dictOf [⟨ea,.str (Str.ofString "data") ka,.bytes d td⟩,⟨eb,.str (Str.ofString "at") kb,.int (i+2*(bl f (4+k):Int)+2) t'⟩] 2)] :=
  ⟨t',rfl,by
    have e:i+2*((bl f (4+(k+1)):Nat):Int)=i+2*(bl f (4+k):Int)+2:=by
      rw [← Nat.add_assoc,bl_succ,if_pos hb];omega
    rw [e]⟩
theorem rwJ_neg {lf src ds:Addr} {vs:List Value} {nn:Nat} {d:Array UInt8} {td ka kb t':Tok} {ea eb:Int} {f i:Int} {k:Nat} (hb:¬ bit f (4+k)=true) :
    RwJ lf vs nn src ds d td ka kb ea eb f i (k+1) [] [(lf,W.listOf vs.toArray nn),(src,instObj 280 ds),(ds,dictOf [⟨ea,.str (Str.ofString "data") ka,.bytes d td⟩,⟨eb,.str (Str.ofString "at") kb,.int (i+2*(bl f (4+k):Int)) t'⟩] 2)] :=
  ⟨t',rfl,by
    have e:i+2*((bl f (4+(k+1)):Nat):Int)=i+2*(bl f (4+k):Int):=by
      rw [← Nat.add_assoc,bl_succ,if_neg hb];omega
    rw [e]⟩
inductive ValIs (w:World) (a b c e:Int) (o:Obj):Prop
  | mk (k1 k2 k3 k4 t1 t2 t3 t4:Tok) (h:o=dictOf [⟨PyData.keyHash w.params (Str.ofString "x_offset"),.str (Str.ofString "x_offset") k1,.int a t1⟩,⟨PyData.keyHash w.params (Str.ofString "y_offset"),.str (Str.ofString "y_offset") k2,.int b t2⟩,⟨PyData.keyHash w.params (Str.ofString "x_advance"),.str (Str.ofString "x_advance") k3,.int c t3⟩,⟨PyData.keyHash w.params (Str.ofString "y_advance"),.str (Str.ofString "y_advance") k4,.int e t4⟩] 4)
theorem news_pick5 {g h:Heap} {L:Addr} {x y z u v:Addr×Obj} (N:News g L h [x,y,z,u,v]):News g L h [x,y,u,v]:=news_sub N (by simp)
def Fresh (h:Heap) (a:Addr):Prop:=∀ b o,h.get? b=some o→@Ne Nat b a
theorem fresh_of {h g h':Heap} {L a c e:Addr} {o oc oe:Obj} {r:List (Addr×Obj)} (G:GSub h g [c,e]) (hg:g.get? a=none) (hc:@Ne Nat c a) (he:@Ne Nat e a):Fresh h a:=fun b ob hb q=>by
  by_cases hm:b∈[c,e]
  · rcases List.mem_cons.mp hm with z|hm
    · exact hc (z ▸ q)
    rcases List.mem_cons.mp hm with z|hm
    · exact he (z ▸ q)
    cases hm
  · have:=G b ob hb hm
    rw [q,hg] at this
    cases this
theorem fresh_1 {h g h':Heap} {L a c e:Addr} {o:Obj} {r:List (Addr×Obj)} (G:GSub h g [c,e]) (N:News g L h' ((a,o)::r)) (hc:@Ne Nat c a) (he:@Ne Nat e a):Fresh h a:=fresh_of (L:=L) (h':=h') (o:=o) (oc:=o) (oe:=o) (r:=r) G (N _ (.head _)).2.2 hc he
theorem fresh_2 {h g h':Heap} {L a b c e:Addr} {o ob:Obj} {r:List (Addr×Obj)} (G:GSub h g [c,e]) (N:News g L h' ((b,ob)::(a,o)::r)) (hc:@Ne Nat c a) (he:@Ne Nat e a):Fresh h a:=fresh_of (L:=L) (h':=h') (o:=o) (oc:=o) (oe:=o) (r:=r) G (N _ (.tail _ (.head _))).2.2 hc he
end
end
section
set_option Elab.async false
set_option maxRecDepth 100000
set_option maxHeartbeats 4000000
set_option linter.unusedVariables false
set_option pp.deepTerms false
set_option pp.maxSteps 2000
section
variable {w:World} {p:Program} {loose:List Str} {mean:ExcName→Option Value} {mg mb:Str→Option Value} {dp un:Nat} {gd:Option (List Code)} {cn:Str} {cs:Scope} {a:Addr} {ccd:Value} {cl:List (Str×Addr)} {outer:List Env} {A₀:Around} {base h₀:Heap} {L:Addr} {m:Str→Option Value} {s:Shared} {Q E:Value→Shared→Prop}
abbrev tupOf (its:Array PySem.Value):Obj:={cls:=.type "tuple",data:=Data.seq its}
theorem told_c (B:Below A₀ base outer h₀) (F:Fr h₀ L s.heap m) (X:(hd.heap_39 w.params).In h₀) {v dv:Addr} {od:Obj} {x1 x2 x3 x4:Int} (V:ValIs w x1 x2 x3 x4 od) (N:News h₀ L s.heap [(v,instObj 94 dv),(dv,od)]) (T:Top p loose mean mg mb h₀) (hk:cs.kind=.function) (hd:dp+5<recursionLimit) (hu:un+40<cLine)
    (hret:∀ tp (t1 t2 t3 t4:Tok) h' tk',Fr h₀ L h' m→News h₀ L h' [(tp,tupOf #[.int x1 t1,.int x2 t2,.int x3 t3,.int x4 t4]),(v,instObj 94 dv),(dv,od)]→KeepBut [v,dv] s.heap h'→Fresh s.heap tp→Q (.ref tp) {s with heap:=h',toks:=tk'}) :
    wpAny (model PySem.Challenge.rw_nu0167_01.row.prog w) (ktrTop dp un gd cn cs L a ccd cl outer) (call (.ref 84) [.ref v]) Q E s:=by
  obtain ⟨k1,k2,k3,k4,t1,t2,t3,t4,rfl⟩:=V
  refine wpAny_call ?_
  k_dflt cell_enter
  k_steps
  exact hret _ _ _ _ _ _ _ (by assumption) (by assumption) (keepBut_of (by assumption) (by assumption)) (fresh_1 (by assumption) (by assumption) (by k_ne) (by k_ne))
end
end
section
set_option Elab.async false
set_option maxRecDepth 100000
set_option maxHeartbeats 4000000
set_option linter.unusedVariables false
set_option pp.deepTerms false
set_option pp.maxSteps 2000
section
variable {w:World} {p:Program} {loose:List Str} {mean:ExcName→Option Value} {mg mb:Str→Option Value} {dp un:Nat} {gd:Option (List Code)} {cn:Str} {cs:Scope} {a:Addr} {ccd:Value} {cl:List (Str×Addr)} {outer:List Env} {A₀:Around} {base h₀:Heap} {L:Addr} {m:Str→Option Value} {s:Shared} {Q E:Value→Shared→Prop}
theorem nothing_c (B:Below A₀ base outer h₀) (F:Fr h₀ L s.heap m) (X:(hd.heap_39 w.params).In h₀) {v dv:Addr} {od:Obj} {x1 x2 x3 x4:Int} (V:ValIs w x1 x2 x3 x4 od) (N:News h₀ L s.heap [(v,instObj 94 dv),(dv,od)]) (T:Top p loose mean mg mb h₀) (hk:cs.kind=.function) (hd:dp+6<recursionLimit) (hu:un+100<cLine)
    (hret:∀ h' tk',Fr h₀ L h' m→News h₀ L h' [(v,instObj 94 dv),(dv,od)]→KeepBut [v,dv] s.heap h'→Q (.bool (x1 == 0 && (x2 == 0 && (x3 == 0 && x4 == 0)))) {s with heap:=h',toks:=tk'}) :
    wpAny (model PySem.Challenge.rw_nu0167_01.row.prog w) (ktrTop dp un gd cn cs L a ccd cl outer) (call (.ref 91) [.ref v]) Q E s:=by
  have V':=V
  obtain ⟨k1,k2,k3,k4,t1,t2,t3,t4,rfl⟩:=V
  refine wpAny_call ?_
  k_dflt cell_enter
  (repeat' (first|(k_unfold;(try dsimp only))|(k_end;wrow_close)|((with_reducible show wpAny _ _ (call (Value.ref _) _) _ _ _);with_reducible (k_here;(try dsimp only [List.nil_append,List.cons_append]);(with_reducible show wpAny _ _ (call (Value.ref 84) _) _ _ _);k_dflt (refine' told_c (by k_asm) (by k_asm) (by k_asm) (by assumption) (by ((refine news_sub (by assumption) ?_);k_allIn)) (by k_asm) (by exact rfl) (by ktr_room) (by ktr_units) ?_);intro tp9 t91 t92 t93 t94 h9 tk9 F9 N9 K9 O9;(have N8:=rejoin (by assumption) K9 N9 (by k_dflt k_all));clear K9 N9;(simp only [List.cons_append,List.nil_append] at N8);(try k_sweep);(try dsimp only)))|((with_reducible show wpAny _ _ (compareOp CmpOp.Eq (Value.ref _) (Value.ref _)) _ _ _);with_reducible ((k_here;(with_reducible show wpAny _ _ (compareOp CmpOp.Eq (Value.ref _) (Value.ref _)) _ _ _);k_dflt (refine eq_dataH (by ke_read) (by ke_read) (by ke_shaped) (by ke_shaped) (by ktr_units) ?_);ke_norm)))|walk1|(dsimp only;(with_reducible show wpAny _ _ (call (Value.ref _) _) _ _ _))|(dsimp only;walk1)|(leave1;walk_say "STEP leave1";try dsimp only)|fail "no step"))
  exact hret _ _ (by assumption) (news_sub (by assumption) (by k_allIn)) (keepBut_of (by assumption) (by assumption))
end
end
section
set_option Elab.async false
section
variable {a b c d e:Addr} {o:Obj} {adr:List Addr} {l r:List (Addr×Obj)}
theorem Rest.d1 (h:Rest (a::adr) l r):Rest (a::adr) ((a,o)::l) r:=.drop h
theorem Rest.d2 (h:Rest (b::a::adr) l r):Rest (b::a::adr) ((a,o)::l) r:=.drop h
theorem Rest.d3 (h:Rest (b::c::a::adr) l r):Rest (b::c::a::adr) ((a,o)::l) r:=.drop h
theorem Rest.d4 (h:Rest (b::c::d::a::adr) l r):Rest (b::c::d::a::adr) ((a,o)::l) r:=.drop h
theorem Rest.d5 (h:Rest (b::c::d::e::a::adr) l r):Rest (b::c::d::e::a::adr) ((a,o)::l) r:=.drop h
end
end
section
set_option Elab.async false
set_option maxRecDepth 100000
set_option linter.unusedVariables false
set_option maxHeartbeats 4000000
section
variable {prog:Program} {w:World} {A:Around} {E:Value→Shared→Prop} {s:Shared} {h₀:Heap} {L:Addr} {m:Str→Option Value} {env:Env} {elt ct:Expr} {x:Str} {scope:Scope} {cl:List (Str×Addr)} {S:List (Addr×Obj)→Prop} {P:Nat→Value→Prop} {Fin:List Value→List (Addr×Obj)→Prop} {n:Nat}
abbrev CJ:=List Value→List (Addr×Obj)→Prop
theorem comp_ind (J:Nat→CJ) (fin:∀ ys nx,J n ys nx→Fin ys nx)
    (step:∀ i ys nx v I oI C oC D m₂ h tk (E':Value→Shared→Prop),i<n→J i ys nx→P i v→LCg.NsObj oC m₂→m₂ x=some v→Fr h₀ L h m→News h₀ L h ((I,oI)::(C,oC)::(D,LCg.lst ys)::nx)→LCg.Off3 I C D nx→((@Ne Nat I C)∧(@Ne Nat I D)∧(@Ne Nat C D)) →
      wpAny (model prog w) A (eval elt (compEnvC scope cl C env)) (LCg.CompEnd h₀ L m {s with heap:=h,toks:=tk} I oI C oC D (LCg.lst ys) S (fun y nx'=>J (i+1) (ys++[y]) nx')) E' {s with heap:=h,toks:=tk}) :
    ∀ k i ys nx,i+k=n→J i ys nx→LCg.CompRest prog w A h₀ L m env elt x scope cl s S P Fin k i ys nx:=by
  intro k
  induction k with
  | zero =>
    intro i ys nx e hJ
    have e':i=n:=e
    subst e'
    exact LCg.CompRest.zero (fin _ _ hJ)
  | succ k ih =>
    intro i ys nx e hJ
    refine LCg.CompRest.succ fun v I oI C oC D m₂ h tk E' hP hC hx F N off ne=>?_
    refine wpAny_mono (step i ys nx v I oI C oC D m₂ h tk E' (by omega) hJ hP hC hx F N off ne) (fun y s₂ p=>?_) fun _ _ e=>e
    obtain ⟨h',tk',nx',e',F',N',off',hS',hJ'⟩:=p
    exact ⟨h',tk',nx',e',F',N',off',hS',ih _ _ _ (by omega) hJ'⟩
theorem comp_indT (J:Nat→CJ) (fin:∀ ys nx,J n ys nx→Fin ys nx)
    (step:∀ i ys nx v I oI C oC D m₂ h tk (E':Value→Shared→Prop),i<n→J i ys nx→P i v→LCg.NsObj oC m₂→m₂ x=some v→Fr h₀ L h m→News h₀ L h ((I,oI)::(C,oC)::(D,LCg.lst ys)::nx)→LCg.Off3 I C D nx→((@Ne Nat I C)∧(@Ne Nat I D)∧(@Ne Nat C D)) →
      wpAny (model prog w) A (isTrue ct (compEnvC scope cl C env) (eval ct (compEnvC scope cl C env))) (fun ok s'=>if ok=true then
        wpAny (model prog w) A (eval elt (compEnvC scope cl C env)) (LCg.CompEnd h₀ L m {s with heap:=h,toks:=tk} I oI C oC D (LCg.lst ys) S (fun y nx'=>J (i+1) (ys++[y]) nx')) E' s'
        else LCg.CompEnd h₀ L m {s with heap:=h,toks:=tk} I oI C oC D (LCg.lst ys) S (fun _ nx'=>J (i+1) ys nx') Value.none s') E' {s with heap:=h,toks:=tk}) :
    ∀ k i ys nx,i+k=n→J i ys nx→LCt.CompRestT prog w A h₀ L m env ct elt x scope cl s S P Fin k i ys nx:=by
  intro k
  induction k with
  | zero =>
    intro i ys nx e hJ
    have e':i=n:=e
    subst e'
    exact LCt.CompRestT.zero (fin _ _ hJ)
  | succ k ih =>
    intro i ys nx e hJ
    refine LCt.CompRestT.succ fun v I oI C oC D m₂ h tk E' hP hC hx F N off ne=>?_
    refine wpAny_mono (step i ys nx v I oI C oC D m₂ h tk E' (by omega) hJ hP hC hx F N off ne) (fun ok s₂ p=>?_) fun _ _ e=>e
    cases ok with
    | true =>
      simp only [if_true] at p ⊢
      refine wpAny_mono p (fun y s₃ q=>?_) fun _ _ e=>e
      obtain ⟨h',tk',nx',e',F',N',off',hS',hJ'⟩:=q
      exact ⟨h',tk',nx',e',F',N',off',hS',ih _ _ _ (by omega) hJ'⟩
    | false =>
      simp only [Bool.false_eq_true,if_false] at p ⊢
      obtain ⟨h',tk',nx',e',F',N',off',hS',hJ'⟩:=p
      exact ⟨h',tk',nx',e',F',N',off',hS',ih _ _ _ (by omega) hJ'⟩
def SrcN (prog:Program) (w:World) (A:Around) (h₀:Heap) (L:Addr) (m:Str→Option Value) (env:Env) (elt:Expr) (x:Str) (scope:Scope) (cl:List (Str×Addr)) (Fin:Shared→List Value→List (Addr×Obj)→Prop) (xv:Value) (s₁:Shared):Prop :=
  ∃ r a b c t u v n news,xv=.ref r∧A.handled=none∧Fr h₀ L s₁.heap m∧News h₀ L s₁.heap news∧IsRange s₁.heap r a b c t u v∧Builtin.Range.small a b c=true∧Builtin.Range.rangeSize a b c=((n:Nat):Int)∧n≤sizeLine ∧
    ∀ s₂:Shared,(∃ h,s₂={s₁ with heap:=h})→LCg.CompRest prog w A h₀ L m env elt x scope cl s₂ (fun _=>True) (fun i v=>∃ t,v=.int (a+(i:Int)*c) t) (Fin s₂) n 0 [] news
theorem SrcN.mk {Fin:Shared→List Value→List (Addr×Obj)→Prop} {r:Addr} {a b c:Int} {t u v:Tok} {news:List (Addr×Obj)} {s₁:Shared}
    (hh:A.handled=none) (F:Fr h₀ L s₁.heap m) (N:News h₀ L s₁.heap news) (hr:IsRange s₁.heap r a b c t u v) (hsm:Builtin.Range.small a b c=true) (hn:Builtin.Range.rangeSize a b c=((n:Nat):Int)) (hsz:n≤sizeLine)
    (h:∀ g,LCg.CompRest prog w A h₀ L m env elt x scope cl {s₁ with heap:=g} (fun _=>True) (fun i v=>∃ t,v=.int (a+(i:Int)*c) t) (Fin {s₁ with heap:=g}) n 0 [] news) :
    SrcN prog w A h₀ L m env elt x scope cl Fin (.ref r) s₁:=⟨r,a,b,c,t,u,v,n,news,rfl,hh,F,N,hr,hsm,hn,hsz,fun _ ⟨g,e⟩=>e ▸ h g⟩
theorem rangeN_walks {I:Addr} (hh:A.handled=none) (a c:Int) (n:Nat):Walks prog w A I [I] [I] n (fun i v=>∃ t,v=.int (a+(i:Int)*c) t) (fun i h=>IsRangeIter h I (a+(i:Nat)*c) ((n:Int) - (i:Nat)) c) :=
  let W:Walks prog w A I [I] [I] n (fun i v=>i<n∧∃ t,v=.int (a+i*c) t) (fun i h=>IsRangeIter h I (a+(i:Nat)*c) ((n:Int) - (i:Nat)) c):=(Walks.range hh I a c n).bound
  {sub:=W.sub,frame:=W.frame,done:=W.done,self:=W.self,
    item:=fun i s Q E hi st hQ=>W.item i s Q E hi st fun v h' tk hP=>hQ v h' tk hP.2}
theorem ListComp_N {iter:Expr} {px pos:Pos} {Q:Value→Shared→Prop} (F₀:Fr h₀ L s.heap m)
    (hclos:closureFor scope env=pure cl) (hcell:∀ y∈scope.names,y.2≠.cell) (hkind:scope.kind=.function)
    (hnames:∀ y∈scope.names,y.2=.local→scope.names.lookup y.1=some .local) (hx:scope.names.lookup x=some .local)
    (h:wpAny (model prog w) A (eval iter env) (SrcN prog w A h₀ L m env elt x scope cl (fun s₂=>LCg.FinE h₀ L m s₂ Q)) E s)
    (hs:∀ x,foldedSetIterable iter env x=pure x:=by intro _;rfl) :
    wpAny (model prog w) A (eval (.ListComp elt [⟨.Name x px,iter,[],0⟩] scope pos) env) Q E s:=by
  rw [eval_ListComp]
  refine wpAny_comprehension_free (use:=none) rfl hs hclos hkind hnames (wpAny_mono h (fun xv s₁ h₁=>?_) fun _ _ e=>e)
  obtain ⟨r,a,b,c,t,u,v,n,news,rfl,hh,F,N,hr,hsm,hn,hsz,R⟩:=h₁
  refine wpAny_pyIter_range hr hsm ?_
  refine LCg.block_U (rangeN_walks hh a c n) hsz (fun i h st=>⟨_,st⟩) ?_ hcell hkind hx ?_ ?_ (F.push _) (N.grown fun _ _ e=>Heap.get?_push_of_some _ e) (Nat.ne_of_lt F.ns.lt) (next_is_new F) (fun p hp=>Nat.ne_of_lt (Heap.lt_size (N p hp).1)) trivial (R _ ⟨_,rfl⟩) ?_
  · intro i h h' o nw st e e' _ _ _
    have st':h.get? _=some _:=st
    show h'.get? _=some _
    rw [e',← e];exact st'
  · show IsRangeIter _ _ _ _ _
    rw [hn]
    simpa using Heap.get?_push_size _ rfl
  · intro b hb
    rw [List.mem_singleton.mp hb]
    show s₁.heap.objs.size<(s₁.heap.push _).objs.size
    rw [Heap.size_push]
    exact Nat.lt_succ_self _
  · intro D C h tk m' ys news' F' N' o1 hn hC₀ hD₀ hCL hDL hCD offC fin
    refine ⟨m',hn,fun h'' hs''=>fin D h'' tk (F'.change hs'' hCL hC₀) (fun p hp=>?_) o1⟩
    refine ⟨hs''.extBut _ _ ?_ (N' p hp).1,(N' p hp).2⟩
    rcases List.mem_cons.mp hp with rfl|hp
    · exact Ne.symm hCD
    · exact offC p hp
end
end
local macro_rules | `(tactic| k_all)=>`(tactic| ((with_reducible show Rest _ _ _);first|exact Rest.nil|(with_reducible refine Rest.d1 ?_;k_all)|(with_reducible refine Rest.d2 ?_;k_all)|(with_reducible refine Rest.d3 ?_;k_all)|(with_reducible refine Rest.d4 ?_;k_all)|(with_reducible refine Rest.d5 ?_;k_all)|(refine' Rest.keep ?ra ?rb;(case ra=>(repeat' (first|exact True.intro|refine And.intro (by ((try dsimp only);k_ne)) ?_));done);(case rb=>k_all))|(refine' Rest.drop ?_;k_all)))
section
set_option Elab.async false
set_option maxRecDepth 100000
set_option maxHeartbeats 4000000
set_option linter.unusedVariables false
set_option pp.deepTerms false
set_option pp.maxSteps 2000
theorem great1 {c P:Int} (h:¬ (c.natAbs:Int)<P):0≤2*((if c<0 then -c else c) - P)+1:=by
  split <;> omega
theorem great0 {c P:Int} (h:¬ (c.natAbs:Int)<P):0≤2*((if c<0 then -c else c) - P)+0:=by
  split <;> omega
theorem gen_int {M:Model} {A:Around} {env:Env} {x:Str} {V:Int} {t:Tok} {Q:Unit→Shared→Prop} {E:PySem.Value→Shared→Prop} {s:Shared} (h0:0≤V) (h:∀ gr:Int,0≤gr→wpAny M A (storeName env x (.int gr t)) Q E s):wpAny M A (storeName env x (.int V t)) Q E s:=h V h0
theorem fmod_in {a m:Int} (hm:0<m):0≤a.fmod m∧a.fmod m<m:=⟨Int.fmod_nonneg_of_pos _ hm,Int.fmod_lt_of_pos _ hm⟩
theorem fdiv_nn {a m:Int} (h:0≤a) (hm:0<m):0≤a.fdiv m:=Int.fdiv_nonneg h (Int.le_of_lt hm)
section
set_option maxHeartbeats 4000000
abbrev draw_c_S {w:World} {p:Program} {loose:List Str} {mean:ExcName→Option Value} {mg mb:Str→Option Value} {dp un:Nat} {gd:Option (List Code)} {cn:Str} {cs:Scope} {a:Addr} {ccd:Value} {cl:List (Str×Addr)} {outer:List Env} {A₀:Around} {base h₀:Heap} {L:Addr} {m:Str→Option Value} {s:Shared} {Q E:Value→Shared→Prop} {pn cl':Addr} {spot acc kk:Int} {t1 t2 t3:Tok} {nn c0:Nat} {cells:List PySem.Value} {ns:List Int} {many:Int} {tm:Tok}:Prop:=∀ (B:Below A₀ base outer h₀) (F:Fr h₀ L s.heap m) (X:(hd.heap_39 w.params).In h₀) (N:News h₀ L s.heap [(pn,W.listOf #[.ref cl',.int spot t1,.int acc t2,.int kk t3] nn),(cl',W.listOf cells.toArray c0)]) (T:Top p loose mean mg mb h₀) (hk:cs.kind=.function) (hd:dp+4<recursionLimit) (hu:un+60<cLine) (hne:@Ne Nat pn cl') (hi:IntsAre cells ns) (hl:cells.length≤63) (h1:0≤spot) (h1':spot≤10000) (h2:0≤acc) (h3:0≤kk) (h3':kk<1009) (hm:0<many) (hm':many≤1000) (hret:∀ (d:Int) t (spot' acc':Int) (t1' t2':Tok) nn' h' tk',0≤d→d<many→0≤spot'→spot'≤spot+1→0≤acc'→Fr h₀ L h' m→News h₀ L h' [(pn,W.listOf #[.ref cl',.int spot' t1',.int acc' t2',.int kk t3] nn'),(cl',W.listOf cells.toArray c0)]→KeepBut [pn,cl'] s.heap h'→Q (.int d t) {s with heap:=h',toks:=tk'}),
    wpAny (model PySem.Challenge.rw_nu0167_01.row.prog w) (ktrTop dp un gd cn cs L a ccd cl outer) (call (.ref 388) [.ref pn,.int many tm]) Q E s
namespace draw_c_E
noncomputable section
def ep:=U fun w=>U fun p=>U fun loose=>U fun mean=>U fun mg=>U fun mb=>U fun dp=>U fun un=>U fun gd=>U fun cn=>U fun cs=>U fun a=>U fun ccd=>U fun cl=>U fun outer=>U fun A₀=>U fun base=>U fun h₀=>U fun L=>U fun m=>U fun s=>U fun Q=>U fun E=>U fun pn=>U fun cl'=>U fun spot=>U fun acc=>U fun kk=>U fun t1=>U fun t2=>U fun t3=>U fun nn=>U fun c0=>U fun cells=>U fun ns=>U fun many=>fun tm=>¬ @draw_c_S w p loose mean mg mb dp un gd cn cs a ccd cl outer A₀ base h₀ L m s Q E pn cl' spot acc kk t1 t2 t3 nn c0 cells ns many tm
def ec:=pick ep (sW,df,[],df,df,df,0,0,none,df,df,0,df,[],[],callerA,{},{},0,df,{},df,df,0,0,0,0,0,0,0,0,0,0,[],[],0,0)
@[irreducible] def w:=ec.1
@[irreducible] def p:=ec.2.1
@[irreducible] def loose:=ec.2.2.1
@[irreducible] def mean:=ec.2.2.2.1
@[irreducible] def mg:=ec.2.2.2.2.1
@[irreducible] def mb:=ec.2.2.2.2.2.1
@[irreducible] def dp:=ec.2.2.2.2.2.2.1
def ec1:=ec.2.2.2.2.2.2.2
@[irreducible] def un:=ec1.1
@[irreducible] def gd:=ec1.2.1
@[irreducible] def cn:=ec1.2.2.1
@[irreducible] def cs:=ec1.2.2.2.1
@[irreducible] def a:=ec1.2.2.2.2.1
@[irreducible] def ccd:=ec1.2.2.2.2.2.1
@[irreducible] def cl:=ec1.2.2.2.2.2.2.1
def ec2:=ec1.2.2.2.2.2.2.2
@[irreducible] def outer:=ec2.1
@[irreducible] def A₀:=ec2.2.1
@[irreducible] def base:=ec2.2.2.1
@[irreducible] def h₀:=ec2.2.2.2.1
@[irreducible] def L:=ec2.2.2.2.2.1
@[irreducible] def m:=ec2.2.2.2.2.2.1
@[irreducible] def s:=ec2.2.2.2.2.2.2.1
def ec3:=ec2.2.2.2.2.2.2.2
@[irreducible] def Q:=ec3.1
@[irreducible] def E:=ec3.2.1
@[irreducible] def pn:=ec3.2.2.1
@[irreducible] def cl':=ec3.2.2.2.1
@[irreducible] def spot:=ec3.2.2.2.2.1
@[irreducible] def acc:=ec3.2.2.2.2.2.1
@[irreducible] def kk:=ec3.2.2.2.2.2.2.1
def ec4:=ec3.2.2.2.2.2.2.2
@[irreducible] def t1:=ec4.1
@[irreducible] def t2:=ec4.2.1
@[irreducible] def t3:=ec4.2.2.1
@[irreducible] def nn:=ec4.2.2.2.1
@[irreducible] def c0:=ec4.2.2.2.2.1
@[irreducible] def cells:=ec4.2.2.2.2.2.1
@[irreducible] def ns:=ec4.2.2.2.2.2.2.1
def ec5:=ec4.2.2.2.2.2.2.2
@[irreducible] def many:=ec5.1
@[irreducible] def tm:=ec5.2
theorem ek:@draw_c_S w p loose mean mg mb dp un gd cn cs a ccd cl outer A₀ base h₀ L m s Q E pn cl' spot acc kk t1 t2 t3 nn c0 cells ns many tm:=by
  intro B F X N T hk hd hu hne hi hl h1 h1' h2 h3 h3' hm hm' hret
  by_cases ha:0<acc
  · refine wpAny_call ?_
    k_dflt cell_enter
    (repeat' (first|(k_unfold;(try dsimp only))|(k_end;wrow_close)|((with_reducible show ite _ _ _);(refine ite_pos (by k_dec) ?_))|walk1|(dsimp only;walk1)|(dsimp only;walk1)|(leave1;walk_say "STEP leave1";try dsimp only)|fail "no step"))
    refine' hret _ _ _ _ _ _ _ _ _ (fmod_in hm).1 (fmod_in hm).2 ?pa1 ?pb1 ?pc1 ?F1 ?N1 ?K1
    case N1=>assumption
    case F1=>assumption
    case K1=>exact keepBut_of (by assumption) (by assumption)
    case pa1=>omega
    case pb1=>omega
    case pc1=>exact fdiv_nn h2 hm
  by_cases hs:(cells.length:Int)≤spot
  · refine wpAny_call ?_
    k_dflt cell_enter
    (repeat' (first|(k_unfold;(try dsimp only))|(k_end;wrow_close)|((with_reducible show ite _ _ _);(first|(refine ite_pos (by k_dec) ?_)|(refine ite_neg (by k_dec) ?_)))|((with_reducible show wpAny _ _ (call (Value.builtin "len") [Value.ref _]) _ _ _);with_reducible ((k_here;(with_reducible show wpAny _ _ (call (Value.builtin "len") [Value.ref _]) _ _ _);k_dflt (refine call_len_list (items:=cells.toArray) (News.isList (by assumption) (by k_mem)) ?lenf ?_;(case lenf=>(rw [List.size_toArray];omega)));(simp only [List.size_toArray]))))|walk1|(dsimp only;walk1)|(dsimp only;walk1)|(leave1;walk_say "STEP leave1";try dsimp only)|fail "no step"))
    refine' hret _ _ _ _ _ _ _ _ _ (fmod_in hm).1 (fmod_in hm).2 ?pa2 ?pb2 ?pc2 ?F2 ?N2 ?K2
    case N2=>assumption
    case F2=>assumption
    case K2=>exact keepBut_of (by assumption) (by assumption)
    case pa2=>omega
    case pb2=>omega
    case pc2=>exact h2
  by_cases hb:((ns.getD spot.toNat 0).natAbs:Int)<10 ^ (18:Int).toNat
  · refine wpAny_call ?_
    k_dflt cell_enter
    (repeat' (first|(k_unfold;(try dsimp only))|(k_end;wrow_close)|((with_reducible show ite _ _ _);(first|(refine ite_pos (by k_dec) ?_)|(refine ite_neg (by k_dec) ?_)))|((with_reducible show wpAny _ _ (call (Value.builtin "len") [Value.ref _]) _ _ _);with_reducible ((k_here;(with_reducible show wpAny _ _ (call (Value.builtin "len") [Value.ref _]) _ _ _);k_dflt (refine call_len_list (items:=cells.toArray) (News.isList (by assumption) (by k_mem)) ?lenf ?_;(case lenf=>(rw [List.size_toArray];omega)));(simp only [List.size_toArray]))))|walk1|(dsimp only;walk1)|(dsimp only;walk1)|(leave1;walk_say "STEP leave1";try dsimp only)|fail "no step"))
    refine' hret _ _ _ _ _ _ _ _ _ (fmod_in hm).1 (fmod_in hm).2 ?pa3 ?pb3 ?pc3 ?F3 ?N3 ?K3
    case N3=>assumption
    case F3=>assumption
    case K3=>exact keepBut_of (by assumption) (by assumption)
    case pa3=>omega
    case pb3=>omega
    case pc3=>exact h2
  by_cases hb2:ns.getD spot.toNat 0<0
  · refine wpAny_call ?_
    k_dflt cell_enter
    (repeat' (first|(k_unfold;(try dsimp only))|(k_end;wrow_close)|((with_reducible show ite _ _ _);(first|(refine ite_pos (by k_dec) ?_)|(refine ite_neg (by k_dec) ?_)))|((with_reducible show wpAny _ _ (call (Value.builtin "len") [Value.ref _]) _ _ _);with_reducible ((k_here;(with_reducible show wpAny _ _ (call (Value.builtin "len") [Value.ref _]) _ _ _);k_dflt (refine call_len_list (items:=cells.toArray) (News.isList (by assumption) (by k_mem)) ?lenf ?_;(case lenf=>(rw [List.size_toArray];omega)));(simp only [List.size_toArray]))))|((with_reducible show wpAny _ _ (execs [Stmt.Assign [Expr.Subscript _ _ _] (Expr.BinOp (Expr.Name (Str.ofString "great") _) _ _ _) _,_] _) _ _ _);with_reducible ((k_here;(with_reducible show wpAny _ _ (execs [Stmt.Assign [Expr.Subscript _ _ _] (Expr.BinOp (Expr.Name (Str.ofString "great") _) _ _ _) _,_] _) _ _ _);(with_reducible refine wpAny_execs_cons ?_);(try dsimp only))))|walk1|(dsimp only;walk1)|(dsimp only;walk1)|(leave1;walk_say "STEP leave1";try dsimp only)|fail "no step"))
    refine' hret _ _ _ _ _ _ _ _ _ (fmod_in hm).1 (fmod_in hm).2 ?pa4 ?pb4 ?pc4 ?F4 ?N4 ?K4
    case N4=>assumption
    case F4=>assumption
    case K4=>exact keepBut_of (by assumption) (by assumption)
    case pa4=>omega
    case pb4=>omega
    case pc4=>exact fdiv_nn (great1 hb) hm
  · refine wpAny_call ?_
    k_dflt cell_enter
    (repeat' (first|(k_unfold;(try dsimp only))|(k_end;wrow_close)|((with_reducible show ite _ _ _);(refine ite_neg (by k_dec) ?_))|((with_reducible show wpAny _ _ (call (Value.builtin "len") [Value.ref _]) _ _ _);with_reducible ((k_here;(with_reducible show wpAny _ _ (call (Value.builtin "len") [Value.ref _]) _ _ _);k_dflt (refine call_len_list (items:=cells.toArray) (News.isList (by assumption) (by k_mem)) ?lenf ?_;(case lenf=>(rw [List.size_toArray];omega)));(simp only [List.size_toArray]))))|((with_reducible show wpAny _ _ (execs [Stmt.Assign [Expr.Subscript _ _ _] (Expr.BinOp (Expr.Name (Str.ofString "great") _) _ _ _) _,_] _) _ _ _);with_reducible ((k_here;(with_reducible show wpAny _ _ (execs [Stmt.Assign [Expr.Subscript _ _ _] (Expr.BinOp (Expr.Name (Str.ofString "great") _) _ _ _) _,_] _) _ _ _);(with_reducible refine wpAny_execs_cons ?_);(try dsimp only))))|walk1|(dsimp only;walk1)|(dsimp only;walk1)|(leave1;walk_say "STEP leave1";try dsimp only)|fail "no step"))
    refine' hret _ _ _ _ _ _ _ _ _ (fmod_in hm).1 (fmod_in hm).2 ?pa5 ?pb5 ?pc5 ?F5 ?N5 ?K5
    case N5=>assumption
    case F5=>assumption
    case K5=>exact keepBut_of (by assumption) (by assumption)
    case pa5=>omega
    case pb5=>omega
    case pc5=>exact fdiv_nn (great0 hb) hm
end
end draw_c_E
theorem draw_c {w:World} {p:Program} {loose:List Str} {mean:ExcName→Option Value} {mg mb:Str→Option Value} {dp un:Nat} {gd:Option (List Code)} {cn:Str} {cs:Scope} {a:Addr} {ccd:Value} {cl:List (Str×Addr)} {outer:List Env} {A₀:Around} {base h₀:Heap} {L:Addr} {m:Str→Option Value} {s:Shared} {Q E:Value→Shared→Prop} {pn cl':Addr} {spot acc kk:Int} {t1 t2 t3:Tok} {nn c0:Nat} {cells:List PySem.Value} {ns:List Int} {many:Int} {tm:Tok}:@draw_c_S w p loose mean mg mb dp un gd cn cs a ccd cl outer A₀ base h₀ L m s Q E pn cl' spot acc kk t1 t2 t3 nn c0 cells ns many tm:=@Classical.byContradiction _ fun h=>pick_all (P:=draw_c_E.ep) (by with_unfolding_all exact fun k=>k @draw_c_E.ek) (w,p,loose,mean,mg,mb,dp,un,gd,cn,cs,a,ccd,cl,outer,A₀,base,h₀,L,m,s,Q,E,pn,cl',spot,acc,kk,t1,t2,t3,nn,c0,cells,ns,many,tm) h
end
end
section
open PySem.AutoSeq1 (wpAny_loadPart')
set_option Elab.async false
set_option maxRecDepth 100000
set_option linter.unusedVariables false
set_option maxHeartbeats 4000000
section
variable {prog:Program} {w:World} {A:Around} {E:Value→Shared→Prop} {s:Shared}
theorem draw1_item {it t:Addr} {i:Nat} {items:Array Value} {x:Value} {Q:Value→Shared→Prop} (hit:s.heap.IsTupleIter it t i) (ht:s.heap.IsTuple t items) (hx:items[i]? = some x)
    (hQ:∀ h',h'.IsTupleIter it t (i+1)→Heap.SameBut it s.heap h'→Q x {s with heap:=h'}):wpAny (model prog w) A (Builtin.SmallTypes.nextOf (.ref it)) Q E s:=by
  have hT:=hit.typeIs
  obtain ⟨o,ho,hc,hd⟩:=hit
  obtain ⟨ot,hot,_,n,hdt⟩:=ht
  have e1:items[((i:Nat):Int).toNat]? = some x:=by rw [Int.toNat_natCast];exact hx
  unfold Builtin.SmallTypes.nextOf
  refine wpAny_bind (wpAny_callSpecial?_slot (name:=Str.ofString "__next__") hT F.slot_tuple_iterator_next (wpAny_call_entry F.slot_tuple_iterator_next hT F.entry_tuple_iterator_next ?_ (F.args_tuple_iterator_next_1 _)))
  show wpAny _ _ (field (.ref it) 0 >>= _) _ _ s
  refine wpAny_bind (wpAny_field ho hd (x:=.ref t) rfl ?_)
  show wpAny _ _ (if (Value.ref t == Value.none)=true then _ else _) _ _ s
  rw [if_neg (show ¬ ((Value.ref t == Value.none)=true) from Bool.false_ne_true)]
  show wpAny _ _ (field (.ref it) 1 >>= _) _ _ s
  refine wpAny_bind (wpAny_field ho hd (x:=.int i 0) rfl ?_)
  show wpAny _ _ (seqItems? (.ref t) >>= _) _ _ s
  refine wpAny_bind (wpAny_seqItems hot hdt ?_)
  simp only [e1]
  refine wpAny_bind (wpAny_setField ho hd (by simp) (wpAny_pure ⟨x,rfl,wpAny_pure (hQ _ ⟨_,Heap.get?_update_self _ ho (Obj.isFreed_of_fields (Obj.data_mapFields hd _)),(Obj.cls_mapFields ..).trans hc, ?_⟩ (Heap.SameBut.update ..))⟩))
  rw [Obj.data_mapFields hd]
  simp [rawInt]
theorem draw1_end {it t:Addr} {i:Nat} {items:Array Value} {Q:Value→Shared→Prop} (hh:A.handled=none) (hit:s.heap.IsTupleIter it t i) (ht:s.heap.IsTuple t items) (hx:items[i]? = none)
    (hE:∀ h' e,Heap.ExtBut it s.heap h'→(∃ o,h'.get? e=some o∧o.cls=.type "StopIteration")→E (.ref e) {s with heap:=h'}):wpAny (model prog w) A (Builtin.SmallTypes.nextOf (.ref it)) Q E s:=by
  have hT:=hit.typeIs
  obtain ⟨o,ho,hc,hd⟩:=hit
  obtain ⟨ot,hot,_,n,hdt⟩:=ht
  have e1:items[((i:Nat):Int).toNat]? = none:=by rw [Int.toNat_natCast];exact hx
  unfold Builtin.SmallTypes.nextOf
  refine wpAny_bind (wpAny_callSpecial?_slot (name:=Str.ofString "__next__") hT F.slot_tuple_iterator_next (wpAny_call_entry F.slot_tuple_iterator_next hT F.entry_tuple_iterator_next ?_ (F.args_tuple_iterator_next_1 _)))
  show wpAny _ _ (field (.ref it) 0 >>= _) _ _ s
  refine wpAny_bind (wpAny_field ho hd (x:=.ref t) rfl ?_)
  show wpAny _ _ (if (Value.ref t == Value.none)=true then _ else _) _ _ s
  rw [if_neg (show ¬ ((Value.ref t == Value.none)=true) from Bool.false_ne_true)]
  show wpAny _ _ (field (.ref it) 1 >>= _) _ _ s
  refine wpAny_bind (wpAny_field ho hd (x:=.int i 0) rfl ?_)
  show wpAny _ _ (seqItems? (.ref t) >>= _) _ _ s
  refine wpAny_bind (wpAny_seqItems hot hdt ?_)
  simp only [e1]
  refine wpAny_bind (wpAny_rule (wpAny_bind (wpAny_setField ho hd (by simp) ?_)))
  show wpAny _ _ (newExc (.type "StopIteration") [] >>= _) _ _ _
  refine wpAny_bind ?_
  simp only [newExc,newTuple]
  refine wpAny_bind (wpAny_newObj_type ?_ (by size_fits))
  refine wpAny_bind (m:=firstArgMember _ _) (wpAny_of_eq (a:=Value.none) (by first|rfl|(simp only [firstArgMember];rfl)) ?_)
  refine wpAny_newObj_type ?_ (by size_fits)
  simp only [raiseNew]
  refine wpAny_bind (wpAny_handled ?_)
  first|rw [show A.in1.handled=none from hh]|rw [hh]
  exact wpAny_bind (wpAny_pure (wpAny_throw (hE _ _ (((Heap.SameBut.update ..).extBut.push _).push _) ⟨_,Heap.get?_push_size _ rfl,rfl⟩)))
theorem draws_tup (hh:A.handled=none) (it t:Addr) (hne:t≠it) (items:Array Value):Draws prog w A it [it,t] items.size (fun i v=>items[i]? = some v) (fun i h=>h.IsTupleIter it t i∧h.IsTuple t items) where
  live:=fun i h st=>let ⟨o,ho,_⟩:=st.1;⟨o,ho⟩
  frame:=fun i h h' st k=>⟨st.1.at fun o e=>k it (by simp) o e,st.2.at fun o e=>k t (by simp) o e⟩
  item:=fun i s Q E hi st hQ=>draw1_item st.1 st.2 (Array.getElem?_eq_getElem hi) fun h' hit hs=>hQ _ h' s.toks (Array.getElem?_eq_getElem hi) ⟨hit,st.2.extBut hs.extBut hne⟩ hs
  done:=fun s Q E st hE=>draw1_end hh st.1 st.2 (Array.getElem?_eq_none (Nat.le_refl _)) hE
set_option maxHeartbeats 4000000 in
theorem meets_enumT (l:Addr) (items:Array Value) (n:Nat) (dct:Option Addr) (sl:Array (Option Value)) :
    Meets (Builtin.«enumerate.__new__» ⟨[.type "enumerate",.ref l],[]⟩) (fun _ R s=>s.heap.get? l=some {cls:=.type "tuple",dict:=dct,data:=.seq items n,slots:=sl} ∧
      R (.ok (.ret (.ref (s.heap.push {cls:=.type "tuple_iterator",data:=.fields #[.ref l,.int 0 0]}).objs.size)))
        {s with heap:=(s.heap.push {cls:=.type "tuple_iterator",data:=.fields #[.ref l,.int 0 0]}).push {cls:=.type "enumerate",data:=.fields #[.none,.bool false,.ref s.heap.objs.size,rawInt 0,.none,.none]}}) :=
  .of_wp fun prog w A R s h=>by
    obtain ⟨hp,g,d,tk,os⟩:=s
    obtain ⟨hl,h⟩:=h
    have hsub:=sub_enumerate
    have hL:Heap.IsTuple (Shared.heap ⟨hp,g,d,tk,os⟩) l items:=⟨_,hl,rfl,n,rfl⟩
    wp_walk using wpAny_loadPart' hl
    refine wpAny_stack_any fun st=>wpAny_pure ?_
    split
    · rename_i c _ _ _ _ _
      cases (c == Value.type "enumerate")
      · wp_walk using wpAny_loadPart' hl,wpAny_pyIter_tuple hL
        exact ⟨_,rfl,h⟩
      · wp_walk using wpAny_loadPart' hl,wpAny_pyIter_tuple hL
        exact ⟨_,rfl,h⟩
    · wp_walk using wpAny_loadPart' hl,wpAny_pyIter_tuple hL
      exact ⟨_,rfl,h⟩
theorem call_enumT {l:Addr} {items:Array Value} {Q:Value→Shared→Prop} (hL:s.heap.IsTuple l items)
    (h:∀ h',IsEnum h' (s.heap.objs.size+1) s.heap.objs.size 0 .none→h'.IsTupleIter s.heap.objs.size l 0→(∀ b o,s.heap.get? b=some o→h'.get? b=some o)→Q (.ref (s.heap.objs.size+1)) {s with heap:=h'}) :
    wpAny (model prog w) A (call (.type "enumerate") [.ref l]) Q E s:=by
  obtain ⟨⟨c,dct,dt,sl⟩,hl,hc,n,hd⟩:=hL
  obtain rfl:c=.type "tuple":=hc
  obtain rfl:dt=.seq items n:=hd
  refine callType_new F.called_enumerate (by decide) (F.typeCall_enumerate_1 _) (F.newCall_enumerate_1 _) (fun obj=>F.args_object_init_2 obj _) F.entry_enumerate_new (meets_enumT l items n dct sl) ⟨hl, ?_⟩
  have hz:(s.heap.push {cls:=.type "tuple_iterator",data:=.fields #[.ref l,.int 0 0]}).objs.size=s.heap.objs.size+1:=Heap.size_push ..
  have he:IsEnum ((s.heap.push {cls:=.type "tuple_iterator",data:=.fields #[.ref l,.int 0 0]}).push {cls:=.type "enumerate",data:=.fields #[.none,.bool false,.ref s.heap.objs.size,rawInt 0,.none,.none]}) (s.heap.objs.size+1) s.heap.objs.size 0 .none:=by
    have:=Heap.get?_push_size (s.heap.push {cls:=.type "tuple_iterator",data:=.fields #[.ref l,.int 0 0]}) (o:={cls:=.type "enumerate",data:=.fields #[.none,.bool false,.ref s.heap.objs.size,rawInt 0,.none,.none]}) rfl
    rw [hz] at this
    exact this
  show _∧_
  rw [hz]
  exact ⟨⟨_,he,rfl⟩,h _ he ⟨_,Heap.get?_push_of_some _ (Heap.get?_push_size _ rfl),rfl,rfl⟩ fun b o x=>Heap.get?_push_of_some _ (Heap.get?_push_of_some _ x)⟩
end
end
section
set_option Elab.async false
set_option maxRecDepth 100000
set_option linter.unusedVariables false
set_option maxHeartbeats 4000000
section
variable {prog:Program} {w:World} {A:Around} {E:Value→Shared→Prop} {s:Shared} {env:Env} {h₀:Heap} {body:List Stmt} {Q:Flow→Shared→Prop}
theorem its_two {its:List (Addr×Obj)} {I J:Addr} (h:its.map (·.1)=[I,J]):∃ o o',its=[(I,o),(J,o')]:=by
  cases its with
  | nil=>cases h
  | cons p r =>
    obtain ⟨o,e⟩:=its_one (List.cons.inj h).2
    obtain ⟨a,oa⟩:=p
    have:a=I:=(List.cons.inj h).1
    exact ⟨oa,o,by rw [this,e]⟩
theorem neAll_of2 {a b:Addr} {l:List (Addr×Obj)} (h:∀ p∈l,p.1∉[a,b]):NeAll a l∧NeAll b l :=
  ⟨neAll_of fun p hp hm=>h p hp (by rw [List.mem_singleton.mp hm];exact .head _),neAll_of fun p hp hm=>h p hp (by rw [List.mem_singleton.mp hm];exact .tail _ (.head _))⟩
theorem enumG {elts:List Expr} {k:Nat} {pos:Pos} {tp:Addr} {vs:List Value} {c:Nat} {m₀:Str→Option Value} {news nx₀:List (Addr×Obj)} {otp:Obj} (J:Nat→OedJ)
    (hh:A.handled=none) (F:Fr h₀ env.locals s.heap m₀) (N:News h₀ env.locals s.heap news) (hc:otp.cls=.type "tuple") (hd:otp.data=.seq vs.toArray c)
    (xs:List Str) (hj:J 0 (psOf xs m₀) nx₀) (hn:∀ p∈nx₀,p∈news) (hcst:∀ i ps nx,J i ps nx→(tp,otp)∈nx) (hE:PassesOwn (model prog w) A env E)
    (turn:∀ (i:Nat) T t v ps nx e I oe oI h tk,vs[i]? = some v→IsTup h T #[.int (i:Int) t,v]→NeAll e nx→NeAll I nx→@Ne Nat e I→J i ps nx→Fr h₀ env.locals h (oAt ps m₀)→News h₀ env.locals h ((e,oe)::(I,oI)::nx) →
      wpAny (model prog w) A (assign (.Tuple elts k pos) env (.ref T)) (fun _ s₂=>wpG (model prog w) A (execs body env) (GTurn h₀ env.locals m₀ [(e,oe),(I,oI)] [e,I] (J (i+1)) {s with heap:=h,toks:=tk} Q) E s₂) E {s with heap:=h,toks:=tk})
    (done:∀ ps nx h tk,J vs.length ps nx→Fr h₀ env.locals h (oAt ps m₀)→News h₀ env.locals h nx→Q .next {s with heap:=h,toks:=tk}) :
    wpAny (model prog w) A (call (.type "enumerate") [.ref tp]) (fun x s₁=>wpAny (model prog w) A (pyIter x) (fun it s₂ =>
      codeG (model prog w) A (.forLoop (.Tuple elts k pos) it body [] env) (fun r s'=>match r with|.ok f=>Q f s'|.error e=>cameBackBy (model prog w) A env E e s') s₂) E s₁) E s:=by
  have hm:=hn _ (hcst _ _ _ hj)
  have hz:=N _ hm
  have hl:s.heap.IsTuple tp vs.toArray:=⟨otp,hz.1,hc,c,hd⟩
  have hlt:tp<s.heap.objs.size:=Heap.lt_size hz.1
  have hLs:env.locals<s.heap.objs.size:=F.ns.lt
  refine call_enumT hl fun h' hE' hI' hk=>?_
  refine wpAny_pyIter_enum hE' ?_
  have n1:s.heap.objs.size+1≠s.heap.objs.size:=Nat.succ_ne_self _
  have n2:tp≠s.heap.objs.size:=Nat.ne_of_lt hlt
  have n3:s.heap.objs.size+1∉[s.heap.objs.size,tp]:=fun hm=>by
    rcases List.mem_cons.mp hm with q|hm
    · exact n1 q
    · have q:@Eq Nat (s.heap.objs.size+1) tp:=List.mem_singleton.mp hm
      have hlt':@LT.lt Nat _ tp s.heap.objs.size:=hlt
      omega
  refine loopG (cst:=[(tp,otp)]) (nx₀:=nx₀) (ps₀:=psOf xs m₀) (ws:=[s.heap.objs.size+1,s.heap.objs.size]) J
    (KTurns.ofWalksU (WalksT.enumerateD (draws_tup (A:=A.in1) (by exact hh) s.heap.objs.size tp n2 vs.toArray) (s.heap.objs.size+1) n1 n3 (by simp)).toU) ?_ ?_ ?_ ?_ ?_ ?_ ?_ (F.keeps hk) (fun p hp=>⟨hk _ _ (N p (hn p hp)).1,(N p (hn p hp)).2⟩) ?_ (fun y=>oAt_psOf m₀ y xs) hj hE ?_ ?_
  · intro hm
    simp only [List.mem_cons,List.not_mem_nil,or_false] at hm
    have hLs':@LT.lt Nat _ env.locals s.heap.objs.size:=hLs
    rcases hm with q|q|q
    · have q':@Eq Nat env.locals (s.heap.objs.size+1):=q
      omega
    · have q':@Eq Nat env.locals s.heap.objs.size:=q
      omega
    · exact hz.2.1 q.symm
  · intro b hb
    simp only [List.mem_cons,List.not_mem_nil,or_false] at hb
    rcases hb with rfl|rfl
    · exact ⟨by simp,ktu_new F (Nat.le_add_right _ _)⟩
    · exact ⟨by simp,ktu_new F (Nat.le_refl _)⟩
  · intro b hb
    exact hb
  · intro b hb
    simp only [List.mem_cons,List.not_mem_nil,or_false] at hb
    rcases hb with rfl|rfl|rfl
    · exact .inl (by simp)
    · exact .inl (by simp)
    · exact .inr (.inr ⟨otp,by simp⟩)
  · rintro i h ⟨⟨old,he⟩,hit,ht⟩ b hb
    simp only [List.mem_cons,List.not_mem_nil,or_false] at hb
    rcases hb with rfl|rfl
    · exact ⟨_,he⟩
    · obtain ⟨o,ho,_⟩:=hit
      exact ⟨o,ho⟩
  · intro i ps nx hJ p hp
    rw [List.mem_singleton.mp hp]
    exact hcst _ _ _ hJ
  · exact ⟨⟨_,hE'⟩,hI',hl.at fun o e=>hk _ _ e⟩
  · intro p hp hm
    have hp':@LT.lt Nat _ p.1 s.heap.objs.size:=Heap.lt_size (N p (hn p hp)).1
    simp only [List.mem_cons,List.not_mem_nil,or_false] at hm
    rcases hm with q|q
    · have q':@Eq Nat p.1 (s.heap.objs.size+1):=q
      omega
    · have q':@Eq Nat p.1 s.heap.objs.size:=q
      omega
  · rintro i v ps nx its h tk hi ⟨T,vals,rfl,⟨t,x,hx,rfl⟩,hT⟩ hits hnx hJ F₁ N₁
    obtain ⟨o,o',rfl⟩:=its_two hits
    obtain ⟨a1,a2⟩:=neAll_of2 hnx
    exact turn i T t x ps nx _ _ o o' h tk (by simpa using hx) hT a1 a2 n1 hJ F₁ N₁
  · intro ps nx h tk hJ F₁ N₁
    exact done ps nx h tk (by simpa using hJ) F₁ N₁
end
end
section
set_option Elab.async false
set_option maxRecDepth 100000
set_option linter.unusedVariables false
set_option maxHeartbeats 4000000
section
section
variable {prog:Program} {w:World} {A:Around} {E:Value→Shared→Prop} {s:Shared} {env:Env} {h₀:Heap} {body:List Stmt} {Q:Flow→Shared→Prop}
theorem listG {x:Str} {px:Pos} {l:Addr} {vs:List Value} {c:Nat} {m₀:Str→Option Value} {news nx₀:List (Addr×Obj)} {lo:Obj} (J:Nat→OedJ)
    (hh:A.handled=none) (F:Fr h₀ env.locals s.heap m₀) (N:News h₀ env.locals s.heap news) (hc:lo.cls=.type "list") (hd:lo.data=.seq vs.toArray c)
    (xs:List Str) (hj:J 0 (psOf xs m₀) nx₀) (hn:∀ p∈nx₀,p∈news) (hcst:∀ i ps nx,J i ps nx→(l,lo)∈nx) (hE:PassesOwn (model prog w) A env E)
    (turn:∀ (i:Nat) v ps nx I oI h tk,vs[i]? = some v→NeAll I nx→J i ps nx→Fr h₀ env.locals h (oAt ps m₀)→News h₀ env.locals h ((I,oI)::nx) →
      wpAny (model prog w) A (assign (.Name x px) env v) (fun _ s₂=>wpG (model prog w) A (execs body env) (GTurn h₀ env.locals m₀ [(I,oI)] [I] (J (i+1)) {s with heap:=h,toks:=tk} Q) E s₂) E {s with heap:=h,toks:=tk})
    (done:∀ ps nx h tk,J vs.length ps nx→Fr h₀ env.locals h (oAt ps m₀)→News h₀ env.locals h nx→Q .next {s with heap:=h,toks:=tk}) :
    wpAny (model prog w) A (pyIter (.ref l)) (fun it s₂ =>
      codeG (model prog w) A (.forLoop (.Name x px) it body [] env) (fun r s'=>match r with|.ok f=>Q f s'|.error e=>cameBackBy (model prog w) A env E e s') s₂) E s:=by
  have hm:=hn _ (hcst _ _ _ hj)
  have hz:=N _ hm
  have hl:s.heap.IsList l vs.toArray:=⟨lo,hz.1,hc,c,hd⟩
  have hlt:l<s.heap.objs.size:=Heap.lt_size hz.1
  refine wpAny_pyIter_list hl ?_
  refine loopG (cst:=[(l,lo)]) (nx₀:=nx₀) (ps₀:=psOf xs m₀) (ws:=[s.heap.objs.size]) J
    (KTurns.ofWalks (Walks.list hh s.heap.objs.size l (Nat.ne_of_lt hlt) vs.toArray) fun i v s Q E st q=>letGo_listiter st.1 q) ?_ ?_ (fun b hb=>hb) ?_ ?_ ?_ ?_ (F.push _) (fun p hp=>⟨Heap.get?_push_of_some _ (N p (hn p hp)).1,(N p (hn p hp)).2⟩) ?_ (fun y=>oAt_psOf m₀ y xs) hj hE ?_ ?_
  · intro hm
    rcases List.mem_cons.mp hm with q|hm
    · exact absurd F.ns.lt (q ▸ Nat.lt_irrefl _)
    · exact hz.2.1 (List.mem_singleton.mp hm).symm
  · intro b hb
    rw [List.mem_singleton.mp hb]
    exact ⟨by simp,next_is_new F⟩
  · intro b hb
    rcases List.mem_cons.mp hb with rfl|hb
    · exact .inl (by simp)
    · rw [List.mem_singleton.mp hb]
      exact .inr (.inr ⟨lo,by simp⟩)
  · rintro i h ⟨⟨o,ho,_⟩,_⟩ b hb
    rw [List.mem_singleton.mp hb]
    exact ⟨o,ho⟩
  · intro i ps nx hJ p hp
    rw [List.mem_singleton.mp hp]
    exact hcst _ _ _ hJ
  · exact ⟨⟨_,Heap.get?_push_size _ rfl,rfl,rfl⟩,hl.push _⟩
  · intro p hp hI
    exact absurd (Heap.lt_size (N p (hn p hp)).1) ((List.mem_singleton.mp hI) ▸ Nat.lt_irrefl _)
  · rintro i v ps nx its h tk hi hv hits hnx hJ F₁ N₁
    obtain ⟨oI,rfl⟩:=its_one hits
    exact turn i v ps nx _ oI h tk (by simpa using hv) (neAll_of hnx) hJ F₁ N₁
  · intro ps nx h tk hJ F₁ N₁
    exact done ps nx h tk (by simpa using hJ) F₁ N₁
theorem rangeG {x:Str} {px:Pos} {r:Addr} {a₀ b₀:Int} {t₀ u₀ v₀:Tok} {n:Nat} {m₀:Str→Option Value} {news nx₀:List (Addr×Obj)} (J:Nat→OedJ)
    (hh:A.handled=none) (hr:IsRange s.heap r a₀ b₀ 1 t₀ u₀ v₀) (hsm:Builtin.Range.small a₀ b₀ 1=true) (hsz:Builtin.Range.rangeSize a₀ b₀ 1=(n:Int)) (F:Fr h₀ env.locals s.heap m₀) (N:News h₀ env.locals s.heap news)
    (xs:List Str) (hj:J 0 (psOf xs m₀) nx₀) (hn:∀ p∈nx₀,p∈news) (hE:PassesOwn (model prog w) A env E)
    (turn:∀ (i:Nat) t ps nx I oI h tk,i<n→NeAll I nx→J i ps nx→Fr h₀ env.locals h (oAt ps m₀)→News h₀ env.locals h ((I,oI)::nx) →
      wpAny (model prog w) A (assign (.Name x px) env (.int (a₀+i) t)) (fun _ s₂=>wpG (model prog w) A (execs body env) (GTurn h₀ env.locals m₀ [(I,oI)] [I] (J (i+1)) {s with heap:=h,toks:=tk} Q) E s₂) E {s with heap:=h,toks:=tk})
    (done:∀ ps nx h tk,J n ps nx→Fr h₀ env.locals h (oAt ps m₀)→News h₀ env.locals h nx→Q .next {s with heap:=h,toks:=tk}) :
    wpAny (model prog w) A (pyIter (.ref r)) (fun it s₂ =>
      codeG (model prog w) A (.forLoop (.Name x px) it body [] env) (fun r s'=>match r with|.ok f=>Q f s'|.error e=>cameBackBy (model prog w) A env E e s') s₂) E s:=by
  refine wpAny_pyIter_range hr hsm ?_
  refine loopG (cst:=[]) (nx₀:=nx₀) (ps₀:=psOf xs m₀) (ws:=[s.heap.objs.size]) J
    (KTurns.ofWalks (Walks.range hh s.heap.objs.size a₀ 1 n) fun i v s Q E st q=>wpAny_pure q) ?_ ?_ (fun b hb=>hb) ?_ ?_ ?_ ?_ (F.push _) (fun p hp=>⟨Heap.get?_push_of_some _ (N p (hn p hp)).1,(N p (hn p hp)).2⟩) ?_ (fun y=>oAt_psOf m₀ y xs) hj hE ?_ ?_
  · intro hm
    exact absurd F.ns.lt ((List.mem_singleton.mp hm) ▸ Nat.lt_irrefl _)
  · intro b hb
    rw [List.mem_singleton.mp hb]
    exact ⟨by simp,next_is_new F⟩
  · intro b hb
    exact .inl hb
  · rintro i h hi b hb
    rw [List.mem_singleton.mp hb]
    exact ⟨_,hi⟩
  · intro i ps nx hJ p hp
    cases hp
  · show IsRangeIter _ _ _ _ _
    rw [hsz]
    simpa using Heap.get?_push_size _ rfl
  · intro p hp hI
    exact absurd (Heap.lt_size (N p (hn p hp)).1) ((List.mem_singleton.mp hI) ▸ Nat.lt_irrefl _)
  · rintro i v ps nx its h tk hi ⟨t,rfl⟩ hits hnx hJ F₁ N₁
    obtain ⟨oI,rfl⟩:=its_one hits
    rw [show a₀+(i:Int)*1=a₀+(i:Int) by omega]
    exact turn i t ps nx _ oI h tk hi (neAll_of hnx) hJ F₁ N₁
  · intro ps nx h tk hJ F₁ N₁
    exact done ps nx h tk hJ F₁ N₁
end
abbrev zipG_S {prog:Program} {w:World} {A:Around} {E:Value→Shared→Prop} {s:Shared} {env:Env} {h₀:Heap} {body:List Stmt} {Q:Flow→Shared→Prop} {elts:List Expr} {k:Nat} {pos:Pos} {l1 l2:Addr} {xs ys:List Value} {c1 c2:Nat} {m₀:Str→Option Value} {news nx₀:List (Addr×Obj)} {lo1 lo2:Obj}:Prop:=∀ (J:Nat→OedJ) (hh:A.handled=none) (F:Fr h₀ env.locals s.heap m₀) (N:News h₀ env.locals s.heap news) (hc1:lo1.cls=.type "list") (hd1:lo1.data=.seq xs.toArray c1) (hc2:lo2.cls=.type "list") (hd2:lo2.data=.seq ys.toArray c2) (zs:List Str) (hj:J 0 (psOf zs m₀) nx₀) (hn:∀ p∈nx₀,p∈news) (hcst:∀ i ps nx,J i ps nx→(l1,lo1)∈nx∧(l2,lo2)∈nx) (hE:PassesOwn (model prog w) A env E) (turn:∀ (i:Nat) T x y ps nx its h tk,xs[i]? = some x→ys[i]? = some y→IsTup h T #[x,y]→(∀ p∈nx,∀ q∈its,p.1≠q.1)→J i ps nx→Fr h₀ env.locals h (oAt ps m₀)→News h₀ env.locals h (nx++its) →
      wpAny (model prog w) A (assign (.Tuple elts k pos) env (.ref T)) (fun _ s₂=>wpG (model prog w) A (execs body env) (GTurn h₀ env.locals m₀ its (its.map (·.1)) (J (i+1)) {s with heap:=h,toks:=tk} Q) E s₂) E {s with heap:=h,toks:=tk}) (done:∀ ps nx h tk,J (min xs.length ys.length) ps nx→Fr h₀ env.locals h (oAt ps m₀)→News h₀ env.locals h nx→Q .next {s with heap:=h,toks:=tk}),
    wpAny (model prog w) A (call (.type "zip") [.ref l1,.ref l2]) (fun x s₁=>wpAny (model prog w) A (pyIter x) (fun it s₂ =>
      codeG (model prog w) A (.forLoop (.Tuple elts k pos) it body [] env) (fun r s'=>match r with|.ok f=>Q f s'|.error e=>cameBackBy (model prog w) A env E e s') s₂) E s₁) E s
namespace zipG_E
noncomputable section
def ep:=U fun prog=>U fun w=>U fun A=>U fun E=>U fun s=>U fun env=>U fun h₀=>U fun body=>U fun Q=>U fun elts=>U fun k=>U fun pos=>U fun l1=>U fun l2=>U fun xs=>U fun ys=>U fun c1=>U fun c2=>U fun m₀=>U fun news=>U fun nx₀=>U fun lo1=>fun lo2=>¬ @zipG_S prog w A E s env h₀ body Q elts k pos l1 l2 xs ys c1 c2 m₀ news nx₀ lo1 lo2
def ec:=pick ep (df,sW,callerA,df,{},df,{},[],df,[],0,df,0,0,[],[],0,0,df,[],[],df,df)
@[irreducible] def prog:=ec.1
@[irreducible] def w:=ec.2.1
@[irreducible] def A:=ec.2.2.1
@[irreducible] def E:=ec.2.2.2.1
@[irreducible] def s:=ec.2.2.2.2.1
@[irreducible] def env:=ec.2.2.2.2.2.1
@[irreducible] def h₀:=ec.2.2.2.2.2.2.1
def ec1:=ec.2.2.2.2.2.2.2
@[irreducible] def body:=ec1.1
@[irreducible] def Q:=ec1.2.1
@[irreducible] def elts:=ec1.2.2.1
@[irreducible] def k:=ec1.2.2.2.1
@[irreducible] def pos:=ec1.2.2.2.2.1
@[irreducible] def l1:=ec1.2.2.2.2.2.1
@[irreducible] def l2:=ec1.2.2.2.2.2.2.1
def ec2:=ec1.2.2.2.2.2.2.2
@[irreducible] def xs:=ec2.1
@[irreducible] def ys:=ec2.2.1
@[irreducible] def c1:=ec2.2.2.1
@[irreducible] def c2:=ec2.2.2.2.1
@[irreducible] def m₀:=ec2.2.2.2.2.1
@[irreducible] def news:=ec2.2.2.2.2.2.1
@[irreducible] def nx₀:=ec2.2.2.2.2.2.2.1
def ec3:=ec2.2.2.2.2.2.2.2
@[irreducible] def lo1:=ec3.1
@[irreducible] def lo2:=ec3.2
theorem ek:@zipG_S prog w A E s env h₀ body Q elts k pos l1 l2 xs ys c1 c2 m₀ news nx₀ lo1 lo2:=by
  intro J hh F N hc1 hd1 hc2 hd2 zs hj hn hcst hE turn done
  have hm1:=N _ (hn _ (hcst _ _ _ hj).1)
  have hm2:=N _ (hn _ (hcst _ _ _ hj).2)
  have hl1:s.heap.IsList l1 xs.toArray:=⟨lo1,hm1.1,hc1,c1,hd1⟩
  have hl2:s.heap.IsList l2 ys.toArray:=⟨lo2,hm2.1,hc2,c2,hd2⟩
  have hlt1:@LT.lt Nat _ l1 s.heap.objs.size:=Heap.lt_size hm1.1
  have hlt2:@LT.lt Nat _ l2 s.heap.objs.size:=Heap.lt_size hm2.1
  have hLs:@LT.lt Nat _ env.locals s.heap.objs.size:=F.ns.lt
  have D:ZipApart (s.heap.objs.size+4) (s.heap.objs.size+2) (s.heap.objs.size+3) s.heap.objs.size (s.heap.objs.size+1) l1 l2:=ktu_apart _ _ _ hlt1 hlt2
  refine call_zip_2 hl1 hl2 fun h' hz hTI hTO hi1 hi2 hsz hk=>?_
  refine wpAny_pyIter_zip hz ?_
  refine loopG (cst:=[(l1,lo1),(l2,lo2)]) (nx₀:=nx₀) (ps₀:=psOf zs m₀) (ws:=[s.heap.objs.size+4,s.heap.objs.size+2,s.heap.objs.size+3,s.heap.objs.size,s.heap.objs.size+1]) J
    (KTurns.ofWalksU (WalksT.zip2 hh _ _ _ _ _ _ _ D xs.toArray ys.toArray).toU) ?_ ?_ ?_ ?_ ?_ ?_ ?_ (F.keeps hk) (fun p hp=>⟨hk _ _ (N p (hn p hp)).1,(N p (hn p hp)).2⟩) ?_ (fun y=>oAt_psOf m₀ y zs) hj hE ?_ ?_
  · intro hm
    simp only [List.mem_cons,List.not_mem_nil,or_false] at hm
    rcases hm with q|q|q|q|q|q|q
    · have q':@Eq Nat env.locals (s.heap.objs.size+4):=q
      omega
    · have q':@Eq Nat env.locals (s.heap.objs.size+2):=q
      omega
    · have q':@Eq Nat env.locals (s.heap.objs.size+3):=q
      omega
    · have q':@Eq Nat env.locals s.heap.objs.size:=q
      omega
    · have q':@Eq Nat env.locals (s.heap.objs.size+1):=q
      omega
    · exact hm1.2.1 q.symm
    · exact hm2.2.1 q.symm
  · intro b hb
    simp only [List.mem_cons,List.not_mem_nil,or_false] at hb
    rcases hb with rfl|rfl|rfl|rfl|rfl
    · exact ⟨by simp,ktu_new F (Nat.le_add_right _ _)⟩
    · exact ⟨by simp,ktu_new F (Nat.le_add_right _ _)⟩
    · exact ⟨by simp,ktu_new F (Nat.le_add_right _ _)⟩
    · exact ⟨by simp,ktu_new F (Nat.le_refl _)⟩
    · exact ⟨by simp,ktu_new F (Nat.le_add_right _ _)⟩
  · intro b hb
    simp only [List.mem_cons,List.not_mem_nil,or_false] at hb ⊢
    rcases hb with rfl|rfl|rfl|rfl
    · exact .inl rfl
    · exact .inr (.inr (.inl rfl))
    · exact .inr (.inr (.inr (.inl rfl)))
    · exact .inr (.inr (.inr (.inr rfl)))
  · intro b hb
    simp only [List.mem_cons,List.not_mem_nil,or_false] at hb
    rcases hb with rfl|rfl|rfl|rfl|rfl|rfl|rfl
    · exact .inl (by simp)
    · exact .inl (by simp)
    · exact .inl (by simp)
    · exact .inl (by simp)
    · exact .inl (by simp)
    · exact .inr (.inr ⟨lo1,by simp⟩)
    · exact .inr (.inr ⟨lo2,by simp⟩)
  · rintro i h ⟨z1,z2,⟨a,b,z3⟩,⟨o1,g1,_⟩,⟨o2,g2,_⟩,_⟩ b hb
    simp only [List.mem_cons,List.not_mem_nil,or_false] at hb
    rcases hb with rfl|rfl|rfl|rfl|rfl
    · exact ⟨_,z1⟩
    · exact ⟨_,z2⟩
    · exact ⟨_,z3⟩
    · exact ⟨_,g1⟩
    · exact ⟨_,g2⟩
  · intro i ps nx hJ p hp
    simp only [List.mem_cons,List.not_mem_nil,or_false] at hp
    rcases hp with rfl|rfl
    · exact (hcst _ _ _ hJ).1
    · exact (hcst _ _ _ hJ).2
  · exact ⟨hz,hTI,⟨_,_,hTO⟩,hi1,hi2,hl1.at fun o e=>hk _ _ e,hl2.at fun o e=>hk _ _ e⟩
  · intro p hp hm
    have hp':@LT.lt Nat _ p.1 s.heap.objs.size:=Heap.lt_size (N p (hn p hp)).1
    simp only [List.mem_cons,List.not_mem_nil,or_false] at hm
    rcases hm with q|q|q|q|q
    · have q':@Eq Nat p.1 (s.heap.objs.size+4):=q
      omega
    · have q':@Eq Nat p.1 (s.heap.objs.size+2):=q
      omega
    · have q':@Eq Nat p.1 (s.heap.objs.size+3):=q
      omega
    · have q':@Eq Nat p.1 s.heap.objs.size:=q
      omega
    · have q':@Eq Nat p.1 (s.heap.objs.size+1):=q
      omega
  · rintro i v ps nx its h tk hi ⟨T,vals,rfl,⟨x,y,hx,hy,rfl⟩,hT⟩ hits hnx hJ F₁ N₁
    rw [← hits]
    refine turn i T x y ps nx its h tk (by simpa using hx) (by simpa using hy) hT (fun p hp q hq e=>hnx p hp ?_) hJ F₁ fun p hp=>N₁ p (List.mem_append.mpr (List.mem_append.mp hp).symm)
    rw [e,← hits]
    exact List.mem_map_of_mem hq
  · intro ps nx h tk hJ F₁ N₁
    exact done ps nx h tk (by simpa using hJ) F₁ N₁
end
end zipG_E
theorem zipG {prog:Program} {w:World} {A:Around} {E:Value→Shared→Prop} {s:Shared} {env:Env} {h₀:Heap} {body:List Stmt} {Q:Flow→Shared→Prop} {elts:List Expr} {k:Nat} {pos:Pos} {l1 l2:Addr} {xs ys:List Value} {c1 c2:Nat} {m₀:Str→Option Value} {news nx₀:List (Addr×Obj)} {lo1 lo2:Obj}:@zipG_S prog w A E s env h₀ body Q elts k pos l1 l2 xs ys c1 c2 m₀ news nx₀ lo1 lo2:=@Classical.byContradiction _ fun h=>pick_all (P:=zipG_E.ep) (by with_unfolding_all exact fun k=>k @zipG_E.ek) (prog,w,A,E,s,env,h₀,body,Q,elts,k,pos,l1,l2,xs,ys,c1,c2,m₀,news,nx₀,lo1,lo2) h
end
end
section
set_option Elab.async false
set_option maxRecDepth 100000
set_option maxHeartbeats 4000000
set_option linter.unusedVariables false
set_option pp.deepTerms false
set_option pp.maxSteps 2000
theorem bitAnd_255 {x:Int} (h:0≤x):Builtin.bitAnd x 255=x % 256:=by
  obtain ⟨n,rfl⟩:=Int.eq_ofNat_of_zero_le h
  show ((n &&& 255:Nat):Int)=_
  rw [show (255:Nat)=2 ^ 8 - 1 from rfl,Nat.and_two_pow_sub_one_eq_mod]
  omega
theorem oct_hi {n:Int} (h0:0≤n) (h1:n<65536):Builtin.bitAnd (n.fdiv (2 ^ (8*(2 - 1+((0:Nat):Int)*-1)).toNat)) 255=n / 256:=by
  rw [show (8*(2 - 1+((0:Nat):Int)*-1)).toNat=8 from by decide,fdiv_pow,bitAnd_255 (div_pow_nonneg h0 8),show (2:Int) ^ 8=256 from rfl]
  omega
theorem oct_lo {n:Int} (h0:0≤n):Builtin.bitAnd (n.fdiv (2 ^ (8*(2 - 1+((0+1:Nat):Int)*-1)).toNat)) 255=n % 256:=by
  rw [show (8*(2 - 1+((0+1:Nat):Int)*-1)).toNat=0 from by decide,fdiv_pow,show (2:Int) ^ 0=1 from rfl,Int.ediv_one,bitAnd_255 h0]
theorem bInts_two {a b:Int} (ha:0≤a) (ha':a<256) (hb:0≤b) (hb':b<256):KBw.bInts (#[a.toNat.toUInt8,b.toNat.toUInt8]:Array UInt8)=[a,b]:=by
  have e1:=byte_back ha ha'
  have e2:=byte_back hb hb'
  show [((a.toNat.toUInt8.toNat:Nat):Int),((b.toNat.toUInt8.toNat:Nat):Int)]=_
  rw [e1,e2]
section
set_option maxHeartbeats 4000000
abbrev octets_c_S {w:World} {p:Program} {loose:List Str} {mean:ExcName→Option Value} {mg mb:Str→Option Value} {dp un:Nat} {gd:Option (List Code)} {cn:Str} {cs:Scope} {a:Addr} {ccd:Value} {cl:List (Str×Addr)} {outer:List Env} {A₀:Around} {base h₀:Heap} {L:Addr} {m:Str→Option Value} {s:Shared} {Q E:Value→Shared→Prop} {n:Int} {tn t2:Tok}:Prop:=∀ (B:Below A₀ base outer h₀) (F:Fr h₀ L s.heap m) (X:(hd.heap_39 w.params).In h₀) (N:News h₀ L s.heap []) (T:Top p loose mean mg mb h₀) (hk:cs.kind=.function) (hd:dp+2<recursionLimit) (hu:un+20<cLine) (hn0:0≤n) (hn1:n<65536) (hret:∀ (d:Array UInt8) (t:Tok) h' tk',KBw.bInts d=[n / 256,n % 256]→Fr h₀ L h' m→KeepBut [] s.heap h'→Q (.bytes d t) {s with heap:=h',toks:=tk'}),
    wpAny (model PySem.Challenge.rw_nu0167_01.row.prog w) (ktrTop dp un gd cn cs L a ccd cl outer) (call (.ref 289) [.int n tn,.int 2 t2]) Q E s
namespace octets_c_E
noncomputable section
def ep:=U fun w=>U fun p=>U fun loose=>U fun mean=>U fun mg=>U fun mb=>U fun dp=>U fun un=>U fun gd=>U fun cn=>U fun cs=>U fun a=>U fun ccd=>U fun cl=>U fun outer=>U fun A₀=>U fun base=>U fun h₀=>U fun L=>U fun m=>U fun s=>U fun Q=>U fun E=>U fun n=>U fun tn=>fun t2=>¬ @octets_c_S w p loose mean mg mb dp un gd cn cs a ccd cl outer A₀ base h₀ L m s Q E n tn t2
def ec:=pick ep (sW,df,[],df,df,df,0,0,none,df,df,0,df,[],[],callerA,{},{},0,df,{},df,df,0,0,0)
@[irreducible] def w:=ec.1
@[irreducible] def p:=ec.2.1
@[irreducible] def loose:=ec.2.2.1
@[irreducible] def mean:=ec.2.2.2.1
@[irreducible] def mg:=ec.2.2.2.2.1
@[irreducible] def mb:=ec.2.2.2.2.2.1
@[irreducible] def dp:=ec.2.2.2.2.2.2.1
def ec1:=ec.2.2.2.2.2.2.2
@[irreducible] def un:=ec1.1
@[irreducible] def gd:=ec1.2.1
@[irreducible] def cn:=ec1.2.2.1
@[irreducible] def cs:=ec1.2.2.2.1
@[irreducible] def a:=ec1.2.2.2.2.1
@[irreducible] def ccd:=ec1.2.2.2.2.2.1
@[irreducible] def cl:=ec1.2.2.2.2.2.2.1
def ec2:=ec1.2.2.2.2.2.2.2
@[irreducible] def outer:=ec2.1
@[irreducible] def A₀:=ec2.2.1
@[irreducible] def base:=ec2.2.2.1
@[irreducible] def h₀:=ec2.2.2.2.1
@[irreducible] def L:=ec2.2.2.2.2.1
@[irreducible] def m:=ec2.2.2.2.2.2.1
@[irreducible] def s:=ec2.2.2.2.2.2.2.1
def ec3:=ec2.2.2.2.2.2.2.2
@[irreducible] def Q:=ec3.1
@[irreducible] def E:=ec3.2.1
@[irreducible] def n:=ec3.2.2.1
@[irreducible] def tn:=ec3.2.2.2.1
@[irreducible] def t2:=ec3.2.2.2.2
def st:Σ' R:Heap→Addr→Heap→Nat→Obj→Prop,((∀ gZ LZ hZ kZ oZ,R gZ LZ hZ kZ oZ)→@octets_c_S w p loose mean mg mb dp un gd cn cs a ccd cl outer A₀ base h₀ L m s Q E n tn t2):=⟨_,fun kk=>by
  intro B F X N T hk hd hu hn0 hn1 hret
  have hc:n.fdiv (2 ^ (8*2:Int).toNat)=0:=by
    rw [fdiv_pow]
    exact Int.ediv_eq_zero_of_lt hn0 hn1
  refine wpAny_call ?_
  k_dflt cell_enter
  rename_i gZ LZ hZ kZ _ _ _ _ _ _ _ oZ _ _
  (repeat (rename_i zz;revert zz))
  revert B F X N T hk hd hu hn0 hn1 hret hc
  exact kk gZ LZ hZ kZ oZ⟩
def eq:=U fun gZ=>U fun LZ=>U fun hZ=>U fun kZ=>fun oZ=>¬ st.1 gZ LZ hZ kZ oZ
def er:=pick eq ({},0,{},0,df)
@[irreducible] def gZ:=er.1
@[irreducible] def LZ:=er.2.1
@[irreducible] def hZ:=er.2.2.1
@[irreducible] def kZ:=er.2.2.2.1
@[irreducible] def oZ:=er.2.2.2.2
theorem el:st.1 gZ LZ hZ kZ oZ:=by
  intro B F X N T hk hd hu hn0 hn1 hret hc _ _ _ _ _ _ _ _ _
  (repeat' (first|(k_unfold;(try dsimp only))|(k_end;wrow_close)|((with_reducible show ite _ _ _);(refine ite_neg (by k_dec) ?_))|((with_reducible show SrcN ..);(with_reducible (k_here;k_dflt (refine SrcN.mk (n:=2) (by rfl) (by k_asm) (by k_asm) (by assumption) (by decide) (by rfl) (by decide) ?_;intro g'))))|((with_reducible show wpAny _ _ (eval (Expr.ListComp ..) _) _ _ _);(with_reducible (k_here;k_dflt (refine ListComp_N (F₀:=by k_asm) (by with_unfolding_all rfl) (by decide) (by rfl) (by decide) (by rfl) ?_))))|((with_reducible show wpAny _ _ (call (Value.type _) [Value.ref _]) _ _ _);with_reducible ((k_here;(with_reducible show wpAny _ _ (call (Value.type _) [Value.ref _]) _ _ _);(rename News _ _ _ _=>nB');rw [oct_hi hn0 hn1,oct_lo hn0] at nB';k_dflt (refine' bytes_K (by k_asm) nB' (by is_list) (by exact .cons _ _ (.cons _ _ .nil)) (by by_in) (by (simp only [sizeLine_eq,List.length_cons,List.length_nil];decide)) (by with_unfolding_all rfl) ?_;k_whole);intro h' t' k' F' N' hB';(try dsimp only [List.map]);(try k_sweep))))|walk1|(dsimp only;walk1)|(dsimp only;walk1)|(leave1;walk_say "STEP leave1";try dsimp only)|fail "no step"))
  exact hret _ _ _ _ (bInts_two (by omega) (by omega) (by omega) (by omega)) (by assumption) (keepBut_of (by assumption) (by assumption))
theorem ek:@octets_c_S w p loose mean mg mb dp un gd cn cs a ccd cl outer A₀ base h₀ L m s Q E n tn t2:=st.2 fun gZ LZ hZ kZ oZ=>@Classical.byContradiction _ fun h=>pick_all (P:=eq) (by with_unfolding_all exact fun k=>k @el) (gZ,LZ,hZ,kZ,oZ) h
end
end octets_c_E
theorem octets_c {w:World} {p:Program} {loose:List Str} {mean:ExcName→Option Value} {mg mb:Str→Option Value} {dp un:Nat} {gd:Option (List Code)} {cn:Str} {cs:Scope} {a:Addr} {ccd:Value} {cl:List (Str×Addr)} {outer:List Env} {A₀:Around} {base h₀:Heap} {L:Addr} {m:Str→Option Value} {s:Shared} {Q E:Value→Shared→Prop} {n:Int} {tn t2:Tok}:@octets_c_S w p loose mean mg mb dp un gd cn cs a ccd cl outer A₀ base h₀ L m s Q E n tn t2:=@Classical.byContradiction _ fun h=>pick_all (P:=octets_c_E.ep) (by with_unfolding_all exact fun k=>k @octets_c_E.ek) (w,p,loose,mean,mg,mb,dp,un,gd,cn,cs,a,ccd,cl,outer,A₀,base,h₀,L,m,s,Q,E,n,tn,t2) h
end
end
local macro_rules | `(tactic| cell_enter)=>`(tactic| (refine' enterG ?k1 ?k2 ?k3 ?k4 ?k5 ?kA ?kF ?kK ?k6 ?k7 ?k8 ?k9 ?kB ?_ ?c2 ?c3 ?c4 ?c5;(case kA=>exact rfl);(case kF=>exact rfl);(case kK=>assumption);(case k1=>k_asm);(case k2=>k_asm);(case k3=>k_asm);(case k4=>k_asm);(case k5=>k_asm);(case k6=>k_is);(case k7=>k_is);(case k8=>ktr_room);(case k9=>exact BindsTo.of_eq rfl);(case c5=>decide);(case kB=>exact locs rfl);(case c2=>exact rfl);(case c3=>exact rfl);(case c4=>exact rfl);k_whole;intro g' L' h' FG' F' N' B' X' T' kG';(try dsimp only);(try k_lift B');(try k_fold)))
section
set_option Elab.async false
set_option maxRecDepth 100000
set_option maxHeartbeats 4000000
set_option linter.unusedVariables false
set_option pp.deepTerms false
set_option pp.maxSteps 2000
section
variable {M:Model} {A:Around} {E:PySem.Value→Shared→Prop} {s:Shared} {env:Env}
theorem AssignAttrG {o attr pos' value pos} {Q:Flow→Shared→Prop}
    (h:wpG M A (eval value env) (fun v s₁=>wpAny M A (eval o env) (fun ov s₂=>wpAny M A (setAttr ov attr v) (fun _=>Q .next) E s₂) E s₁) E s)
    (hs:swapsWith value (some (.Attribute o attr pos')) pos.line env=pure false:=by rfl) :
    wpG M A (exec (.Assign [.Attribute o attr pos'] value pos) env) Q E s:=fun Γ p hΓ g=>by
  simp only [plainObj_exec_Assign_Attribute o attr pos' value pos hs,assign_Attribute,Sem.wp_bind',Sem.wp_holding,Sem.wp_cmd_standAt,Sem.wp_release,Sem.wp_pure']
  exact Sem.wp_mono M Γ _ (fun v p₁ s₁ h₁=>Sem.wp_mono M Γ _ (fun ov _ s₂ h₂=>h₂ Γ _ hΓ) (fun _ _ _ h'=>h') _ _ (h₁ Γ p₁ hΓ)) (fun _ _ _ h'=>h') _ _ (h Γ _ hΓ g)
theorem led_new {g h h':Heap} {L:Addr} {m:Str→Option PySem.Value} {news:List (Addr×Obj)} {o:Obj} (F:Fr g L h m) (N:News g L h news) (k:∀ c o,h.get? c=some o→h'.get? c=some o) {b:Addr} (eb:b=h.objs.size) (hb:h'.get? b=some o):Fr g L h' m∧News g L h' ((b,o)::news)∧∀ p∈news,p.1<b:=by
  subst eb
  refine ⟨F.keeps k,fun p hp=>?_,fun p hp=>Heap.lt_size (N p hp).1⟩
  rcases List.mem_cons.mp hp with rfl|hp
  · exact ⟨hb,fun e=>Nat.lt_irrefl _ (by have:=F.ns.lt;rw [← e] at this;exact this),next_is_new F⟩
  · exact ⟨k _ _ (N p hp).1,(N p hp).2⟩
theorem keepMake {H hm g h':Heap} {L':Addr} {m':Str→Option PySem.Value} {x dx:Addr} (l2:@LT.lt Nat _ dx x) (k:∀ c o,H.get? c=some o→hm.get? c=some o∧@LT.lt Nat _ c dx) (G:GSub hm g [x,dx]) (F:Fr g L' h' m'):KeepBut [] H h':=fun c o e _=>by
  obtain ⟨k1,k2⟩:=k c o e
  refine F.keep c o (G c o k1 fun hm=>?_)
  rcases List.mem_cons.mp hm with q|hm
  · have q':@Eq Nat c x:=q
    omega
  · have q':@Eq Nat c dx:=List.mem_singleton.mp hm
    omega
theorem freshMake {H hm g h':Heap} {L':Addr} {x dx b:Addr} {o:Obj} {r:List (Addr×Obj)} (l2:@LT.lt Nat _ dx x) (k:∀ c o,H.get? c=some o→hm.get? c=some o∧@LT.lt Nat _ c dx) (G:GSub hm g [x,dx]) (N:News g L' h' ((b,o)::r)):Fresh H x∧Fresh H dx∧Fresh H b:=by
  refine ⟨fun c oc e=>?_,fun c oc e=>?_,fun c oc e q=>?_⟩
  · have:=(k c oc e).2
    exact Nat.ne_of_lt (Nat.lt_trans this l2)
  · exact Nat.ne_of_lt (k c oc e).2
  · obtain ⟨k1,k2⟩:=k c oc e
    have z:=G c oc k1 fun hm=>by
      rcases List.mem_cons.mp hm with q|hm
      · have q':@Eq Nat c x:=q
        omega
      · have q':@Eq Nat c dx:=List.mem_singleton.mp hm
        omega
    have q':c=b:=q
    rw [q',(N _ (.head _)).2.2] at z
    cases z
theorem callWithG_type0 {T:String} {pos:Pos} {Q:PySem.Value→Shared→Prop} (h:wpG M A (call (.type T) []) Q E s):wpG M A (callWith pos (.type T) [] (backTo pos (starEach [] env)) []) Q E s :=
  callWithG_of (P:=fun _=>True) rfl (fun _ _=>⟨.machine,.inr (.inl rfl),Looks.of_pure rfl⟩) (evalArgs_nil3 ⟨trivial,h⟩)
end
section
variable {w:World} {p:Program} {loose:List Str} {mean:ExcName→Option Value} {mg mb:Str→Option Value} {dp un:Nat} {gd:Option (List Code)} {cn:Str} {cs:Scope} {a:Addr} {ccd:Value} {cl:List (Str×Addr)} {outer:List Env} {A₀:Around} {base h₀:Heap} {L:Addr} {m:Str→Option Value} {s:Shared} {Q E:Value→Shared→Prop}
set_option maxHeartbeats 4000000
theorem out_c (B:Below A₀ base outer h₀) (F:Fr h₀ L s.heap m) (X:(hd.heap_39 w.params).In h₀) (N:News h₀ L s.heap []) (T:Top p loose mean mg mb h₀) (hk:cs.kind=.function) (hd:dp+12<recursionLimit) (hu:un+140<cLine)
    (hret:∀ x dx b (k:Tok) h' tk',Fr h₀ L h' m→News h₀ L h' [(x,instObj 376 dx),(dx,dictOf [⟨PyData.keyHash w.params (Str.ofString "made"),.str (Str.ofString "made") k,.ref b⟩] 1),(b,baObj #[])]→KeepBut [] s.heap h'→Fresh s.heap x→Fresh s.heap dx→Fresh s.heap b→@Ne Nat x dx→@Ne Nat b x→@Ne Nat b dx→Q (.ref x) {s with heap:=h',toks:=tk'}) :
    wpG (model PySem.Challenge.rw_nu0167_01.row.prog w) (ktrTop dp un (some []) cn cs L a ccd cl outer) (call (.ref 376) []) Q E s:=by
  have hq:(ktrTop dp un (some []) cn cs L a ccd cl outer).guards=some []:=rfl
  refine wpG_call ?_
  k_dflt (refine' makeG (C:=376) (fI:=303) F N (X.keeps F.keep) ?hm ?hi ?hf ?_;(case hm=>k_is);(case hi=>k_is);(case hf=>k_is))
  intro x dx h' F' N' l1 l2 l4
  (try k_lt l1)
  k_lt2 l2
  k_dflt cell_enter
  refine execsG_cons (AssignAttrG (CallG ?_))
  k_steps
  refine callWithG_type0 (ba_make rfl fun b h'' eb kb hb'=>?_)
  have LN:=led_new (k:=kb) (eb:=eb) (hb:=hb') (F:=by assumption) (N:=by assumption)
  obtain ⟨F2,N2,l3⟩:=LN
  k_lt l3
  dsimp only
  k_steps
  refine execsG_nil ?_
  k_steps
  have FM:=freshMake l2 l4 (by assumption) (by assumption)
  exact hret _ _ _ _ _ _ (by assumption) (news_sub (by assumption) (by k_allIn)) (keepMake l2 l4 (by assumption) (by assumption)) FM.1 FM.2.1 FM.2.2 (by k_ne) (by k_ne) (by k_ne)
end
end
section
set_option Elab.async false
set_option maxRecDepth 100000
set_option maxHeartbeats 4000000
set_option linter.unusedVariables false
set_option pp.deepTerms false
set_option pp.maxSteps 2000
theorem ba_plainAttrs:PlainAttrs "bytearray" :=
  ⟨⟨"bytearray.__getattribute__",by rw [typeLookup_type,builtinLookup_eq_fast];kernel_rfl,by decide +kernel⟩,by rw [typeLookup_type,builtinLookup_eq_fast];kernel_rfl⟩
theorem ba_type_extend:typeOf (.builtin "bytearray.extend")=pure (.type "method_descriptor"):=by show builtinType _=_;rw [builtinType_eq_fast];kernel_rfl
section
variable {M:Model} {A:Around} {E:PySem.Value→Shared→Prop} {s:Shared} {env:Env} {h₀:Heap} {L:Addr} {m:Str→Option PySem.Value} {news news':List (Addr×Obj)} {b:Addr} {o o':Obj}
theorem ba_method {arr:Array UInt8} {pl:Sem Bool} {Q:PySem.Value×List PySem.Value→Shared→Prop} (N:News h₀ L s.heap news) (hm:(b,baObj arr)∈news) (h:Q (.builtin "bytearray.extend",[.ref b]) s) :
    wpAny M A (getMethod (.ref b) (Str.ofString "extend") pl) Q E s :=
  getMethod_builtin (T:="bytearray") (name:=Str.ofString "extend") ⟨_,(N _ hm).1,rfl⟩ ba_plainAttrs ba_slot_extend ba_type_extend (fun a e=>by cases e;exact ⟨_,(N _ hm).1,rfl⟩) h
theorem led_set {h h':Heap} (F:Fr h₀ L h m) (N:News h₀ L h news) (U:Upd b o o' news news') (hs:Heap.SameBut b h h') (ho:h'.get? b=some o'):Fr h₀ L h' m∧News h₀ L h' news':=by
  obtain ⟨pre,post,rfl,rfl,x,y⟩:=U.split
  have z:=N (b,o) (List.mem_append.mpr (.inr (.head _)))
  exact ⟨F.change hs z.2.1 z.2.2,news_set N x y hs ho⟩
theorem callWithG_b {id:String} {pos:Pos} {first:List PySem.Value} {e:Expr} {rest:List Expr} {Q:PySem.Value→Shared→Prop} (hk:keeperOf (.builtin id)=pure .machine)
    (h:wpAny M A (spliced (backTo pos (starEach (e::rest) env))) (fun vs s₁=>wpG M A (call (.builtin id) (first++vs)) Q E s₁) E s)
    (he:starEach (e::rest) env=(false,eval e env)::starEach rest env:=by rfl) (hplain:(backTo pos (starEach rest env)).any (·.1)=false:=by rfl) :
    wpG M A (callWith pos (.builtin id) first (backTo pos (starEach (e::rest) env)) []) Q E s:=by
  rw [he] at h ⊢
  exact callWithG_of (P:=fun _=>True) (by show ((false || (backTo pos (starEach rest env)).any (·.1)) || false)=false;rw [hplain];rfl) (fun _ _=>⟨.machine,.inr (.inl rfl),Looks.of_pure hk⟩)
    (evalArgs_plain (wpAny_mono h (fun _ _ x=>⟨trivial,x⟩) fun _ _ x=>x))
end
def oc2 (n:Int):List Int:=[n % 65536 / 256,n % 65536 % 256]
theorem oc2_len {d:Array UInt8} {n:Int} (h:KBw.bInts d=oc2 n):d.size=2:=by
  have:=KBw.ints_length d
  rw [h] at this
  exact this.symm
theorem arr_ne {d:Array UInt8} (h:d.size=2):d.isEmpty=false:=by
  unfold Array.isEmpty
  rw [h]
  rfl
theorem arr_fits {arr d:Array UInt8} (h:d.size=2) (hz:arr.size≤1000):(arr++d).size≤sizeLine:=by
  rw [Array.size_append,h,sizeLine_eq]
  omega
section
variable {w:World} {p:Program} {loose:List Str} {mean:ExcName→Option Value} {mg mb:Str→Option Value} {dp un:Nat} {gd:Option (List Code)} {cn:Str} {cs:Scope} {a:Addr} {ccd:Value} {cl:List (Str×Addr)} {outer:List Env} {A₀:Around} {base h₀:Heap} {L:Addr} {m:Str→Option Value} {s:Shared} {Q E:Value→Shared→Prop}
set_option maxHeartbeats 4000000
theorem i16_c (B:Below A₀ base outer h₀) (F:Fr h₀ L s.heap m) (X:(hd.heap_39 w.params).In h₀) {x dx b:Addr} {k:Tok} {arr:Array UInt8} (N:News h₀ L s.heap [(x,instObj 376 dx),(dx,dictOf [⟨PyData.keyHash w.params (Str.ofString "made"),.str (Str.ofString "made") k,.ref b⟩] 1),(b,baObj arr)]) (T:Top p loose mean mg mb h₀) (hk:cs.kind=.function) (hd:dp+4<recursionLimit) (hu:un+40<cLine)
    (n1:@Ne Nat x dx) (n2:@Ne Nat b x) (n3:@Ne Nat b dx) (hz:arr.size≤1000) {n:Int} {tn:Tok} (hn0:-32768≤n) (hn1:n≤32767)
    (hret:∀ (d:Array UInt8) h' tk',KBw.bInts d=oc2 n→Fr h₀ L h' m→News h₀ L h' [(x,instObj 376 dx),(dx,dictOf [⟨PyData.keyHash w.params (Str.ofString "made"),.str (Str.ofString "made") k,.ref b⟩] 1),(b,baObj (arr++d))]→KeepBut [x,dx,b] s.heap h'→Q .none {s with heap:=h',toks:=tk'}) :
    wpG (model PySem.Challenge.rw_nu0167_01.row.prog w) (ktrTop dp un (some []) cn cs L a ccd cl outer) (call (.ref 324) [.ref x,.int n tn]) Q E s:=by
  refine wpG_call ?_
  k_dflt cell_enter
  refine execsG_leaf ?_
  k_steps
  refine execsG_cons (ExprG (MethodG ?_))
  k_steps
  refine ba_method (by assumption) (by k_mem) ?_
  refine callWithG_b (by first|rfl|kernel_rfl) ?_
  (repeat' (first|(k_unfold;(try dsimp only))|(k_end;wrow_close)|((with_reducible show wpAny _ _ (call (Value.ref _) _) _ _ _);with_reducible (k_here;(try dsimp only [List.nil_append,List.cons_append]);(with_reducible show wpAny _ _ (call (Value.ref 289) _) _ _ _);rw [bitAnd_m16];k_dflt (refine' octets_c (by k_asm) (by k_asm) (by k_asm) (by exact News.nil) (by k_asm) (by exact rfl) (by ktr_room) (by ktr_units) (by omega) (by omega) ?_);intro d9 t9 h9 tk9 bi9 F9 K9;(have N9:=newsKeep (by assumption) K9);clear K9;(try k_sweep);(try dsimp only)))|walk1|(dsimp only;(with_reducible show wpAny _ _ (call (Value.ref _) _) _ _ _))|(dsimp only;walk1)|(leave1;walk_say "STEP leave1";try dsimp only)|fail "no step"))
  rename KBw.bInts _=_=>bi
  have bi':KBw.bInts _=oc2 n:=bi
  have hsz:=oc2_len bi'
  have hmt:=arr_ne hsz
  have hzz:=arr_fits (arr:=arr) hsz hz
  refine ba_extend rfl (News.get (by assumption) (by k_mem)) hmt hzz fun h'' hs hb'=>?_
  have LN:=led_set (hs:=hs) (ho:=hb') (F:=by assumption) (N:=by assumption) (U:=by k_dflt k_upd)
  obtain ⟨F2,N2⟩:=LN
  dsimp only
  (try k_sweep)
  refine execsG_nil ?_
  k_steps
  exact hret _ _ _ bi' (by assumption) (by assumption) (keepBut_of (by assumption) (by assumption))
end
end
section
set_option Elab.async false
set_option maxRecDepth 100000
set_option maxHeartbeats 4000000
set_option linter.unusedVariables false
section
abbrev caught_DO_S {prog:Program} {w:World} {A₀:Around} {E:Value→Shared→Prop} {s':Shared} {base g H:Heap} {outer:List Env} {L a e dx:Addr} {od:Obj} {m:Str→Option Value} {name:Str} {scope:Scope} {cd:Value} {Q:Flow→Shared→Prop} {adr:List Addr} {rest:List (Addr×Obj)} {KF:Frag} {p:Program} {loose:List Str} {mean:ExcName→Option Value} {mg mb:Str→Option Value} {x n:Str} {np pos:Pos} {b₀:Stmt} {suite:List Stmt} {hs:List ExceptHandler} {own:List (Addr×Obj)}:Prop:=∀ (R:Thrown H adr base (envOf name scope L a cd::outer) e dx od own s'.heap) (hown:∀ p∈own,p.1∈adr) (F:Fr g L H m) (K:Below A₀ base outer g) (X:KF.In g) (XB:KF.In base) (TB:Top p loose mean mg mb base) (Nr:News g L H rest) (hrest:∀ p∈rest,p.1∉adr) (hadr:∀ b∈adr,g.get? b=none) (hLa:L∉adr) (ex:nsIn KF mainGlobals x=some (some (.ref 61))) (q:ktsIn KF 61 "BaseException" = true) (k:∀ h' g' oe tk vs,KtsTurn (outer.filterMap (·.frame)) g g'→Fr g' L h' (fun y=>if y=n then some (.ref e) else m y)→News g' L h' ((e,oe)::(dx,od)::(own++rest))→oe.cls=.ref 61→oe.dict=some dx→oe.data=.fields vs→Below A₀ base outer g'→KF.In g'→Top p loose mean mg mb g' →
      wpAny (model prog w) ((A₀.deeper (envOf name scope L a cd)).mark (some (.ref e))) (execs (b₀::suite) (envOf name scope L a cd))
        (fun f s₄=>wpAny (model prog w) (A₀.deeper (envOf name scope L a cd)) (do bindName (envOf name scope L a cd) n .none;unbindBehindTheSuite (envOf name scope L a cd) n pos) (fun _ s₅=>Q f s₅) E s₄)
        (AsSuiteRaised (model prog w) ((A₀.deeper (envOf name scope L a cd)).mark (some (.ref e))) (envOf name scope L a cd) n pos (notedBy (model prog w) ((A₀.deeper (envOf name scope L a cd)).mark (some (.ref e))) (envOf name scope L a cd) (cameBackBy (model prog w) (A₀.deeper (envOf name scope L a cd)) (envOf name scope L a cd) E)))
        {s' with heap:=h',toks:=tk}) (hk:scope.kind=.function:=by rfl) (hlo:(envOf name scope L a cd).kindOf n=some .local:=by rfl) (hx:(envOf name scope L a cd).kindOf x=some .globalImplicit:=by rfl) (hd:(x == ("__debug__" : Str))=false:=by decide),
    wpAny (model prog w) (A₀.deeper (envOf name scope L a cd)) (noteFrame (.ref e) (envOf name scope L a cd))
      (fun _ s₂=>wpAny (model prog w) (A₀.deeper (envOf name scope L a cd)) (setFlight (.ref e) none) (fun _ s₃ =>
        wpAny (model prog w) (A₀.deeper (envOf name scope L a cd)) (handleBy (.ref e) (envOf name scope L a cd) (.ExceptHandler (some (.Name x np)) (some n) (b₀::suite) pos::hs)) Q E s₃) E s₂) E s'
namespace caught_DO_E
noncomputable section
def ep:=U fun prog=>U fun w=>U fun A₀=>U fun E=>U fun s'=>U fun base=>U fun g=>U fun H=>U fun outer=>U fun L=>U fun a=>U fun e=>U fun dx=>U fun od=>U fun m=>U fun name=>U fun scope=>U fun cd=>U fun Q=>U fun adr=>U fun rest=>U fun KF=>U fun p=>U fun loose=>U fun mean=>U fun mg=>U fun mb=>U fun x=>U fun n=>U fun np=>U fun pos=>U fun b₀=>U fun suite=>U fun hs=>fun own=>¬ @caught_DO_S prog w A₀ E s' base g H outer L a e dx od m name scope cd Q adr rest KF p loose mean mg mb x n np pos b₀ suite hs own
def ec:=pick ep (df,sW,callerA,df,{},{},{},{},[],0,0,0,0,df,df,df,df,df,df,[],[],[],df,[],df,df,df,df,df,df,df,df,[],[],[])
@[irreducible] def prog:=ec.1
@[irreducible] def w:=ec.2.1
@[irreducible] def A₀:=ec.2.2.1
@[irreducible] def E:=ec.2.2.2.1
@[irreducible] def s':=ec.2.2.2.2.1
@[irreducible] def base:=ec.2.2.2.2.2.1
@[irreducible] def g:=ec.2.2.2.2.2.2.1
def ec1:=ec.2.2.2.2.2.2.2
@[irreducible] def H:=ec1.1
@[irreducible] def outer:=ec1.2.1
@[irreducible] def L:=ec1.2.2.1
@[irreducible] def a:=ec1.2.2.2.1
@[irreducible] def e:=ec1.2.2.2.2.1
@[irreducible] def dx:=ec1.2.2.2.2.2.1
@[irreducible] def od:=ec1.2.2.2.2.2.2.1
def ec2:=ec1.2.2.2.2.2.2.2
@[irreducible] def m:=ec2.1
@[irreducible] def name:=ec2.2.1
@[irreducible] def scope:=ec2.2.2.1
@[irreducible] def cd:=ec2.2.2.2.1
@[irreducible] def Q:=ec2.2.2.2.2.1
@[irreducible] def adr:=ec2.2.2.2.2.2.1
@[irreducible] def rest:=ec2.2.2.2.2.2.2.1
def ec3:=ec2.2.2.2.2.2.2.2
@[irreducible] def KF:=ec3.1
@[irreducible] def p:=ec3.2.1
@[irreducible] def loose:=ec3.2.2.1
@[irreducible] def mean:=ec3.2.2.2.1
@[irreducible] def mg:=ec3.2.2.2.2.1
@[irreducible] def mb:=ec3.2.2.2.2.2.1
@[irreducible] def x:=ec3.2.2.2.2.2.2.1
def ec4:=ec3.2.2.2.2.2.2.2
@[irreducible] def n:=ec4.1
@[irreducible] def np:=ec4.2.1
@[irreducible] def pos:=ec4.2.2.1
@[irreducible] def b₀:=ec4.2.2.2.1
@[irreducible] def suite:=ec4.2.2.2.2.1
@[irreducible] def hs:=ec4.2.2.2.2.2.1
@[irreducible] def own:=ec4.2.2.2.2.2.2
theorem ek:@caught_DO_S prog w A₀ E s' base g H outer L a e dx od m name scope cd Q adr rest KF p loose mean mg mb x n np pos b₀ suite hs own:=by
  intro R hown F K X XB TB Nr hrest hadr hLa ex q k hk hlo hx hd
  obtain ⟨⟨B,hB,hBH,hdx,hob',fly⟩,hfr,hnx⟩:=R
  have hL:B.get? L=none:=by
    obtain ⟨_,⟨L',_,hf,hn',_⟩,_⟩:=fly.2.2.1
    obtain rfl:L=L':=Option.some.inj hf
    exact hn'
  have kH:∀ b o,(hideAll H adr).get? b=some o→H.get? b=some o∧b∉adr:=fun b o z=>by
    refine ⟨of_hideAll _ z,fun hm=>?_⟩
    rw [hideAll_none _ hm] at z;cases z
  have FG:Fr g L (hideAll H adr) m:=by
    obtain ⟨oL,es,ep,hoL,hdL,hLk,hLf⟩:=F.ns
    exact ⟨⟨oL,es,ep,hideAll_get _ hoL hLa,hdL,hLk,hLf⟩,fun b o z=>hideAll_get _ (F.keep b o z) (fun hm=>by rw [hadr b hm] at z;cases z),F.above⟩
  have hBG:∀ b o,(hideAll H adr).get? b=some o→b∉(envOf name scope L a cd::outer).filterMap (·.frame)→B.get? b=some o:=fun b o z hn=>hBH b o (kH b o z).1 hn (kH b o z).2
  have hsm:(hideAll H adr).UpToSlots s'.heap:=fun b o z hnf=>by
    by_cases hm:b∈(envOf name scope L a cd::outer).filterMap (·.frame)
    · exact hfr b o (kH b o z).1 hm
    · exact ⟨o.slots,fly.1 b o (hBG b o z hm)⟩
  refine noteD_next (Around.frames_deeper K.stack) rfl fly fun h₄ fly₄ hsm₄=>?_
  refine landD fly₄ fun h₅ fly₅ hsm₅'=>?_
  have hsm₅:=hsm₄.trans hsm₅'
  obtain ⟨g₅,T₅,F₅,K₅⟩:=kts_ground K FG hBG fly₅.1 (hsm.trans hsm₅)
  have X₅:KF.In g₅:=XB.keeps K₅.stays
  have P₅:TopRead p loose mg mb g₅:=topRead_of (TB.keeps K₅.stays)
  obtain ⟨ob,_,hob,hobc,_⟩:=fly₅.there
  obtain ⟨nm,q',N,bs,bm,hdct,sn,sub,ab,col,dd,k0,k1,k2,k3,k5,newId,hC,hbase,hbT⟩:=kts_cls X₅ q
  have hC₅:=F₅.keep _ _ hC
  refine wpAny_handleBy_cons (codeAny_handlers_test (name_K F₅ X₅ P₅ ex ?_ hk hx hd)) (by intro q;cases q)
  refine wpAny_excMatches_sub_self hC₅ hob hobc hbase (codeAny_handlers_suite_as ?_)
  refine landD fly₅ fun h₆ fly₆ hsm₆=>?_
  obtain ⟨g₆,T₆,F₆,K₆⟩:=kts_ground K FG hBG fly₆.1 ((hsm.trans hsm₅).trans hsm₆)
  obtain ⟨oe,ws,hoe,hoec,hoed,hoe0⟩:=fly₆.there
  have dead:∀ b o,g.get? b=some o→B.get? b=none→(∃ o',h₆.get? b=some o'∧∃ vs,o'.data=.fields vs)→False:=fun b o hb hn ho'=>by
    by_cases hm:b∈outer.filterMap (·.frame)
    · obtain ⟨_,o',ho2,hd2⟩:=K.frames.mem hm
      rw [hb] at ho2
      cases ho2
      obtain ⟨sl,hs2⟩:=((hsm.trans hsm₅).trans hsm₆) _ _ (FG.keep _ _ hb) hd2
      obtain ⟨o3,h3,vs3,d3⟩:=ho'
      rw [h3] at hs2
      cases hs2
      exact hd2 _ d3
    · have:=hBG b o (FG.keep b o hb) (fun hm'=>by
        rcases kts_mem hm' with z|z
        · rw [z,kts_self F] at hb;cases hb
        · exact hm z)
      rw [hn] at this;cases this
  have ne₆:g₆.get? e=none:=T₆.none_ _ (by
    cases z:g.get? e with
    | none=>rfl
    | some o=>exact (dead e o z fly₆.2.1 ⟨oe,hoe,ws,hoe0⟩).elim)
  have nd₆:g₆.get? dx=none:=T₆.none_ _ (by
    cases z:g.get? dx with
    | none=>rfl
    | some o =>
      have:=hadr dx (hnx o (F.keep _ _ z))
      rw [z] at this;cases this)
  have N₆:News g₆ L h₆ ((e,oe)::(dx,od)::(own++rest)):=by
    intro r hr
    rcases List.mem_cons.mp hr with rfl|hr
    · refine ⟨hoe,fun z=>?_,ne₆⟩
      obtain ⟨_,⟨L',oL,hf,_,hoL,hdL⟩,_⟩:=fly₆.2.2.1
      obtain rfl:L=L':=Option.some.inj hf
      have z':e=L:=z
      rw [z'] at hoe
      rw [hoe] at hoL
      cases hoL
      exact hdL _ hoe0
    rcases List.mem_cons.mp hr with rfl|hr
    · refine ⟨fly₆.1 _ _ hdx,fun z=>?_,nd₆⟩
      have z':dx=L:=z
      rw [z',hL] at hdx
      cases hdx
    rcases List.mem_append.mp hr with hr|hr
    · exact ⟨fly₆.1 _ _ (hob' r hr),fun z=>hLa (z ▸ hown r hr),T₆.none_ _ (hadr _ (hown r hr))⟩
    · have hr':=Nr r hr
      refine ⟨fly₆.1 _ _ (hBG _ _ (hideAll_get _ hr'.1 (hrest r hr)) fun hm=>?_),hr'.2.1,T₆.none_ _ hr'.2.2⟩
      rcases kts_mem hm with z|z
      · exact hr'.2.1 z
      · obtain ⟨_,o,ho,_⟩:=K.frames.mem z
        rw [hr'.2.2] at ho;cases ho
  have X₆:KF.In g₆:=XB.keeps K₆.stays
  have P₆:Top p loose mean mg mb g₆:=TB.keeps K₆.stays
  refine stN F₆ N₆ (fun h₇ F₇ N₇=>?_) hk hlo
  exact k h₇ g₆ oe _ ws T₆ F₇ N₇ hoec hoed hoe0 K₆ X₆ P₆
end
end caught_DO_E
theorem caught_DO {prog:Program} {w:World} {A₀:Around} {E:Value→Shared→Prop} {s':Shared} {base g H:Heap} {outer:List Env} {L a e dx:Addr} {od:Obj} {m:Str→Option Value} {name:Str} {scope:Scope} {cd:Value} {Q:Flow→Shared→Prop} {adr:List Addr} {rest:List (Addr×Obj)} {KF:Frag} {p:Program} {loose:List Str} {mean:ExcName→Option Value} {mg mb:Str→Option Value} {x n:Str} {np pos:Pos} {b₀:Stmt} {suite:List Stmt} {hs:List ExceptHandler} {own:List (Addr×Obj)}:@caught_DO_S prog w A₀ E s' base g H outer L a e dx od m name scope cd Q adr rest KF p loose mean mg mb x n np pos b₀ suite hs own:=@Classical.byContradiction _ fun h=>pick_all (P:=caught_DO_E.ep) (by with_unfolding_all exact fun k=>k @caught_DO_E.ek) (prog,w,A₀,E,s',base,g,H,outer,L,a,e,dx,od,m,name,scope,cd,Q,adr,rest,KF,p,loose,mean,mg,mb,x,n,np,pos,b₀,suite,hs,own) h
end
end
section
set_option Elab.async false
set_option maxRecDepth 100000
set_option maxHeartbeats 4000000
set_option linter.unusedVariables false
set_option pp.deepTerms false
set_option pp.maxSteps 2000
section
section
variable {w:World} {p:Program} {loose:List Str} {mean:ExcName→Option Value} {mg mb:Str→Option Value} {dp un:Nat} {gd:Option (List Code)} {cn:Str} {cs:Scope} {a:Addr} {ccd:Value} {cl:List (Str×Addr)} {outer:List Env} {A₀:Around} {base h₀:Heap} {L:Addr} {m:Str→Option Value} {s:Shared} {Q E:Value→Shared→Prop}
def RvR (lf src ds:Addr) (d:Array UInt8) (td ka kb:Tok) (ea eb:Int) (ks:List Int) (f i:Int) (k:Nat) (ps:List (Str×Value)) (nx:List (Addr×Obj)):Prop :=
  RvJ lf src ds d td ka kb ea eb ks f i k ps nx∧i+2*(bl f k:Int)≤ks.length
def RwR (lf:Addr) (vs:List Value) (nn:Nat) (src ds:Addr) (d:Array UInt8) (td ka kb:Tok) (ea eb:Int) (ks:List Int) (f i:Int) (k:Nat) (ps:List (Str×Value)) (nx:List (Addr×Obj)):Prop :=
  RwJ lf vs nn src ds d td ka kb ea eb f i k ps nx∧i+2*(bl f (4+k):Int)≤ks.length
theorem rvR0 {lf src ds:Addr} {d:Array UInt8} {td ka kb ti:Tok} {ea eb:Int} {ks:List Int} {f i:Int} (h:i≤ks.length):RvR lf src ds d td ka kb ea eb ks f i 0 [] [(lf,W.listOf #[] 0),(src,instObj 280 ds),(ds,dictOf [⟨ea,.str (Str.ofString "data") ka,.bytes d td⟩,⟨eb,.str (Str.ofString "at") kb,.int i ti⟩] 2)] :=
  ⟨rvJ0,by rw [show i+2*((bl f 0:Nat):Int)=i from Int.add_zero i];exact h⟩
theorem rwR0 {lf src ds:Addr} {vs:List Value} {nn:Nat} {d:Array UInt8} {td ka kb t:Tok} {ea eb:Int} {ks:List Int} {f i:Int} (h:i+2*(bl f 4:Int)≤ks.length):RwR lf vs nn src ds d td ka kb ea eb ks f i 0 [] [(lf,W.listOf vs.toArray nn),(src,instObj 280 ds),(ds,dictOf [⟨ea,.str (Str.ofString "data") ka,.bytes d td⟩,⟨eb,.str (Str.ofString "at") kb,.int (i+2*(bl f 4:Int)) t⟩] 2)] :=
  ⟨rwJ0,h⟩
theorem fresh_34 {g h:Heap} {L a b:Addr} {x y:Obj} {p q:Addr×Obj} {r:List (Addr×Obj)} (N:News g L h (p::q::(a,x)::(b,y)::r)):∀ z∈[a,b],g.get? z=none :=
  fresh_two (L:=L) (h:=h) (x:=x) (y:=y) (news:=r) fun t ht=>N t (.tail _ (.tail _ ht))
def cutAt (n:Nat) (i:Int):Int:=i+2*(((n:Int) - i) / 2)
theorem cutAt_eq {n:Nat} {i b:Int} (h1:i+2*b≤n) (h2:(n:Int)<i+2*b+2):cutAt n i=i+2*b:=by
  unfold cutAt;omega
theorem rr_pos {n:Nat} {f i:Int} {k:Nat} (hb:bit f k=true) (h:i+2*(bl f k:Int)+2≤n):i+2*(bl f (k+1):Int)≤n:=by
  rw [bl_succ,if_pos hb];omega
theorem rr_neg {n:Nat} {f i:Int} {k:Nat} (hb:¬ bit f k=true) (h:i+2*(bl f k:Int)≤n):i+2*(bl f (k+1):Int)≤n:=by
  rw [bl_succ,if_neg hb];omega
end
set_option maxHeartbeats 4000000
abbrev read_value_any_S {w:World} {p:Program} {loose:List Str} {mean:ExcName→Option Value} {mg mb:Str→Option Value} {dp un:Nat} {gd:Option (List Code)} {cn:Str} {cs:Scope} {a:Addr} {ccd:Value} {cl:List (Str×Addr)} {outer:List Env} {A₀:Around} {base h₀:Heap} {L:Addr} {m:Str→Option Value} {s:Shared} {Q E:Value→Shared→Prop} {src ds:Addr} {d:Array UInt8} {ks:List Int} {i:Int} {td ti ka kb:Tok} {ea eb f:Int} {tf:Tok}:Prop:=∀ (B:Below A₀ base outer h₀) (F:Fr h₀ L s.heap m) (X:(hd.heap_39 w.params).In h₀) (N:News h₀ L s.heap [(src,instObj 280 ds),(ds,dictOf [⟨ea,.str (Str.ofString "data") ka,.bytes d td⟩,⟨eb,.str (Str.ofString "at") kb,.int i ti⟩] 2)]) (T:Top p loose mean mg mb h₀) (hk:cs.kind=.function) (hd:dp+8<recursionLimit) (hu:un+64<cLine) (hne:@Ne Nat src ds) (hb:KBw.bInts d=ks) (hz:ks.length≤1000) (h0:0≤i) (h00:i≤ks.length) (hf:0≤f) (hret:i+2*(ones f:Int)≤ks.length→∀ v dv od (t':Tok) h' tk',ValIs w (fld ks f i 0) (fld ks f i 1) (fld ks f i 2) (fld ks f i 3) od→Fr h₀ L h' m→News h₀ L h' [(v,instObj 94 dv),(dv,od),(src,instObj 280 ds),(ds,dictOf [⟨ea,.str (Str.ofString "data") ka,.bytes d td⟩,⟨eb,.str (Str.ofString "at") kb,.int (i+2*(ones f:Int)) t'⟩] 2)]→KeepBut [src,ds] s.heap h'→Fresh s.heap v→Fresh s.heap dv→@Ne Nat v dv→Q (.ref v) {s with heap:=h',toks:=tk'}) (hraise:(ks.length:Int)<i+2*(ones f:Int)→∀ e dx od h' tk',Thrown s.heap [src,ds] base (envX cn cs L a ccd cl::outer) e dx od [] h'→FaultAt od (cutAt ks.length i)→E (.ref e) {s with heap:=h',toks:=tk'}),
    wpAny (model PySem.Challenge.rw_nu0167_01.row.prog w) (ktrTop dp un gd cn cs L a ccd cl outer) (call (.ref 117) [.ref src,.int f tf]) Q E s
namespace read_value_any_E
noncomputable section
def ep:=U fun w=>U fun p=>U fun loose=>U fun mean=>U fun mg=>U fun mb=>U fun dp=>U fun un=>U fun gd=>U fun cn=>U fun cs=>U fun a=>U fun ccd=>U fun cl=>U fun outer=>U fun A₀=>U fun base=>U fun h₀=>U fun L=>U fun m=>U fun s=>U fun Q=>U fun E=>U fun src=>U fun ds=>U fun d=>U fun ks=>U fun i=>U fun td=>U fun ti=>U fun ka=>U fun kb=>U fun ea=>U fun eb=>U fun f=>fun tf=>¬ @read_value_any_S w p loose mean mg mb dp un gd cn cs a ccd cl outer A₀ base h₀ L m s Q E src ds d ks i td ti ka kb ea eb f tf
def ec:=pick ep (sW,df,[],df,df,df,0,0,none,df,df,0,df,[],[],callerA,{},{},0,df,{},df,df,0,0,#[],[],0,0,0,0,0,0,0,0,0)
@[irreducible] def w:=ec.1
@[irreducible] def p:=ec.2.1
@[irreducible] def loose:=ec.2.2.1
@[irreducible] def mean:=ec.2.2.2.1
@[irreducible] def mg:=ec.2.2.2.2.1
@[irreducible] def mb:=ec.2.2.2.2.2.1
@[irreducible] def dp:=ec.2.2.2.2.2.2.1
def ec1:=ec.2.2.2.2.2.2.2
@[irreducible] def un:=ec1.1
@[irreducible] def gd:=ec1.2.1
@[irreducible] def cn:=ec1.2.2.1
@[irreducible] def cs:=ec1.2.2.2.1
@[irreducible] def a:=ec1.2.2.2.2.1
@[irreducible] def ccd:=ec1.2.2.2.2.2.1
@[irreducible] def cl:=ec1.2.2.2.2.2.2.1
def ec2:=ec1.2.2.2.2.2.2.2
@[irreducible] def outer:=ec2.1
@[irreducible] def A₀:=ec2.2.1
@[irreducible] def base:=ec2.2.2.1
@[irreducible] def h₀:=ec2.2.2.2.1
@[irreducible] def L:=ec2.2.2.2.2.1
@[irreducible] def m:=ec2.2.2.2.2.2.1
@[irreducible] def s:=ec2.2.2.2.2.2.2.1
def ec3:=ec2.2.2.2.2.2.2.2
@[irreducible] def Q:=ec3.1
@[irreducible] def E:=ec3.2.1
@[irreducible] def src:=ec3.2.2.1
@[irreducible] def ds:=ec3.2.2.2.1
@[irreducible] def d:=ec3.2.2.2.2.1
@[irreducible] def ks:=ec3.2.2.2.2.2.1
@[irreducible] def i:=ec3.2.2.2.2.2.2.1
def ec4:=ec3.2.2.2.2.2.2.2
@[irreducible] def td:=ec4.1
@[irreducible] def ti:=ec4.2.1
@[irreducible] def ka:=ec4.2.2.1
@[irreducible] def kb:=ec4.2.2.2.1
@[irreducible] def ea:=ec4.2.2.2.2.1
@[irreducible] def eb:=ec4.2.2.2.2.2.1
@[irreducible] def f:=ec4.2.2.2.2.2.2.1
@[irreducible] def tf:=ec4.2.2.2.2.2.2.2
def st:Σ' R:Heap→Addr→Heap→Prop,((∀ gZ LZ hZ,R gZ LZ hZ)→@read_value_any_S w p loose mean mg mb dp un gd cn cs a ccd cl outer A₀ base h₀ L m s Q E src ds d ks i td ti ka kb ea eb f tf):=⟨_,fun kk=>by
  intro B F X N T hk hd hu hne hb hz h0 h00 hf hret hraise
  refine wpAny_call ?_
  k_dflt cell_enter
  rename_i gZ LZ hZ _ _ _ _ _ _ _
  revert qk ek
  (repeat (rename_i zz;revert zz))
  revert B F X N T hk hd hu hne hb hz h0 h00 hf hret hraise
  exact kk gZ LZ hZ⟩
def eq:=U fun gZ=>U fun LZ=>fun hZ=>¬ st.1 gZ LZ hZ
def er:=pick eq ({},0,{})
@[irreducible] def gZ:=er.1
@[irreducible] def LZ:=er.2.1
@[irreducible] def hZ:=er.2.2
theorem el:st.1 gZ LZ hZ:=by
  intro B F X N T hk hd hu hne hb hz h0 h00 hf hret hraise _ _ _ _ _ _ _ qk ek
  (try (repeat' (first|(k_unfold;(try dsimp only))|(k_end;wrow_close)|((with_reducible show wpAny _ _ (pyIter (Value.ref _)) _ _ _);with_reducible (first|((with_reducible show wpAny _ _ (pyIter (Value.ref _)) (fun it s₂=>LoopAtV _ _ _ _ _ _ _ _ _ it s₂) _ _);(rename IsRange _ _ _ _ _ _ _ _=>rgX);(rename Fr _ _ _ _=>lF');(rename News _ _ _ _=>lN');k_dflt ((with_unfolding_all refine' range_led (n:=4) (RwR _ [.int (fld ks f i 0) a1,.int (fld ks f i 1) a2,.int (fld ks f i 2) a3,.int (fld ks f i 3) a4] nn1 src ds d td ka kb ea eb ks f i) ?hhB rgX ?smB ?szB lF' lN' (rwR0 (t:=t2) hq1) (fun _ hp=>hp) ?turnB ?doneB);(case hhB=>exact rfl);(case smB=>first|exact small_one (by omega) (by omega) (by omega) (by omega)|decide);(case szB=>exact rfl);(all_goals (first|(intro k t1 ps1 nx1 I1 o1 h1' tk1 hk1 ne1 hJ1 F1 N1;obtain ⟨⟨t2,rfl,rfl⟩,hq1⟩:=hJ1;simp only [mAt_nil] at F1;dsimp only [envOf] at F1 N1;obtain ⟨ne1,ne2,ne3,_⟩:=ne1;dsimp only at ne1 ne2 ne3;clear lF' lN' rgX;(have hr0:=rv_pos (f:=f) (k:=4+k) h0);by_cases hb1:bit f (4+k)=true;(all_goals (first|((have hc1:=(rw_cond (k:=k) hf).mpr hb1);by_cases hr1:i+2*(bl f (4+k):Int)+2≤ks.length;(all_goals (try (have hr2:(ks.length:Int)<i+2*(bl f (4+k):Int)+2:=by omega))))|(have hc1:¬ _:=fun hc=>hb1 ((rw_cond (k:=k) hf).mp hc)))))|(intro u1 ps1 nx1 h1' tk1 hJ1 F1 N1;obtain ⟨⟨t2,rfl,rfl⟩,hq1⟩:=hJ1;simp only [mAt_nil] at F1;dsimp only [envOf] at F1 N1;clear lF' lN' rgX;(rw [show bl f (4+4)=ones f from rfl] at hq1 N1);(try dsimp only))))))|((with_reducible show wpAny _ _ (pyIter (Value.ref _)) (fun it s₂=>LoopAtV _ _ _ _ _ _ _ _ _ it s₂) _ _);(rename IsRange _ _ _ _ _ _ _ _=>rgX);(rename Fr _ _ _ _=>lF');(rename News _ _ _ _=>lN');k_dflt ((with_unfolding_all refine' range_led (n:=4) (RvR _ src ds d td ka kb ea eb ks f i) ?hh rgX ?sm ?sz lF' lN' (rvR0 (ti:=ti) h00) (fun _ hp=>hp) ?turn ?done);(case hh=>exact rfl);(case sm=>first|exact small_one (by omega) (by omega) (by omega) (by omega)|decide);(case sz=>exact rfl);(all_goals (first|(intro k t1 ps1 nx1 I1 o1 h1' tk1 hk1 ne1 hJ1 F1 N1;obtain ⟨⟨vs1,nn1,t2,rfl,hi1,rfl⟩,hq1⟩:=hJ1;simp only [mAt_nil] at F1;dsimp only [envOf] at F1 N1;obtain ⟨ne1,ne2,ne3,_⟩:=ne1;dsimp only at ne1 ne2 ne3;clear lF' lN' rgX;(have hs1:=rv_size hi1 hk1);(have hr0:=rv_pos (f:=f) (k:=k) h0);by_cases hb1:bit f k=true;(all_goals (first|((have hc1:=(rv_cond (k:=k) hf).mpr hb1);by_cases hr1:i+2*(bl f k:Int)+2≤ks.length;(all_goals (try (have hr2:(ks.length:Int)<i+2*(bl f k:Int)+2:=by omega))))|(have hc1:¬ _:=fun hc=>hb1 ((rv_cond (k:=k) hf).mp hc)))))|(intro u1 ps1 nx1 h1' tk1 hJ1 F1 N1;obtain ⟨⟨vs1,nn1,t2,rfl,hi1,rfl⟩,hq1⟩:=hJ1;simp only [mAt_nil] at F1;dsimp only [envOf] at F1 N1;clear lF' lN' rgX;(rw [flds4] at hi1);obtain ⟨a1,a2,a3,a4,rfl⟩:=ints_four hi1;(try dsimp only))))))))|((with_reducible show wpAny _ _ (call (Value.ref _) _) _ _ _);with_reducible (first|(k_here;(try dsimp only [List.nil_append,List.cons_append]);(with_reducible show wpAny _ _ (call (Value.ref 244) _) _ _ _);k_dflt (refine' in_i16_raise (by k_asm) (by k_asm) (by k_asm) (by ((refine news_sub (by assumption) ?_);k_allIn)) (by k_asm) (by exact rfl) (by ktr_room) (by ktr_units) (by k_ne) (by assumption) (by assumption) (by omega) (by omega) ?_);intro e9 dx9 od9 h9 tk9 th9 fa9;(try dsimp only))|(k_here;(try dsimp only [List.nil_append,List.cons_append]);(with_reducible show wpAny _ _ (call (Value.ref 237) _) _ _ _);k_dflt (refine' in_u16_raise (by k_asm) (by k_asm) (by k_asm) (by ((refine news_sub (by assumption) ?_);k_allIn)) (by k_asm) (by exact rfl) (by ktr_room) (by ktr_units) (by k_ne) (by assumption) (by assumption) (by omega) (by omega) ?_);intro e9 dx9 od9 h9 tk9 th9 fa9;(try dsimp only))|(k_here;(try dsimp only [List.nil_append,List.cons_append]);(with_reducible show wpAny _ _ (call (Value.ref 244) _) _ _ _);k_dflt (refine' in_i16_ok (by k_asm) (by k_asm) (by k_asm) (by ((refine news_sub (by assumption) ?_);k_allIn)) (by k_asm) (by exact rfl) (by ktr_room) (by ktr_units) (by k_ne) (by assumption) (by assumption) (by omega) (by omega) ?_);intro t9 t9' h9 tk9 F9 N9 K9;(have N8:=rejoin (by assumption) K9 N9 (by k_dflt k_all));clear K9 N9;(simp only [List.cons_append,List.nil_append] at N8);(try k_sweep);(try dsimp only))|(k_here;(try dsimp only [List.nil_append,List.cons_append]);(with_reducible show wpAny _ _ (call (Value.ref 237) _) _ _ _);k_dflt (refine' in_u16_ok (by k_asm) (by k_asm) (by k_asm) (by ((refine news_sub (by assumption) ?_);k_allIn)) (by k_asm) (by exact rfl) (by ktr_room) (by ktr_units) (by k_ne) (by assumption) (by assumption) (by omega) (by omega) ?_);intro t9 t9' h9 tk9 F9 N9 K9;(have N8:=rejoin (by assumption) K9 N9 (by k_dflt k_all));clear K9 N9;(simp only [List.cons_append,List.nil_append] at N8);(try k_sweep);(try dsimp only))))|((with_reducible show wpAny _ _ (call (Value.type "range") _) _ _ _);(with_reducible ((rename Fr _ _ _ _=>F');(rename News _ _ _ _=>N');first|(with_unfolding_all refine range1_rows F' N' ?_;intro _ _ _ _ _ _ _ _ _)|(with_unfolding_all refine range2_rows F' N' ?_;intro _ _ _ _ _ _ _ _ _))))|walk1|(dsimp only;(with_reducible show wpAny _ _ (pyIter (Value.ref _)) _ _ _))|(dsimp only;(with_reducible show wpAny _ _ (call (Value.ref _) _) _ _ _))|(dsimp only;(with_reducible show wpAny _ _ (pyIter (Value.ref _)) _ _ _))|(dsimp only;(with_reducible show wpAny _ _ (call (Value.ref _) _) _ _ _))|(dsimp only;walk1)|(leave1;walk_say "STEP leave1";try dsimp only)|fail "no step")))
  all_goals (first
    | (exfalso;exact hc1 (by assumption))
    | (exfalso;exact absurd hc1 (by assumption))
    | exact turnA (by assumption) (by assumption) ⟨rvJ_pos hb1 hi1,rr_pos hb1 hr1⟩ ne1 ne2 ne3 (fun y hy=>if_neg hy)
    | exact turnB (by assumption) (by assumption) ⟨rvJ_neg hb1 hi1,rr_neg hb1 hq1⟩ ne1 ne2 ne3 (fun y hy=>if_neg hy)
    | exact turnA (by assumption) (by assumption) ⟨rwJ_pos hb1,rr_pos hb1 hr1⟩ ne1 ne2 ne3 (fun y hy=>if_neg hy)
    | exact turnB (by assumption) (by assumption) ⟨rwJ_neg hb1,rr_neg hb1 hq1⟩ ne1 ne2 ne3 (fun y hy=>if_neg hy)
    | (refine' hret hq1 _ _ _ _ _ _ ?V ?F ?N ?K ?W1 ?W2 ?W3;(case F=>assumption);(case N=>exact news_pick5 (by assumption));(case V=>exact ⟨_,_,_,_,_,_,_,_,rfl⟩);(case K=>exact keepBut_of (by assumption) (by assumption));(case W1=>exact fresh_1 (by assumption) (by assumption) (by k_ne) (by k_ne));(case W2=>exact fresh_2 (by assumption) (by assumption) (by k_ne) (by k_ne));(case W3=>k_ne))
    | (have hfa:=cutAt_eq hq1 hr2;have hcut:(ks.length:Int)<i+2*(ones f:Int):=Int.not_le.mp (fun q=>hr1 (rv_room (by omega) hb1 q));refine' pass_thrown (adr2:=[src,ds]) (own2:=[]) (by assumption) (by assumption) (by assumption) (by assumption) ?h1 ?h2 ?h3 ?h4;(case h4=>exact fun h' th=>hraise hcut _ _ _ _ _ th (by rw [hfa];assumption));(case h1=>exact off_fresh (by assumption) (fresh_34 (by assumption)));(case h2=>exact fresh_34 (by assumption));(case h3=>(intro _ h;cases h))))
theorem ek:@read_value_any_S w p loose mean mg mb dp un gd cn cs a ccd cl outer A₀ base h₀ L m s Q E src ds d ks i td ti ka kb ea eb f tf:=st.2 fun gZ LZ hZ=>@Classical.byContradiction _ fun h=>pick_all (P:=eq) (by with_unfolding_all exact fun k=>k @el) (gZ,LZ,hZ) h
end
end read_value_any_E
theorem read_value_any {w:World} {p:Program} {loose:List Str} {mean:ExcName→Option Value} {mg mb:Str→Option Value} {dp un:Nat} {gd:Option (List Code)} {cn:Str} {cs:Scope} {a:Addr} {ccd:Value} {cl:List (Str×Addr)} {outer:List Env} {A₀:Around} {base h₀:Heap} {L:Addr} {m:Str→Option Value} {s:Shared} {Q E:Value→Shared→Prop} {src ds:Addr} {d:Array UInt8} {ks:List Int} {i:Int} {td ti ka kb:Tok} {ea eb f:Int} {tf:Tok}:@read_value_any_S w p loose mean mg mb dp un gd cn cs a ccd cl outer A₀ base h₀ L m s Q E src ds d ks i td ti ka kb ea eb f tf:=@Classical.byContradiction _ fun h=>pick_all (P:=read_value_any_E.ep) (by with_unfolding_all exact fun k=>k @read_value_any_E.ek) (w,p,loose,mean,mg,mb,dp,un,gd,cn,cs,a,ccd,cl,outer,A₀,base,h₀,L,m,s,Q,E,src,ds,d,ks,i,td,ti,ka,kb,ea,eb,f,tf) h
section
variable {w:World} {p:Program} {loose:List Str} {mean:ExcName→Option Value} {mg mb:Str→Option Value} {dp un:Nat} {gd:Option (List Code)} {cn:Str} {cs:Scope} {a:Addr} {ccd:Value} {cl:List (Str×Addr)} {outer:List Env} {A₀:Around} {base h₀:Heap} {L:Addr} {m:Str→Option Value} {s:Shared} {Q E:Value→Shared→Prop}
theorem read_value_ok (B:Below A₀ base outer h₀) (F:Fr h₀ L s.heap m) (X:(hd.heap_39 w.params).In h₀) {src ds:Addr} {d:Array UInt8} {ks:List Int} {i:Int} {td ti ka kb:Tok} {ea eb:Int}
    (N:News h₀ L s.heap [(src,instObj 280 ds),(ds,dictOf [⟨ea,.str (Str.ofString "data") ka,.bytes d td⟩,⟨eb,.str (Str.ofString "at") kb,.int i ti⟩] 2)]) (T:Top p loose mean mg mb h₀) (hk:cs.kind=.function) (hd:dp+8<recursionLimit) (hu:un+64<cLine)
    (hne:@Ne Nat src ds) (hb:KBw.bInts d=ks) (hz:ks.length≤1000) (h0:0≤i) {f:Int} {tf:Tok} (hf:0≤f) (h1:i+2*(ones f:Int)≤ks.length)
    (hret:∀ v dv od (t':Tok) h' tk',ValIs w (fld ks f i 0) (fld ks f i 1) (fld ks f i 2) (fld ks f i 3) od→Fr h₀ L h' m→News h₀ L h' [(v,instObj 94 dv),(dv,od),(src,instObj 280 ds),(ds,dictOf [⟨ea,.str (Str.ofString "data") ka,.bytes d td⟩,⟨eb,.str (Str.ofString "at") kb,.int (i+2*(ones f:Int)) t'⟩] 2)]→KeepBut [src,ds] s.heap h'→Fresh s.heap v→Fresh s.heap dv→@Ne Nat v dv→Q (.ref v) {s with heap:=h',toks:=tk'}) :
    wpAny (model PySem.Challenge.rw_nu0167_01.row.prog w) (ktrTop dp un gd cn cs L a ccd cl outer) (call (.ref 117) [.ref src,.int f tf]) Q E s :=
  read_value_any B F X N T hk hd hu hne hb hz h0 (by omega) hf (fun _=>hret) fun q=>absurd q (by omega)
theorem read_value_raise (B:Below A₀ base outer h₀) (F:Fr h₀ L s.heap m) (X:(hd.heap_39 w.params).In h₀) {src ds:Addr} {d:Array UInt8} {ks:List Int} {i:Int} {td ti ka kb:Tok} {ea eb:Int}
    (N:News h₀ L s.heap [(src,instObj 280 ds),(ds,dictOf [⟨ea,.str (Str.ofString "data") ka,.bytes d td⟩,⟨eb,.str (Str.ofString "at") kb,.int i ti⟩] 2)]) (T:Top p loose mean mg mb h₀) (hk:cs.kind=.function) (hd:dp+8<recursionLimit) (hu:un+64<cLine)
    (hne:@Ne Nat src ds) (hb:KBw.bInts d=ks) (hz:ks.length≤1000) (h0:0≤i) (h00:i≤ks.length) {f:Int} {tf:Tok} (hf:0≤f) (h1:(ks.length:Int)<i+2*(ones f:Int))
    (hraise:∀ e dx od h' tk',Thrown s.heap [src,ds] base (envX cn cs L a ccd cl::outer) e dx od [] h'→FaultAt od (cutAt ks.length i)→E (.ref e) {s with heap:=h',toks:=tk'}) :
    wpAny (model PySem.Challenge.rw_nu0167_01.row.prog w) (ktrTop dp un gd cn cs L a ccd cl outer) (call (.ref 117) [.ref src,.int f tf]) Q E s :=
  read_value_any B F X N T hk hd hu hne hb hz h0 h00 hf (fun q=>absurd q (by omega)) fun _=>hraise
end
end
end
section
set_option Elab.async false
set_option maxRecDepth 100000
set_option maxHeartbeats 4000000
set_option linter.unusedVariables false
set_option pp.deepTerms false
set_option pp.maxSteps 2000
theorem led_two {g h:Heap} {L a b:Addr} {q:Addr×Obj} {ox oy:Obj} {news:List (Addr×Obj)} (N:News g L h (q::(a,ox)::(b,oy)::news)):(∀ z∈[a,b],g.get? z=none)∧L∉[a,b]:=by
  have h1:=N _ (.tail _ (.head _))
  have h2:=N _ (.tail _ (.tail _ (.head _)))
  refine ⟨fun z hz=>?_,fun hm=>?_⟩
  · rcases List.mem_cons.mp hz with rfl|hz
    · exact h1.2.2
    · rcases List.mem_cons.mp hz with rfl|hz
      · exact h2.2.2
      · cases hz
  · rcases List.mem_cons.mp hm with e|hz
    · exact h1.2.1 e.symm
    · rcases List.mem_cons.mp hz with e|hz
      · exact h2.2.1 e.symm
      · cases hz
theorem keepL {H g g' h':Heap} {L L' a:Addr} {cn:Str} {cs:Scope} {ccd:PySem.Value} {cl:List (Str×Addr)} {m:Str→Option PySem.Value} (kG:GSub H g []) (T:KtsTurn ([envX cn cs L a ccd cl].filterMap (·.frame)) g g') (F:Fr g' L' h' m):KeepBut [L] H h':=fun b o e n =>
  F.keep b o (T.other b o (kG b o e (fun h=>nomatch h)) fun hm=>n (by rw [mem_env1 rfl hm];exact .head _))
theorem freshL {H g g' h' hh:Heap} {L L' a x:Addr} {cn:Str} {cs:Scope} {ccd:PySem.Value} {cl:List (Str×Addr)} {o:Obj} {rest:List (Addr×Obj)} {h₀:Heap} (kG:GSub H g []) (T:KtsTurn ([envX cn cs L a ccd cl].filterMap (·.frame)) g g') (N:News g' L' h' ((x,o)::rest)) (N₀:News h₀ L hh ((x,o)::rest)):Fresh H x:=by
  intro b o' z q
  have q':b=x:=q
  subst q'
  have z1:=kG b o' z (fun h=>nomatch h)
  have z2:=T.other b o' z1 fun hm=>(N₀ _ (.head _)).2.1 (mem_env1 rfl hm)
  have z3:=(N _ (.head _)).2.2
  rw [z2] at z3;cases z3
theorem at_c {prog:Program} {A:Around} {w:World} {g:Heap} {L e dx:Addr} {oe od:Obj} {m:Str→Option Value} {i:Int} {vs:Array Value} {s:Shared} {Q E:Value→Shared→Prop} {expr:Bool} (F:Fr g L s.heap m) (X:(hd.heap_39 w.params).In g) (N:News g L s.heap [(e,oe),(dx,od)]) (hc:oe.cls=.ref 61) (hdx:oe.dict=some dx) (hdd:oe.data=.fields vs) (FA:FaultAt od i)
    (hQ:∀ t,Q (.int i t) {s with toks:=s.toks+1}):wpAny (model prog w) A (getAttr (.ref e) (Str.ofString "at") expr) Q E s:=by
  obtain ⟨ti,f,O,hf⟩:=FA
  have X':=X.keeps F.keep
  have he:=(N _ (.head _)).1
  have hdx':=(N _ (.tail _ (.head _))).1
  k_dflt (refine' exc_get (C:=61) X' (X' _ _ ?k0) ?k1 ?k2 ?k3 ?k4 ?k5 he hc ?k6 hdx (O.ns1 hdx').ns hf ?k7 ?k8;(case k0=>k_is);(case k1=>k_is);(case k2=>k_is);(case k3=>k_is);(case k4=>k_is);(case k5=>exact rfl);(case k6=>exact fun c q=>by rw [hdd] at q;cases q);(case k7=>exact rfl);(case k8=>exact hQ _))
section
variable {w:World} {p:Program} {loose:List Str} {mean:ExcName→Option Value} {mg mb:Str→Option Value} {dp un:Nat} {gd:Option (List Code)} {cn:Str} {cs:Scope} {a:Addr} {ccd:Value} {cl:List (Str×Addr)} {outer:List Env} {A₀:Around} {base h₀:Heap} {L:Addr} {m:Str→Option Value} {s:Shared} {Q E:Value→Shared→Prop}
end
end
section
set_option Elab.async false
set_option maxRecDepth 100000
set_option maxHeartbeats 4000000
set_option linter.unusedVariables false
set_option pp.deepTerms false
set_option pp.maxSteps 2000
local macro_rules | `(tactic| cell_enter)=>`(tactic| (refine' enter_S ?k1 ?k2 ?k3 ?k4 ?k5 ?kA ?kF ?kK ?k6 ?k7 ?k8 ?k9 ?kB ?_ ?c2 ?c3 ?c4 ?c5;(case kA=>exact rfl);(case kF=>exact rfl);(case kK=>assumption);(case k2=>k_asm);(case k1=>k_asm);(case k3=>k_asm);(case k4=>k_asm);(case k5=>k_asm);(case k6=>k_is);(case k7=>k_is);(case k8=>k_room);(case k9=>exact BindsTo.of_eq rfl);(case kB=>exact locs rfl);(case c2=>exact rfl);(case c3=>exact rfl);(case c4=>exact rfl);(case c5=>decide);k_whole;intro g' L' h' FG' F' N' B' X' T' kG' nL';(try dsimp only);(try k_lift B');(try k_fold)))
theorem news_tl {g h:Heap} {L:Addr} {p:Addr×Obj} {big:List (Addr×Obj)} (N:News g L h (p::big)):News g L h big:=fun q hq=>N q (.tail _ hq)
theorem neFresh {g h:Heap} {L v:Addr} {big:List (Addr×Obj)} (N:News g L h big) (W:Fresh h v):NeAll v big:=neAll_of fun p hp hm=>by
  rcases List.mem_cons.mp hm with q|q
  · exact W _ _ (N p hp).1 q
  · cases q
theorem led_two0 {g h:Heap} {L a b:Addr} {ox oy:Obj} {news:List (Addr×Obj)} (N:News g L h ((a,ox)::(b,oy)::news)):(∀ z∈[a,b],g.get? z=none)∧L∉[a,b]:=by
  have h1:=N _ (.head _)
  have h2:=N _ (.tail _ (.head _))
  refine ⟨fun z hz=>?_,fun hm=>?_⟩
  · rcases List.mem_cons.mp hz with rfl|hz
    · exact h1.2.2
    · rcases List.mem_cons.mp hz with rfl|hz
      · exact h2.2.2
      · cases hz
  · rcases List.mem_cons.mp hm with e|hz
    · exact h1.2.1 e.symm
    · rcases List.mem_cons.mp hz with e|hz
      · exact h2.2.1 e.symm
      · cases hz
section
set_option maxHeartbeats 4000000
abbrev read_all_S {w:World} {p:Program} {loose:List Str} {mean:ExcName→Option Value} {mg mb:Str→Option Value} {dp un:Nat} {gd:Option (List Code)} {cn:Str} {cs:Scope} {a:Addr} {ccd:Value} {cl:List (Str×Addr)} {A₀:Around} {base h₀:Heap} {L:Addr} {m:Str→Option Value} {s:Shared} {Q E:Value→Shared→Prop} {d:Array UInt8} {ks:List Int} {i:Int} {td ti:Tok}:Prop:=∀ (B:Below A₀ base [] h₀) (F:Fr h₀ L s.heap m) (X:(hd.heap_39 w.params).In h₀) (XB:(hd.heap_39 w.params).In base) (TB:Top p loose mean mg mb base) (N:News h₀ L s.heap []) (T:Top p loose mean mg mb h₀) (hk:cs.kind=.function) (hd:dp+12<recursionLimit) (hu:un+140<cLine) (hb:KBw.bInts d=ks) (hz:ks.length≤1000) (h0:0≤i) (hf1:ks.length<i+2∨255<num2 ks i→∀ tp (t1 t2:Tok) h' tk',Fr h₀ L h' m→News h₀ L h' [(tp,tupOf #[.str (Str.ofString "fault") t1,.int i t2])]→KeepBut [L] s.heap h'→Q (.ref tp) {s with heap:=h',toks:=tk'}) (hf2:i+2≤ks.length→num2 ks i≤255→(ks.length:Int)<i+2+2*(ones (num2 ks i):Int)→∀ tp (t1 t2:Tok) h' tk',Fr h₀ L h' m→News h₀ L h' [(tp,tupOf #[.str (Str.ofString "fault") t1,.int (cutAt ks.length (i+2)) t2])]→KeepBut [L] s.heap h'→Q (.ref tp) {s with heap:=h',toks:=tk'}) (hok:i+2≤ks.length→num2 ks i≤255→i+2+2*(ones (num2 ks i):Int)≤ks.length→∀ tp tq (t1 t2 q1 q2 q3 q4:Tok) h' tk',Fr h₀ L h' m→News h₀ L h' [(tp,tupOf #[.int (2*(ones (num2 ks i):Int)) t1,.ref tq,.int (i+2+2*(ones (num2 ks i):Int)) t2]),(tq,tupOf #[.int (fld ks (num2 ks i) (i+2) 0) q1,.int (fld ks (num2 ks i) (i+2) 1) q2,.int (fld ks (num2 ks i) (i+2) 2) q3,.int (fld ks (num2 ks i) (i+2) 3) q4])]→KeepBut [L] s.heap h'→Q (.ref tp) {s with heap:=h',toks:=tk'}),
    wpAny (model PySem.Challenge.rw_nu0167_01.row.prog w) (ktrTop dp un gd cn cs L a ccd cl []) (call (.ref 407) [.bytes d td,.int i ti]) Q E s
namespace read_all_E
noncomputable section
def ep:=U fun w=>U fun p=>U fun loose=>U fun mean=>U fun mg=>U fun mb=>U fun dp=>U fun un=>U fun gd=>U fun cn=>U fun cs=>U fun a=>U fun ccd=>U fun cl=>U fun A₀=>U fun base=>U fun h₀=>U fun L=>U fun m=>U fun s=>U fun Q=>U fun E=>U fun d=>U fun ks=>U fun i=>U fun td=>fun ti=>¬ @read_all_S w p loose mean mg mb dp un gd cn cs a ccd cl A₀ base h₀ L m s Q E d ks i td ti
def ec:=pick ep (sW,df,[],df,df,df,0,0,none,df,df,0,df,[],callerA,{},{},0,df,{},df,df,#[],[],0,0,0)
@[irreducible] def w:=ec.1
@[irreducible] def p:=ec.2.1
@[irreducible] def loose:=ec.2.2.1
@[irreducible] def mean:=ec.2.2.2.1
@[irreducible] def mg:=ec.2.2.2.2.1
@[irreducible] def mb:=ec.2.2.2.2.2.1
@[irreducible] def dp:=ec.2.2.2.2.2.2.1
def ec1:=ec.2.2.2.2.2.2.2
@[irreducible] def un:=ec1.1
@[irreducible] def gd:=ec1.2.1
@[irreducible] def cn:=ec1.2.2.1
@[irreducible] def cs:=ec1.2.2.2.1
@[irreducible] def a:=ec1.2.2.2.2.1
@[irreducible] def ccd:=ec1.2.2.2.2.2.1
@[irreducible] def cl:=ec1.2.2.2.2.2.2.1
def ec2:=ec1.2.2.2.2.2.2.2
@[irreducible] def A₀:=ec2.1
@[irreducible] def base:=ec2.2.1
@[irreducible] def h₀:=ec2.2.2.1
@[irreducible] def L:=ec2.2.2.2.1
@[irreducible] def m:=ec2.2.2.2.2.1
@[irreducible] def s:=ec2.2.2.2.2.2.1
@[irreducible] def Q:=ec2.2.2.2.2.2.2.1
def ec3:=ec2.2.2.2.2.2.2.2
@[irreducible] def E:=ec3.1
@[irreducible] def d:=ec3.2.1
@[irreducible] def ks:=ec3.2.2.1
@[irreducible] def i:=ec3.2.2.2.1
@[irreducible] def td:=ec3.2.2.2.2.1
@[irreducible] def ti:=ec3.2.2.2.2.2
def st:Σ' R:Heap→Addr→Heap→Prop,((∀ gZ LZ hZ,R gZ LZ hZ)→@read_all_S w p loose mean mg mb dp un gd cn cs a ccd cl A₀ base h₀ L m s Q E d ks i td ti):=⟨_,fun kk=>by
  intro B F X XB TB N T hk hd hu hb hz h0 hf1 hf2 hok
  have hr:=(num2_range hb i).1
  refine wpAny_call ?_
  k_dflt cell_enter
  rename_i gZ LZ hZ _ _ _ _ _ _ _ _
  revert qk ek
  (repeat (rename_i zz;revert zz))
  revert B F X XB TB N T hk hd hu hb hz h0 hf1 hf2 hok hr
  exact kk gZ LZ hZ⟩
def eq:=U fun gZ=>U fun LZ=>fun hZ=>¬ st.1 gZ LZ hZ
def er:=pick eq ({},0,{})
@[irreducible] def gZ:=er.1
@[irreducible] def LZ:=er.2.1
@[irreducible] def hZ:=er.2.2
theorem el:st.1 gZ LZ hZ:=by
  intro B F X XB TB N T hk hd hu hb hz h0 hf1 hf2 hok hr _ _ _ _ _ _ _ _ qk ek
  (repeat' (first|(k_unfold;(try dsimp only))|(k_end;wrow_close)|((with_reducible show wpAny _ _ (call (Value.ref 105) _) _ _ _);by_cases hc1:i+2≤ks.length∧num2 ks i≤255;(all_goals (first|(obtain ⟨g1,g2⟩:=hc1;with_reducible (k_here;(try dsimp only [List.nil_append,List.cons_append]);(with_reducible show wpAny _ _ (call (Value.ref 105) _) _ _ _);k_dflt (refine' read_form_ok (by k_asm) (by k_asm) (by k_asm) (by ((refine news_sub (by assumption) ?_);k_allIn)) (by k_asm) (by exact rfl) (by ktr_room) (by ktr_units) (by k_ne) (by assumption) (by assumption) (by omega) (by omega) (by assumption) ?_);intro t9 t9' h9 tk9 F9 N9 K9;(have N8:=rejoin (by assumption) K9 N9 (by k_dflt k_all));clear K9 N9;(simp only [List.cons_append,List.nil_append] at N8);(try k_sweep);(try dsimp only)))|(have g1:(ks.length:Int)<i+2∨255<num2 ks i:=(by (have hc9:¬ (i+2≤(ks.length:Int)∧num2 ks i≤255):=hc1;clear hf1 hf2 hok;omega));with_reducible (k_here;(try dsimp only [List.nil_append,List.cons_append]);(with_reducible show wpAny _ _ (call (Value.ref 105) _) _ _ _);k_dflt (refine' read_form_raise (by k_asm) (by k_asm) (by k_asm) (by ((refine news_sub (by assumption) ?_);k_allIn)) (by k_asm) (by exact rfl) (by ktr_room) (by ktr_units) (by k_ne) (by assumption) (by assumption) (by omega) (by first|assumption|omega) ?_);intro e9 dx9 od9 h9 tk9 th9 fa9;(try dsimp only))))))|((with_reducible show wpAny _ _ (call (Value.ref 117) _) _ _ _);by_cases hc2:i+2+2*(ones (num2 ks i):Int)≤ks.length;(all_goals (first|(with_reducible (k_here;(try dsimp only [List.nil_append,List.cons_append]);(with_reducible show wpAny _ _ (call (Value.ref 117) _) _ _ _);k_dflt (refine' read_value_ok (by k_asm) (by k_asm) (by k_asm) (by ((refine news_sub (by assumption) ?_);k_allIn)) (by k_asm) (by exact rfl) (by ktr_room) (by ktr_units) (by k_ne) (by assumption) (by assumption) (by omega) (by assumption) (by first|assumption|omega) ?_);intro v9 dv9 od9 t9' h9 tk9 V9 F9 N9 K9 W91 W92 W93;(have ne91:=neFresh (by assumption) W91);(have ne92:=neFresh (by assumption) W92);(simp only [NeAll] at ne91 ne92);(repeat (obtain ⟨q9,ne91⟩:=ne91));(repeat (obtain ⟨q9,ne92⟩:=ne92));(have N8:=rejoin (by assumption) K9 N9 (by k_dflt k_all));clear K9 N9;(simp only [List.cons_append,List.nil_append] at N8);(try k_sweep);(have V8:=V9);(k_dflt (obtain ⟨u1,u2,u3,u4,u5,u6,u7,u8,hod9⟩:=V9));(subst hod9);(try dsimp only)))|(have g3:(ks.length:Int)<i+2+2*(ones (num2 ks i):Int):=Int.not_le.mp hc2;with_reducible (k_here;(try dsimp only [List.nil_append,List.cons_append]);(with_reducible show wpAny _ _ (call (Value.ref 117) _) _ _ _);k_dflt (refine' read_value_raise (by k_asm) (by k_asm) (by k_asm) (by ((refine news_sub (by assumption) ?_);k_allIn)) (by k_asm) (by exact rfl) (by ktr_room) (by ktr_units) (by k_ne) (by assumption) (by assumption) (by omega) (by omega) (by assumption) (by first|assumption|omega) ?_);intro e9 dx9 od9 h9 tk9 th9 fa9;(try dsimp only))))))|((with_reducible show wpAny _ _ (call (Value.ref _) _) _ _ _);with_reducible (k_here;(try dsimp only [List.nil_append,List.cons_append]);(with_reducible show wpAny _ _ (call (Value.ref 84) _) _ _ _);k_dflt (refine' told_c (by k_asm) (by k_asm) (by k_asm) (by assumption) (by ((refine news_sub (by assumption) ?_);k_allIn)) (by k_asm) (by exact rfl) (by ktr_room) (by ktr_units) ?_);intro tp9 t91 t92 t93 t94 h9 tk9 F9 N9 K9 O9;(have ne93:=neFresh (by assumption) O9);(simp only [NeAll] at ne93);(repeat (obtain ⟨q9,ne93⟩:=ne93));(have N8:=rejoin (by assumption) K9 N9 (by k_dflt k_all));clear K9 N9;(simp only [List.cons_append,List.nil_append] at N8);(try k_sweep);(try dsimp only)))|((with_reducible show wpAny _ _ (noteFrame (Value.ref _) _) _ _ _);with_reducible (k_here;(rename Thrown _ _ _ _ _ _ _ _ _=>thX);k_dflt (refine' caught_D (rest:=[]) thX (by assumption) (by assumption) (by assumption) (by assumption) (by assumption) (by exact News.nil) (by exact fun _ h=>nomatch h) (by first|exact (led_two0 (by assumption)).1|exact (led_two (by assumption)).1) (by first|exact (led_two0 (by assumption)).2|exact (led_two (by assumption)).2) (by k_is) (by exact rfl) ?_;k_whole);intro h' g' oe' tk' vs' T' F' N' oec' oed' oev' K' X' P';(try k_lift K');(try k_sweep)))|((with_reducible show wpAny _ _ (getAttr (Value.ref _) _ _) _ _ _);with_reducible (k_here;k_dflt (refine' at_c (by assumption) (by assumption) (by assumption) (by assumption) (by assumption) (by assumption) (by assumption) ?_);intro ta9;(try dsimp only)))|((with_reducible show wpAny _ _ (call (Value.ref _) _) _ _ _);with_reducible (k_here;(try dsimp only [List.nil_append,List.cons_append]);(with_reducible show wpAny _ _ (call (Value.ref 110) _) _ _ _);k_dflt (refine' size_of_c (by k_asm) (by k_asm) (by k_asm) (by exact News.nil) (by k_asm) (by exact rfl) (by ktr_room) (by ktr_units) (by assumption) ?_);intro t9 h9 tk9 F9 K9;(have N8:=newsKeep (by assumption) K9);clear K9;(try k_sweep);(try dsimp only)))|walk1|(dsimp only;(with_reducible show wpAny _ _ (call (Value.ref _) _) _ _ _))|(dsimp only;walk1)|(leave1;walk_say "STEP leave1";try dsimp only)|fail "no step"))
  all_goals (first
    | exact hf1 g1 _ _ _ _ _ (by assumption) (news_sub (by assumption) (by k_allIn)) (keepL (by assumption) (by assumption) (by assumption))
    | exact hf2 g1 g2 g3 _ _ _ _ _ (by assumption) (news_sub (by assumption) (by k_allIn)) (keepL (by assumption) (by assumption) (by assumption))
    | exact hok g1 g2 hc2 _ _ _ _ _ _ _ _ _ _ (by assumption) (news_sub (by assumption) (by k_allIn)) (keepL (cn:=cn) (cs:=cs) (a:=a) (ccd:=ccd) (cl:=cl) (by assumption) KtsTurn.refl (by assumption)))
theorem ek:@read_all_S w p loose mean mg mb dp un gd cn cs a ccd cl A₀ base h₀ L m s Q E d ks i td ti:=st.2 fun gZ LZ hZ=>@Classical.byContradiction _ fun h=>pick_all (P:=eq) (by with_unfolding_all exact fun k=>k @el) (gZ,LZ,hZ) h
end
end read_all_E
theorem read_all {w:World} {p:Program} {loose:List Str} {mean:ExcName→Option Value} {mg mb:Str→Option Value} {dp un:Nat} {gd:Option (List Code)} {cn:Str} {cs:Scope} {a:Addr} {ccd:Value} {cl:List (Str×Addr)} {A₀:Around} {base h₀:Heap} {L:Addr} {m:Str→Option Value} {s:Shared} {Q E:Value→Shared→Prop} {d:Array UInt8} {ks:List Int} {i:Int} {td ti:Tok}:@read_all_S w p loose mean mg mb dp un gd cn cs a ccd cl A₀ base h₀ L m s Q E d ks i td ti:=@Classical.byContradiction _ fun h=>pick_all (P:=read_all_E.ep) (by with_unfolding_all exact fun k=>k @read_all_E.ek) (w,p,loose,mean,mg,mb,dp,un,gd,cn,cs,a,ccd,cl,A₀,base,h₀,L,m,s,Q,E,d,ks,i,td,ti) h
end
end
section
set_option Elab.async false
set_option maxRecDepth 100000
set_option maxHeartbeats 4000000
set_option linter.unusedVariables false
set_option pp.deepTerms false
set_option pp.maxSteps 2000
def fv (x1 x2 x3 x4:Int):Nat→Int
  | 0=>x1
  | 1=>x2
  | 2=>x3
  | _=>x4
def wrt (g:Nat→Int) (f:Int):Nat→List Int
  | 0=>[]
  | k+1=>wrt g f k++if bit f k=true then oc2 (g k) else []
theorem wrt_len (g:Nat→Int) (f:Int):∀ k,(wrt g f k).length=2*bl f k
  | 0=>rfl
  | k+1=>by
    show (wrt g f k++_).length=_
    rw [List.length_append,wrt_len g f k,bl_succ]
    by_cases h:bit f k=true
    · rw [if_pos h,if_pos h]
      show 2*bl f k+2=2*(bl f k+1)
      omega
    · rw [if_neg h,if_neg h]
      rfl
theorem bl_le (f:Int) (k:Nat):bl f k≤k:=by
  unfold bl
  exact Nat.le_trans (List.length_filter_le _ _) (by rw [List.length_range];exact Nat.le_refl _)
abbrev outD (w:World) (k:Tok) (b:Addr):Obj:=dictOf [⟨PyData.keyHash w.params (Str.ofString "made"),.str (Str.ofString "made") k,.ref b⟩] 1
def WrJ (w:World) (tp x dx b v dv:Addr) (otp od:Obj) (km:Tok) (g:Nat→Int) (f:Int) (i:Nat) (ps:List (Str×Option PySem.Value)) (nx:List (Addr×Obj)):Prop :=
  ∃ o1 o2 arr,ps=[(Str.ofString "place",o1),(Str.ofString "field",o2)]∧KBw.bInts arr=wrt g f i∧nx=[(tp,otp),(x,instObj 376 dx),(dx,outD w km b),(b,baObj arr),(v,instObj 94 dv),(dv,od)]
theorem wrJ_arr {g:Nat→Int} {f:Int} {i:Nat} {arr:Array UInt8} (h:KBw.bInts arr=wrt g f i) (hi:i<4):arr.size≤1000:=by
  have h1:=KBw.ints_length arr
  rw [h,wrt_len] at h1
  have:=bl_le f i
  omega
theorem wr_cond {f:Int} {k:Nat} (hf:0≤f):Builtin.bitAnd (f.fdiv (2 ^ ((k:Int)).toNat)) 1=1↔bit f k=true:=by
  rw [Int.toNat_natCast,and_bit hf]
theorem vs_at {x1 x2 x3 x4:Int} {t1 t2 t3 t4:Tok} {i:Nat} {v:PySem.Value} (h:([.int x1 t1,.int x2 t2,.int x3 t3,.int x4 t4]:List PySem.Value)[i]? = some v):i<4∧∃ t,v=.int (fv x1 x2 x3 x4 i) t:=by
  match i,h with
  | 0,h=>exact ⟨by omega,t1,by simpa [fv] using h.symm⟩
  | 1,h=>exact ⟨by omega,t2,by simpa [fv] using h.symm⟩
  | 2,h=>exact ⟨by omega,t3,by simpa [fv] using h.symm⟩
  | 3,h=>exact ⟨by omega,t4,by simpa [fv] using h.symm⟩
  | n+4,h=>simp at h
theorem fv_in {x1 x2 x3 x4:Int} (h1:-32768≤x1∧x1≤32767) (h2:-32768≤x2∧x2≤32767) (h3:-32768≤x3∧x3≤32767) (h4:-32768≤x4∧x4≤32767) (i:Nat):-32768≤fv x1 x2 x3 x4 i∧fv x1 x2 x3 x4 i≤32767:=by
  match i with
  | 0=>exact h1
  | 1=>exact h2
  | 2=>exact h3
  | n+3=>exact h4
theorem oAt_two (a b:Str) (v u:Option PySem.Value) (m:Str→Option PySem.Value):oAt [(a,v),(b,u)] m=fun y=>if y=a then v else if y=b then u else m y:=by
  funext y
  rw [oAt_cons,oAt_cons,oAt_nil]
theorem upd_two {a b:Str} (hab:a≠b) (p g o1 o2:Option PySem.Value) (m:Str→Option PySem.Value) (y:Str):(if y=b then g else if y=a then p else if y=a then o1 else if y=b then o2 else m y)=oAt [(a,p),(b,g)] m y:=by
  rw [oAt_two]
  dsimp only
  by_cases h1:y=b
  · rw [if_pos h1,if_neg (fun e=>hab (e.symm.trans h1)),if_pos h1]
  · by_cases h2:y=a
    · rw [if_neg h1,if_pos h2,if_pos h2]
    · rw [if_neg h1,if_neg h2,if_neg h2,if_neg h1,if_neg h2,if_neg h1]
theorem GTurn.next2 {h₀:Heap} {L e I:Addr} {oe oI:Obj} {m₀ m':Str→Option PySem.Value} {J:OedJ} {s₁:Shared} {Q:Flow→Shared→Prop} {h':Heap} {tk':Nat} {big nx':List (Addr×Obj)} {ps':List (Str×Option PySem.Value)} (F:Fr h₀ L h' m') (N:News h₀ L h' big) (he:(e,oe)∈big) (hI:(I,oI)∈big) (hJ:J ps' nx') (hn:∀ p∈nx',p∈big) (ha:NeAll e nx') (hb:NeAll I nx') (hm:∀ y,m' y=oAt ps' m₀ y) :
    GTurn h₀ L m₀ [(e,oe),(I,oI)] [e,I] J s₁ Q .next {s₁ with heap:=h',toks:=tk'} :=
  ⟨h',tk',m',big,nx',ps',rfl,F,N,fun p hp=>by
    rcases List.mem_cons.mp hp with rfl|hp
    · exact he
    · rw [List.mem_singleton.mp hp];exact hI,hn,fun p hp hq=>by
    rcases List.mem_cons.mp hq with q|hq
    · exact neAll_to ha p hp (List.mem_singleton.mpr q)
    · exact neAll_to hb p hp hq,hm,hJ⟩
theorem wrt_pos {g:Nat→Int} {f:Int} {i:Nat} (hb:bit f i=true):wrt g f (i+1)=wrt g f i++oc2 (g i):=by
  show _++_=_
  rw [if_pos hb]
theorem wrt_neg {g:Nat→Int} {f:Int} {i:Nat} (hb:¬ bit f i=true):wrt g f (i+1)=wrt g f i:=by
  show _++_=_
  rw [if_neg hb,List.append_nil]
def WrK (w:World) (tp x dx b v dv:Addr) (otp od:Obj) (km:Tok) (g:Nat→Int) (f:Int) (i:Nat) (ps:List (Str×Option PySem.Value)) (nx:List (Addr×Obj)):Prop :=
  WrJ w tp x dx b v dv otp od km g f i ps nx∧∀ j,j<i→bit f j=true∨g j=0
theorem sofar_succ {f:Int} {g:Nat→Int} {i:Nat} (h:∀ j,j<i→bit f j=true∨g j=0) (hi:bit f i=true∨g i=0):∀ j,j<i+1→bit f j=true∨g j=0:=fun j hj=>by
  rcases Nat.lt_succ_iff_lt_or_eq.mp hj with q|rfl
  · exact h j q
  · exact hi
theorem bInts_app {a d:Array UInt8} {ks ls:List Int} (h:KBw.bInts a=ks) (h':KBw.bInts d=ls):KBw.bInts (a++d)=ks++ls:=KBw.ints_app h h'
section
set_option maxHeartbeats 4000000
section
variable {w:World} {p:Program} {loose:List Str} {mean:ExcName→Option Value} {mg mb:Str→Option Value} {dp un:Nat} {gd:Option (List Code)} {cn:Str} {cs:Scope} {a:Addr} {ccd:Value} {cl:List (Str×Addr)} {outer:List Env} {A₀:Around} {base h₀:Heap} {L:Addr} {m:Str→Option Value} {s:Shared} {Q E:Value→Shared→Prop}
theorem write_dev (B:Below A₀ base outer h₀) (F:Fr h₀ L s.heap m) (X:(hd.heap_39 w.params).In h₀) {x v:Addr} (N:News h₀ L s.heap []) (T:Top p loose mean mg mb h₀) (hk:cs.kind=.function) (hd:dp+4<recursionLimit) (hu:un+40<cLine)
    {f:Int} {tf:Tok} (hf:16≤f)
    (hraise:∀ e dx od h' tk',Thrown s.heap [] base (envX cn cs L a ccd cl::outer) e dx od [] h'→FaultAt od (-1)→E (.ref e) {s with heap:=h',toks:=tk'}) :
    wpAny (model PySem.Challenge.rw_nu0167_01.row.prog w) (ktrTop dp un gd cn cs L a ccd cl outer) (call (.ref 124) [.ref x,.ref v,.int f tf]) Q E s:=by
  refine wpAny_call ?_
  k_dflt cell_enter
  (repeat' (first|(k_unfold;(try dsimp only))|(k_end;wrow_close)|((with_reducible show wpAny _ _ (call (Value.ref _) _) _ _ _);with_reducible (k_here;(try dsimp only [List.nil_append,List.cons_append]);(with_reducible show wpAny _ _ (call (Value.ref 61) [_]) _ _ _);k_dflt (refine' fault1_c (by k_asm) (by k_asm) (by k_asm) (by k_asm) (by k_asm) (by exact rfl) (by ktr_room) (by ktr_units) ?_);intro ti9 e9 dx9 od9 a9 h9 tk9 F9 N9 O9))|((with_reducible show wpAny _ _ (exec (Stmt.Raise ..) _) _ _ _);(with_reducible (k_dflt (refine' x_Raise (C:=61) (by k_asm) (by exact rfl) (by k_is) ?_))))|walk1|(dsimp only;(with_reducible show wpAny _ _ (call (Value.ref _) _) _ _ _))|(dsimp only;walk1)|(leave1;walk_say "STEP leave1";try dsimp only)|fail "no step"))
  · exact exc_two (by assumption)
  · have FO:=faultAt_of (by assumption)
    refine leave_thrown (by assumption) (by assumption) (by assumption) (exc_two_ne (by assumption) (by assumption)) ?_ (by assumption) ?_ fun h' th=>hraise _ _ _ _ _ th FO
    · intro _ h;cases h
    · intro _ _ h;cases h
end
abbrev write_any_S {w:World} {p:Program} {loose:List Str} {mean:ExcName→Option Value} {mg mb:Str→Option Value} {dp un:Nat} {cn:Str} {cs:Scope} {a:Addr} {ccd:Value} {cl:List (Str×Addr)} {outer:List Env} {A₀:Around} {base h₀:Heap} {L:Addr} {m:Str→Option Value} {s:Shared} {Q E:Value→Shared→Prop} {x dx b v dv:Addr} {x1 x2 x3 x4:Int} {k:Tok} {f:Int} {tf:Tok}:Prop:=∀ (B:Below A₀ base outer h₀) (F:Fr h₀ L s.heap m) (X:(hd.heap_39 w.params).In h₀) {od:Obj} (V:ValIs w x1 x2 x3 x4 od) (N:News h₀ L s.heap [(x,instObj 376 dx),(dx,outD w k b),(b,baObj #[]),(v,instObj 94 dv),(dv,od)]) (T:Top p loose mean mg mb h₀) (hk:cs.kind=.function) (hd:dp+7<recursionLimit) (hu:un+80<cLine) (n1:@Ne Nat x dx) (n2:@Ne Nat b x) (n3:@Ne Nat b dx) (n4:@Ne Nat x v) (n5:@Ne Nat x dv) (n6:@Ne Nat dx v) (n7:@Ne Nat dx dv) (n8:@Ne Nat b v) (n9:@Ne Nat b dv) (r1:-32768≤x1∧x1≤32767) (r2:-32768≤x2∧x2≤32767) (r3:-32768≤x3∧x3≤32767) (r4:-32768≤x4∧x4≤32767) (hf:0≤f) (hf2:f<16) (hret:(∀ i,i<4→bit f i=true∨fv x1 x2 x3 x4 i=0)→∀ (arr:Array UInt8) h' tk',KBw.bInts arr=wrt (fv x1 x2 x3 x4) f 4→Fr h₀ L h' m→News h₀ L h' [(x,instObj 376 dx),(dx,outD w k b),(b,baObj arr),(v,instObj 94 dv),(dv,od)]→KeepBut [x,dx,b,v,dv] s.heap h'→Q .none {s with heap:=h',toks:=tk'}) (hraise:(∃ i,i<4∧¬ (bit f i=true∨fv x1 x2 x3 x4 i=0))→∀ e dxe ode h' tk',Thrown s.heap [x,dx,b,v,dv] base (envX cn cs L a ccd cl::outer) e dxe ode [(v,instObj 94 dv),(dv,od)] h'→FaultAt ode (-1)→E (.ref e) {s with heap:=h',toks:=tk'}),
    wpG (model PySem.Challenge.rw_nu0167_01.row.prog w) (ktrTop dp un (some []) cn cs L a ccd cl outer) (call (.ref 124) [.ref x,.ref v,.int f tf]) Q E s
namespace write_any_E
noncomputable section
def ep:=U fun w=>U fun p=>U fun loose=>U fun mean=>U fun mg=>U fun mb=>U fun dp=>U fun un=>U fun cn=>U fun cs=>U fun a=>U fun ccd=>U fun cl=>U fun outer=>U fun A₀=>U fun base=>U fun h₀=>U fun L=>U fun m=>U fun s=>U fun Q=>U fun E=>U fun x=>U fun dx=>U fun b=>U fun v=>U fun dv=>U fun x1=>U fun x2=>U fun x3=>U fun x4=>U fun k=>U fun f=>fun tf=>¬ @write_any_S w p loose mean mg mb dp un cn cs a ccd cl outer A₀ base h₀ L m s Q E x dx b v dv x1 x2 x3 x4 k f tf
def ec:=pick ep (sW,df,[],df,df,df,0,0,df,df,0,df,[],[],callerA,{},{},0,df,{},df,df,0,0,0,0,0,0,0,0,0,0,0,0)
@[irreducible] def w:=ec.1
@[irreducible] def p:=ec.2.1
@[irreducible] def loose:=ec.2.2.1
@[irreducible] def mean:=ec.2.2.2.1
@[irreducible] def mg:=ec.2.2.2.2.1
@[irreducible] def mb:=ec.2.2.2.2.2.1
@[irreducible] def dp:=ec.2.2.2.2.2.2.1
def ec1:=ec.2.2.2.2.2.2.2
@[irreducible] def un:=ec1.1
@[irreducible] def cn:=ec1.2.1
@[irreducible] def cs:=ec1.2.2.1
@[irreducible] def a:=ec1.2.2.2.1
@[irreducible] def ccd:=ec1.2.2.2.2.1
@[irreducible] def cl:=ec1.2.2.2.2.2.1
@[irreducible] def outer:=ec1.2.2.2.2.2.2.1
def ec2:=ec1.2.2.2.2.2.2.2
@[irreducible] def A₀:=ec2.1
@[irreducible] def base:=ec2.2.1
@[irreducible] def h₀:=ec2.2.2.1
@[irreducible] def L:=ec2.2.2.2.1
@[irreducible] def m:=ec2.2.2.2.2.1
@[irreducible] def s:=ec2.2.2.2.2.2.1
@[irreducible] def Q:=ec2.2.2.2.2.2.2.1
def ec3:=ec2.2.2.2.2.2.2.2
@[irreducible] def E:=ec3.1
@[irreducible] def x:=ec3.2.1
@[irreducible] def dx:=ec3.2.2.1
@[irreducible] def b:=ec3.2.2.2.1
@[irreducible] def v:=ec3.2.2.2.2.1
@[irreducible] def dv:=ec3.2.2.2.2.2.1
@[irreducible] def x1:=ec3.2.2.2.2.2.2.1
def ec4:=ec3.2.2.2.2.2.2.2
@[irreducible] def x2:=ec4.1
@[irreducible] def x3:=ec4.2.1
@[irreducible] def x4:=ec4.2.2.1
@[irreducible] def k:=ec4.2.2.2.1
@[irreducible] def f:=ec4.2.2.2.2.1
@[irreducible] def tf:=ec4.2.2.2.2.2
def st:Σ' R:Tok→Tok→Tok→Tok→Tok→Tok→Tok→Tok→Heap→Addr→Heap→Prop,((∀ k1 k2 k3 k4 t1 t2 t3 t4 gZ LZ hZ,R k1 k2 k3 k4 t1 t2 t3 t4 gZ LZ hZ)→@write_any_S w p loose mean mg mb dp un cn cs a ccd cl outer A₀ base h₀ L m s Q E x dx b v dv x1 x2 x3 x4 k f tf):=⟨_,fun kk=>by
  intro B F X od V N T hk hd hu n1 n2 n3 n4 n5 n6 n7 n8 n9 r1 r2 r3 r4 hf hf2 hret hraise
  have V':=V
  obtain ⟨k1,k2,k3,k4,t1,t2,t3,t4,hod⟩:=V
  subst hod
  refine wpG_call ?_
  k_dflt cell_enter
  rename_i gZ LZ hZ _ _ _ _ _ _ _
  (repeat (rename_i zz;revert zz))
  revert B F X T hk hd hu n1 n2 n3 n4 n5 n6 n7 n8 n9 r1 r2 r3 r4 hf hf2 N hret hraise V'
  exact kk k1 k2 k3 k4 t1 t2 t3 t4 gZ LZ hZ⟩
def eq:=U fun k1=>U fun k2=>U fun k3=>U fun k4=>U fun t1=>U fun t2=>U fun t3=>U fun t4=>U fun gZ=>U fun LZ=>fun hZ=>¬ st.1 k1 k2 k3 k4 t1 t2 t3 t4 gZ LZ hZ
def er:=pick eq (0,0,0,0,0,0,0,0,{},0,{})
@[irreducible] def k1:=er.1
@[irreducible] def k2:=er.2.1
@[irreducible] def k3:=er.2.2.1
@[irreducible] def k4:=er.2.2.2.1
@[irreducible] def t1:=er.2.2.2.2.1
@[irreducible] def t2:=er.2.2.2.2.2.1
@[irreducible] def t3:=er.2.2.2.2.2.2.1
def er1:=er.2.2.2.2.2.2.2
@[irreducible] def t4:=er1.1
@[irreducible] def gZ:=er1.2.1
@[irreducible] def LZ:=er1.2.2.1
@[irreducible] def hZ:=er1.2.2.2
theorem el:st.1 k1 k2 k3 k4 t1 t2 t3 t4 gZ LZ hZ:=by
  intro B F X T hk hd hu n1 n2 n3 n4 n5 n6 n7 n8 n9 r1 r2 r3 r4 hf hf2 N hret hraise V' _ _ _ _ _ _ _
  refine execsG_leaf ?_
  (repeat' (first|(k_unfold;(try dsimp only))|(k_end;wrow_close)|((with_reducible show ite _ _ _);(refine ite_neg (by k_dec) ?_))|walk1|(dsimp only;(with_reducible show wpAny _ _ (call (Value.ref _) _) _ _ _))|(dsimp only;walk1)|(leave1;walk_say "STEP leave1";try dsimp only)|fail "no step"))
  refine execsG_cons (ForG ?_)
  (repeat' (first|(k_unfold;(try dsimp only))|(k_end;wrow_close)|((with_reducible show wpAny _ _ (call (Value.ref _) _) _ _ _);with_reducible (k_here;(try dsimp only [List.nil_append,List.cons_append]);(with_reducible show wpAny _ _ (call (Value.ref 84) _) _ _ _);k_dflt (refine' told_c (by k_asm) (by k_asm) (by k_asm) (by assumption) (by ((refine news_sub (by assumption) ?_);k_allIn)) (by k_asm) (by exact rfl) (by ktr_room) (by ktr_units) ?_);intro tp9 t91 t92 t93 t94 h9 tk9 F9 N9 K9 O9;(have ne93:=neFresh (by assumption) O9);(simp only [NeAll] at ne93);(have N8:=rejoin (by assumption) K9 N9 (by k_dflt k_all));clear K9 N9;(simp only [List.cons_append,List.nil_append] at N8);(try k_sweep);(try dsimp only)))|walk1|(dsimp only;(with_reducible show wpAny _ _ (call (Value.ref _) _) _ _ _))|(dsimp only;walk1)|(leave1;walk_say "STEP leave1";try dsimp only)|fail "no step"))
  rename Fr _ _ _ _=>lF
  rename News _ _ _ _=>lN
  obtain ⟨m1,m2,m3,m4,m5,_⟩:=ne93
  refine enumG (vs:=[.int x1 t91,.int x2 t92,.int x3 t93,.int x4 t94]) (WrK w tp9 x dx b v dv _ _ k (fv x1 x2 x3 x4) f) rfl lF lN rfl rfl [Str.ofString "place",Str.ofString "field"] ⟨⟨_,_,#[],rfl,rfl,rfl⟩,fun j hj=>absurd hj (Nat.not_lt_zero _)⟩ (by k_allIn) (fun i ps nx hJ=>by obtain ⟨⟨_,_,_,_,_,rfl⟩,_⟩:=hJ;exact .head _) (by passes_own) ?turn ?done
  case turn =>
    intro i T t v' ps nx e I oe oI h tk hv hT ne1 ne2 ne3 hJ F1 N1
    obtain ⟨⟨o1,o2,arr,rfl,hba,rfl⟩,hsofar⟩:=hJ
    obtain ⟨hi,ti,rfl⟩:=vs_at hv
    rw [oAt_two] at F1
    simp only [NeAll] at ne1 ne2
    obtain ⟨a1,a2,a3,a4,a5,a6,_⟩:=ne1
    obtain ⟨c1,c2,c3,c4,c5,c6,_⟩:=ne2
    dsimp only [envOf] at F1 N1
    have hsz:=wrJ_arr hba hi
    have hr:=fv_in r1 r2 r3 r4 i
    clear lF lN
    by_cases hb1:bit f i=true
    · have hc1:=(wr_cond (k:=i) hf).mpr hb1
      k_steps
      refine execsG_cons (IfG (wpG_of ?_))
      k_steps
      · refine execsG_cons (ExprG (MethodG ?_))
        k_steps
        k_dflt (refine callWithG_K (K:=Mine.hd.heap_39 w.params) (by k_is) ?_)
        k_steps
        (try dsimp only [List.cons_append,List.nil_append])
        k_dflt (refine' i16_c (x:=x) (dx:=dx) (b:=b) (k:=k) (arr:=arr) ?B ?F ?X ?N ?T ?hk ?hd ?hu n1 n2 n3 hsz hr.1 hr.2 ?_;(case B=>k_asm);(case F=>k_asm);(case X=>k_asm);(case N=>((refine news_sub (by assumption) ?_);k_allIn));(case T=>k_asm);(case hk=>exact rfl);(case hd=>ktr_room);(case hu=>ktr_units))
        intro d h9 tk9 bi9 F9 N9 K9
        have N8:=rejoin (by assumption) K9 N9 (.keep ⟨Ne.symm a2,Ne.symm a3,Ne.symm a4,True.intro⟩ (.keep ⟨Ne.symm c2,Ne.symm c3,Ne.symm c4,True.intro⟩ (.keep ⟨Ne.symm m1,Ne.symm m2,Ne.symm m3,True.intro⟩ (.drop (.drop (.drop (.keep ⟨Ne.symm n4,Ne.symm n6,Ne.symm n8,True.intro⟩ (.keep ⟨Ne.symm n5,Ne.symm n7,Ne.symm n9,True.intro⟩ .nil))))))))
        clear K9 N9
        simp only [List.cons_append,List.nil_append] at N8
        (try k_sweep)
        refine execsG_nil ?_
        dsimp only
        refine execsG_nil ?_
        refine' GTurn.next2 ?F ?N ?he ?hI ?hJ ?hn ?ha ?hb ?hm
        case hJ=>exact ⟨⟨some (.int (i:Int) t),some (.int (fv x1 x2 x3 x4 i) ti),arr++d,rfl,(bInts_app hba bi9).trans (wrt_pos hb1).symm,rfl⟩,sofar_succ hsofar (.inl hb1)⟩
        case F=>assumption
        case N=>assumption
        case he=>k_mem
        case hI=>k_mem
        case hn=>k_allIn
        case ha=>exact ⟨a1,a2,a3,a4,a5,a6,True.intro⟩
        case hb=>exact ⟨c1,c2,c3,c4,c5,c6,True.intro⟩
        case hm=>exact upd_two (by decide) _ _ _ _ _
      · exfalso;exact absurd hc1 (by assumption)
    · have hc1:¬ _:=fun hc=>hb1 ((wr_cond (k:=i) hf).mp hc)
      by_cases hz0:fv x1 x2 x3 x4 i=0
      · rw [hz0] at hT
        k_steps
        refine execsG_cons (IfG (wpG_of ?_))
        k_steps
        · exfalso;exact hc1 (by assumption)
        · refine execsG_leaf ?_
          k_steps
          dsimp only
          refine execsG_nil ?_
          dsimp only
          refine execsG_nil ?_
          refine' GTurn.next2 ?F2 ?N2 ?he2 ?hI2 ?hJ2 ?hn2 ?ha2 ?hb2 ?hm2
          case hJ2=>exact ⟨⟨some (.int (i:Int) t),some (.int 0 ti),arr,rfl,hba.trans (wrt_neg hb1).symm,rfl⟩,sofar_succ hsofar (.inr hz0)⟩
          case F2=>assumption
          case N2=>assumption
          case he2=>k_mem
          case hI2=>k_mem
          case hn2=>k_allIn
          case ha2=>exact ⟨a1,a2,a3,a4,a5,a6,True.intro⟩
          case hb2=>exact ⟨c1,c2,c3,c4,c5,c6,True.intro⟩
          case hm2=>exact upd_two (by decide) _ _ _ _ _
      · k_steps
        refine execsG_cons (IfG (wpG_of ?_))
        k_steps
        · exfalso;exact hc1 (by assumption)
        · refine execsG_leaf ?_
          (repeat' (first|(k_unfold;(try dsimp only))|(k_end;wrow_close)|((with_reducible show wpAny _ _ (call (Value.ref _) _) _ _ _);with_reducible (k_here;(try dsimp only [List.nil_append,List.cons_append]);(with_reducible show wpAny _ _ (call (Value.ref 61) [_]) _ _ _);k_dflt (refine' fault1_c (by k_asm) (by k_asm) (by k_asm) (by k_asm) (by k_asm) (by exact rfl) (by ktr_room) (by ktr_units) ?_);intro ti9 e9 dx9 od9 a9 h9 tk9 F9 N9 O9))|((with_reducible show wpAny _ _ (exec (Stmt.Raise ..) _) _ _ _);(with_reducible (k_dflt (refine' x_Raise (C:=61) (by k_asm) (by exact rfl) (by k_is) ?_))))|walk1|(dsimp only;(with_reducible show wpAny _ _ (call (Value.ref _) _) _ _ _))|(dsimp only;walk1)|(leave1;walk_say "STEP leave1";try dsimp only)|fail "no step"))
          all_goals (try (exact absurd (by assumption) hz0))
          · exact exc_two (by assumption)
          · have FO:=faultAt_of (by assumption)
            rename News _ _ _ _=>nN
            refine leave_thrown (own:=[(v,instObj 94 dv),(dv,_)]) (adr:=[x,dx,b,v,dv]) (by assumption) (by assumption) (news_sub nN (by k_allIn)) (exc_two_ne nN (by assumption)) ?hoe (by assumption) ?hadr fun h' th=>hraise ⟨i,hi,fun q=>q.elim hb1 hz0⟩ _ _ _ _ _ th FO
            case hoe =>
              intro p hp q
              have z:=nN _ (.tail _ (.head _))
              rcases List.mem_cons.mp hp with rfl|hp
              · have z2:=nN (v,instObj 94 dv) (by k_mem)
                rw [q] at z2
                exact absurd (Option.some.inj (z2.1.symm.trans z.1)) (by intro h;cases h)
              · rw [List.mem_singleton.mp hp] at q
                have z2:=nN (dv,_) (by k_mem)
                rw [q] at z2
                exact absurd (Option.some.inj (z2.1.symm.trans z.1)) (by intro h;cases h)
            case hadr =>
              exact off_frames (own':=[(x,_),(dx,_),(b,_),(v,_),(dv,_)]) (by assumption) (news_sub nN (by k_allIn))
  case done =>
    intro ps nx h tk hJ F1 N1
    obtain ⟨⟨o1,o2,arr,rfl,hba,rfl⟩,hall⟩:=hJ
    clear lF lN
    dsimp only [envOf] at F1 N1
    dsimp only
    refine execsG_nil ?_
    k_steps
    exact hret hall _ _ _ hba (by assumption) (news_sub (by assumption) (by k_allIn)) (keepBut_of (by assumption) (by assumption))
theorem ek:@write_any_S w p loose mean mg mb dp un cn cs a ccd cl outer A₀ base h₀ L m s Q E x dx b v dv x1 x2 x3 x4 k f tf:=st.2 fun k1 k2 k3 k4 t1 t2 t3 t4 gZ LZ hZ=>@Classical.byContradiction _ fun h=>pick_all (P:=eq) (by with_unfolding_all exact fun k=>k @el) (k1,k2,k3,k4,t1,t2,t3,t4,gZ,LZ,hZ) h
end
end write_any_E
theorem write_any {w:World} {p:Program} {loose:List Str} {mean:ExcName→Option Value} {mg mb:Str→Option Value} {dp un:Nat} {cn:Str} {cs:Scope} {a:Addr} {ccd:Value} {cl:List (Str×Addr)} {outer:List Env} {A₀:Around} {base h₀:Heap} {L:Addr} {m:Str→Option Value} {s:Shared} {Q E:Value→Shared→Prop} {x dx b v dv:Addr} {x1 x2 x3 x4:Int} {k:Tok} {f:Int} {tf:Tok}:@write_any_S w p loose mean mg mb dp un cn cs a ccd cl outer A₀ base h₀ L m s Q E x dx b v dv x1 x2 x3 x4 k f tf:=@Classical.byContradiction _ fun h=>pick_all (P:=write_any_E.ep) (by with_unfolding_all exact fun k=>k @write_any_E.ek) (w,p,loose,mean,mg,mb,dp,un,cn,cs,a,ccd,cl,outer,A₀,base,h₀,L,m,s,Q,E,x,dx,b,v,dv,x1,x2,x3,x4,k,f,tf) h
section
variable {w:World} {p:Program} {loose:List Str} {mean:ExcName→Option Value} {mg mb:Str→Option Value} {dp un:Nat} {gd:Option (List Code)} {cn:Str} {cs:Scope} {a:Addr} {ccd:Value} {cl:List (Str×Addr)} {outer:List Env} {A₀:Around} {base h₀:Heap} {L:Addr} {m:Str→Option Value} {s:Shared} {Q E:Value→Shared→Prop}
theorem write_ok (B:Below A₀ base outer h₀) (F:Fr h₀ L s.heap m) (X:(hd.heap_39 w.params).In h₀) {x dx b v dv:Addr} {od:Obj} {x1 x2 x3 x4:Int} {k:Tok} (V:ValIs w x1 x2 x3 x4 od) (N:News h₀ L s.heap [(x,instObj 376 dx),(dx,outD w k b),(b,baObj #[]),(v,instObj 94 dv),(dv,od)]) (T:Top p loose mean mg mb h₀) (hk:cs.kind=.function) (hd:dp+7<recursionLimit) (hu:un+80<cLine)
    (n1:@Ne Nat x dx) (n2:@Ne Nat b x) (n3:@Ne Nat b dx) (n4:@Ne Nat x v) (n5:@Ne Nat x dv) (n6:@Ne Nat dx v) (n7:@Ne Nat dx dv) (n8:@Ne Nat b v) (n9:@Ne Nat b dv) (r1:-32768≤x1∧x1≤32767) (r2:-32768≤x2∧x2≤32767) (r3:-32768≤x3∧x3≤32767) (r4:-32768≤x4∧x4≤32767) {f:Int} {tf:Tok} (hf:0≤f) (hf2:f<16) (hbear:∀ i,i<4→bit f i=true∨fv x1 x2 x3 x4 i=0)
    (hret:∀ (arr:Array UInt8) h' tk',KBw.bInts arr=wrt (fv x1 x2 x3 x4) f 4→Fr h₀ L h' m→News h₀ L h' [(x,instObj 376 dx),(dx,outD w k b),(b,baObj arr),(v,instObj 94 dv),(dv,od)]→KeepBut [x,dx,b,v,dv] s.heap h'→Q .none {s with heap:=h',toks:=tk'}) :
    wpG (model PySem.Challenge.rw_nu0167_01.row.prog w) (ktrTop dp un (some []) cn cs L a ccd cl outer) (call (.ref 124) [.ref x,.ref v,.int f tf]) Q E s :=
  write_any B F X V N T hk hd hu n1 n2 n3 n4 n5 n6 n7 n8 n9 r1 r2 r3 r4 hf hf2 (fun _=>hret) fun ⟨i,hi,hn⟩=>absurd (hbear i hi) hn
theorem write_bad (B:Below A₀ base outer h₀) (F:Fr h₀ L s.heap m) (X:(hd.heap_39 w.params).In h₀) {x dx b v dv:Addr} {od:Obj} {x1 x2 x3 x4:Int} {k:Tok} (V:ValIs w x1 x2 x3 x4 od) (N:News h₀ L s.heap [(x,instObj 376 dx),(dx,outD w k b),(b,baObj #[]),(v,instObj 94 dv),(dv,od)]) (T:Top p loose mean mg mb h₀) (hk:cs.kind=.function) (hd:dp+7<recursionLimit) (hu:un+80<cLine)
    (n1:@Ne Nat x dx) (n2:@Ne Nat b x) (n3:@Ne Nat b dx) (n4:@Ne Nat x v) (n5:@Ne Nat x dv) (n6:@Ne Nat dx v) (n7:@Ne Nat dx dv) (n8:@Ne Nat b v) (n9:@Ne Nat b dv) (r1:-32768≤x1∧x1≤32767) (r2:-32768≤x2∧x2≤32767) (r3:-32768≤x3∧x3≤32767) (r4:-32768≤x4∧x4≤32767) {f:Int} {tf:Tok} (hf:0≤f) (hf2:f<16) (hbad:∃ i,i<4∧¬ (bit f i=true∨fv x1 x2 x3 x4 i=0))
    (hraise:∀ e dxe ode h' tk',Thrown s.heap [x,dx,b,v,dv] base (envX cn cs L a ccd cl::outer) e dxe ode [(v,instObj 94 dv),(dv,od)] h'→FaultAt ode (-1)→E (.ref e) {s with heap:=h',toks:=tk'}) :
    wpG (model PySem.Challenge.rw_nu0167_01.row.prog w) (ktrTop dp un (some []) cn cs L a ccd cl outer) (call (.ref 124) [.ref x,.ref v,.int f tf]) Q E s :=
  write_any B F X V N T hk hd hu n1 n2 n3 n4 n5 n6 n7 n8 n9 r1 r2 r3 r4 hf hf2 (fun h=>hbad.elim fun i hi=>absurd (h i hi.1) hi.2) fun _=>hraise
end
end
end
section
set_option Elab.async false
set_option maxRecDepth 100000
set_option linter.unusedVariables false
section
variable {prog:Program} {w:World} {A:Around} {K:Frag} {C:Addr} {s:Shared} {h₀:Heap} {L:Addr} {m:Str→Option Value} {news:List (Addr×Obj)} {Q E:Value→Shared→Prop}
theorem makeA {pos:List Value} {fI:Addr} (F:Fr h₀ L s.heap m) (X₀:K.In h₀) (N:News h₀ L s.heap news) (hm:makesIn K C=true) (hi:findIn K (.ref C) "__init__" = some (some (.ref fI))) (hf:isFn K (.ref fI)=true)
    (h:∀ x dx h',Fr h₀ L h' m→News h₀ L h' ((x,instObj C dx)::(dx,dictOf [] 0)::news)→(∀ p∈news,p.1<dx)→dx<x→(∀ c o,s.heap.get? c=some o→h'.get? c=some o∧@LT.lt Nat _ c dx) →
      codeAny (model prog w) (A.under (.builtin "type.__call__" ⟨.ref C::pos,[]⟩)) (.call (.ref fI) ⟨.ref x::pos,[]⟩) (InitBack x fun r s'=>match r with|.ok (.ret v)=>Q v s'|.ok _=>False|.error e=>E e s') {s with heap:=h'}) :
    wpAny (model prog w) A (call (.ref C) pos) Q E s:=by
  have X:=X₀.keeps F.keep
  obtain ⟨hh,g,d,t,os⟩:=s
  refine wpAny_call (make_core (makes_of X hm) (looks_findIn X hi) (fun self=>bind_fn X self (beq_iff_eq.mp hf)) (.inl rfl) (h _ hh.objs.size _ ((F.push _).push _) ?_ (fun p hp=>Heap.lt_size (N p hp).1) (Nat.lt_succ_self _) (fun c o e=>⟨Heap.get?_push_of_some _ (Heap.get?_push_of_some _ e),Heap.lt_size e⟩)))
  have z:=(N.push F emptyDict).push (F.push _) (instObj C hh.objs.size)
  rwa [Heap.size_push] at z
end
theorem keepMake2 {H hm g h':Heap} {L':Addr} {m':Str→Option Value} {x dx:Addr} (l2:@LT.lt Nat _ dx x) (k:∀ c o,H.get? c=some o→hm.get? c=some o∧@LT.lt Nat _ c dx) (G:GSub hm g [x,dx]) (F:Fr g L' h' m'):KeepBut [] H h':=fun c o e _=>by
  obtain ⟨k1,k2⟩:=k c o e
  refine F.keep c o (G c o k1 fun hm=>?_)
  rcases List.mem_cons.mp hm with q|hm
  · have q':@Eq Nat c x:=q
    omega
  · have q':@Eq Nat c dx:=List.mem_singleton.mp hm
    omega
theorem freshMake2 {H hm:Heap} {x dx:Addr} (l2:@LT.lt Nat _ dx x) (k:∀ c o,H.get? c=some o→hm.get? c=some o∧@LT.lt Nat _ c dx):Fresh H x∧Fresh H dx :=
  ⟨fun c oc e=>Nat.ne_of_lt (Nat.lt_trans (k c oc e).2 l2),fun c oc e=>Nat.ne_of_lt (k c oc e).2⟩
end
section
set_option Elab.async false
set_option maxRecDepth 100000
set_option maxHeartbeats 4000000
set_option linter.unusedVariables false
set_option pp.deepTerms false
set_option pp.maxSteps 2000
inductive InfoIs (w:World) (xa ya xo yo:Int) (o:Obj):Prop
  | mk (k0 k1 k2 k3 k4 k5 k6 k7 k8 k9 k10 k11 k12 k13 k14 t0 t1 t2 t3 t5 t6 t7 t8 t9 t10 t11 t12 t13 t14:Tok) (h:o=dictOf [⟨PyData.keyHash w.params (Str.ofString "code"),.str (Str.ofString "code") k0,.int 65 t0⟩,⟨PyData.keyHash w.params (Str.ofString "glyph"),.str (Str.ofString "glyph") k1,.int 3 t1⟩,⟨PyData.keyHash w.params (Str.ofString "cluster"),.str (Str.ofString "cluster") k2,.int 7 t2⟩,⟨PyData.keyHash w.params (Str.ofString "mask"),.str (Str.ofString "mask") k3,.int 0 t3⟩,⟨PyData.keyHash w.params (Str.ofString "is_unsafe"),.str (Str.ofString "is_unsafe") k4,.bool false⟩,⟨PyData.keyHash w.params (Str.ofString "lig_id"),.str (Str.ofString "lig_id") k5,.int 0 t5⟩,⟨PyData.keyHash w.params (Str.ofString "lig_part"),.str (Str.ofString "lig_part") k6,.int 0 t6⟩,⟨PyData.keyHash w.params (Str.ofString "lig_count"),.str (Str.ofString "lig_count") k7,.int 0 t7⟩,⟨PyData.keyHash w.params (Str.ofString "kind"),.str (Str.ofString "kind") k8,.str (Str.ofString "") t8⟩,⟨PyData.keyHash w.params (Str.ofString "x_advance"),.str (Str.ofString "x_advance") k9,.int xa t9⟩,⟨PyData.keyHash w.params (Str.ofString "y_advance"),.str (Str.ofString "y_advance") k10,.int ya t10⟩,⟨PyData.keyHash w.params (Str.ofString "x_offset"),.str (Str.ofString "x_offset") k11,.int xo t11⟩,⟨PyData.keyHash w.params (Str.ofString "y_offset"),.str (Str.ofString "y_offset") k12,.int yo t12⟩,⟨PyData.keyHash w.params (Str.ofString "parent"),.str (Str.ofString "parent") k13,.int 0 t13⟩,⟨PyData.keyHash w.params (Str.ofString "bond"),.str (Str.ofString "bond") k14,.str (Str.ofString "") t14⟩] 15)
section
set_option maxHeartbeats 4000000
section
variable {w:World} {p:Program} {loose:List Str} {mean:ExcName→Option Value} {mg mb:Str→Option Value} {dp un:Nat} {gd:Option (List Code)} {cn:Str} {cs:Scope} {a:Addr} {ccd:Value} {cl:List (Str×Addr)} {outer:List Env} {A₀:Around} {base h₀:Heap} {L:Addr} {m:Str→Option Value} {s:Shared} {Q E:Value→Shared→Prop}
theorem value_c (B:Below A₀ base outer h₀) (F:Fr h₀ L s.heap m) (X:(hd.heap_39 w.params).In h₀) (N:News h₀ L s.heap []) (T:Top p loose mean mg mb h₀) (hk:cs.kind=.function) (hd:dp+4<recursionLimit) (hu:un+60<cLine) {x1 x2 x3 x4:Int} {t1 t2 t3 t4:Tok}
    (hret:∀ v dv od h' tk',ValIs w x1 x2 x3 x4 od→Fr h₀ L h' m→News h₀ L h' [(v,instObj 94 dv),(dv,od)]→KeepBut [] s.heap h'→Fresh s.heap v→Fresh s.heap dv→@Ne Nat v dv→Q (.ref v) {s with heap:=h',toks:=tk'}) :
    wpAny (model PySem.Challenge.rw_nu0167_01.row.prog w) (ktrTop dp un gd cn cs L a ccd cl outer) (call (.ref 94) [.int x1 t1,.int x2 t2,.int x3 t3,.int x4 t4]) Q E s:=by
  k_dflt (refine' makeA (C:=94) ?k1 ?k2 ?k3 ?k4 ?k5 ?k6 ?_;(case k1=>k_asm);(case k2=>k_asm);(case k3=>k_asm);(case k4=>k_is);(case k5=>k_is);(case k6=>k_is))
  intro x dx h' F' N' l1 l2 l4
  (try k_lt l1)
  k_lt2 l2
  k_dflt cell_enter
  k_steps
  have FM:=freshMake2 l2 l4
  refine' hret _ _ _ _ _ ?V1 ?F1 ?N1 ?K1 FM.1 FM.2 ?W1
  case F1=>assumption
  case N1=>assumption
  case V1=>exact ⟨_,_,_,_,_,_,_,_,rfl⟩
  case K1=>exact keepMake2 l2 l4 (by assumption) (by assumption)
  case W1=>k_ne
end
abbrev info_c_S {w:World} {p:Program} {loose:List Str} {mean:ExcName→Option Value} {mg mb:Str→Option Value} {dp un:Nat} {gd:Option (List Code)} {cn:Str} {cs:Scope} {a:Addr} {ccd:Value} {cl:List (Str×Addr)} {outer:List Env} {A₀:Around} {base h₀:Heap} {L:Addr} {m:Str→Option Value} {s:Shared} {Q E:Value→Shared→Prop} {t1 t2 t3:Tok}:Prop:=∀ (B:Below A₀ base outer h₀) (F:Fr h₀ L s.heap m) (X:(hd.heap_39 w.params).In h₀) (N:News h₀ L s.heap []) (T:Top p loose mean mg mb h₀) (hk:cs.kind=.function) (hd:dp+4<recursionLimit) (hu:un+60<cLine) (hret:∀ v dv od h' tk',InfoIs w 0 0 0 0 od→Fr h₀ L h' m→News h₀ L h' [(v,instObj 169 dv),(dv,od)]→KeepBut [] s.heap h'→Fresh s.heap v→Fresh s.heap dv→@Ne Nat v dv→Q (.ref v) {s with heap:=h',toks:=tk'}),
    wpAny (model PySem.Challenge.rw_nu0167_01.row.prog w) (ktrTop dp un gd cn cs L a ccd cl outer) (call (.ref 169) [.int 65 t1,.int 3 t2,.int 7 t3]) Q E s
namespace info_c_E
noncomputable section
def ep:=U fun w=>U fun p=>U fun loose=>U fun mean=>U fun mg=>U fun mb=>U fun dp=>U fun un=>U fun gd=>U fun cn=>U fun cs=>U fun a=>U fun ccd=>U fun cl=>U fun outer=>U fun A₀=>U fun base=>U fun h₀=>U fun L=>U fun m=>U fun s=>U fun Q=>U fun E=>U fun t1=>U fun t2=>fun t3=>¬ @info_c_S w p loose mean mg mb dp un gd cn cs a ccd cl outer A₀ base h₀ L m s Q E t1 t2 t3
def ec:=pick ep (sW,df,[],df,df,df,0,0,none,df,df,0,df,[],[],callerA,{},{},0,df,{},df,df,0,0,0)
@[irreducible] def w:=ec.1
@[irreducible] def p:=ec.2.1
@[irreducible] def loose:=ec.2.2.1
@[irreducible] def mean:=ec.2.2.2.1
@[irreducible] def mg:=ec.2.2.2.2.1
@[irreducible] def mb:=ec.2.2.2.2.2.1
@[irreducible] def dp:=ec.2.2.2.2.2.2.1
def ec1:=ec.2.2.2.2.2.2.2
@[irreducible] def un:=ec1.1
@[irreducible] def gd:=ec1.2.1
@[irreducible] def cn:=ec1.2.2.1
@[irreducible] def cs:=ec1.2.2.2.1
@[irreducible] def a:=ec1.2.2.2.2.1
@[irreducible] def ccd:=ec1.2.2.2.2.2.1
@[irreducible] def cl:=ec1.2.2.2.2.2.2.1
def ec2:=ec1.2.2.2.2.2.2.2
@[irreducible] def outer:=ec2.1
@[irreducible] def A₀:=ec2.2.1
@[irreducible] def base:=ec2.2.2.1
@[irreducible] def h₀:=ec2.2.2.2.1
@[irreducible] def L:=ec2.2.2.2.2.1
@[irreducible] def m:=ec2.2.2.2.2.2.1
@[irreducible] def s:=ec2.2.2.2.2.2.2.1
def ec3:=ec2.2.2.2.2.2.2.2
@[irreducible] def Q:=ec3.1
@[irreducible] def E:=ec3.2.1
@[irreducible] def t1:=ec3.2.2.1
@[irreducible] def t2:=ec3.2.2.2.1
@[irreducible] def t3:=ec3.2.2.2.2
def st:Σ' R:Addr→Addr→Heap→Heap→Addr→Heap→Prop,((∀ x dx h' gZ LZ hZ,R x dx h' gZ LZ hZ)→@info_c_S w p loose mean mg mb dp un gd cn cs a ccd cl outer A₀ base h₀ L m s Q E t1 t2 t3):=⟨_,fun kk=>by
  intro B F X N T hk hd hu hret
  k_dflt (refine' makeA (C:=169) ?k1 ?k2 ?k3 ?k4 ?k5 ?k6 ?_;(case k1=>k_asm);(case k2=>k_asm);(case k3=>k_asm);(case k4=>k_is);(case k5=>k_is);(case k6=>k_is))
  intro x dx h' F' N' l1 l2 l4
  (try k_lt l1)
  k_lt2 l2
  k_dflt cell_enter
  rename_i gZ LZ hZ _ _ _ _ _ _ _
  revert qk ek
  (repeat (rename_i zz;revert zz))
  revert B F X N T hk hd hu hret F' N' l4 l1 l2
  exact kk x dx h' gZ LZ hZ⟩
def eq:=U fun x=>U fun dx=>U fun h'=>U fun gZ=>U fun LZ=>fun hZ=>¬ st.1 x dx h' gZ LZ hZ
def er:=pick eq (0,0,{},{},0,{})
@[irreducible] def x:=er.1
@[irreducible] def dx:=er.2.1
@[irreducible] def h':=er.2.2.1
@[irreducible] def gZ:=er.2.2.2.1
@[irreducible] def LZ:=er.2.2.2.2.1
@[irreducible] def hZ:=er.2.2.2.2.2
theorem el:st.1 x dx h' gZ LZ hZ:=by
  intro B F X N T hk hd hu hret F' N' l4 l1 l2 _ _ _ _ _ _ _ qk ek
  k_steps
  have FM:=freshMake2 l2 l4
  refine' hret _ _ _ _ _ ?V2 ?F2 ?N2 ?K2 FM.1 FM.2 ?W2
  case F2=>assumption
  case N2=>assumption
  case V2=>exact ⟨_,_,_,_,_,_,_,_,_,_,_,_,_,_,_,_,_,_,_,_,_,_,_,_,_,_,_,_,_,rfl⟩
  case K2=>exact keepMake2 l2 l4 (by assumption) (by assumption)
  case W2=>k_ne
theorem ek:@info_c_S w p loose mean mg mb dp un gd cn cs a ccd cl outer A₀ base h₀ L m s Q E t1 t2 t3:=st.2 fun x dx h' gZ LZ hZ=>@Classical.byContradiction _ fun h=>pick_all (P:=eq) (by with_unfolding_all exact fun k=>k @el) (x,dx,h',gZ,LZ,hZ) h
end
end info_c_E
theorem info_c {w:World} {p:Program} {loose:List Str} {mean:ExcName→Option Value} {mg mb:Str→Option Value} {dp un:Nat} {gd:Option (List Code)} {cn:Str} {cs:Scope} {a:Addr} {ccd:Value} {cl:List (Str×Addr)} {outer:List Env} {A₀:Around} {base h₀:Heap} {L:Addr} {m:Str→Option Value} {s:Shared} {Q E:Value→Shared→Prop} {t1 t2 t3:Tok}:@info_c_S w p loose mean mg mb dp un gd cn cs a ccd cl outer A₀ base h₀ L m s Q E t1 t2 t3:=@Classical.byContradiction _ fun h=>pick_all (P:=info_c_E.ep) (by with_unfolding_all exact fun k=>k @info_c_E.ek) (w,p,loose,mean,mg,mb,dp,un,gd,cn,cs,a,ccd,cl,outer,A₀,base,h₀,L,m,s,Q,E,t1,t2,t3) h
abbrev add_c_S {w:World} {p:Program} {loose:List Str} {mean:ExcName→Option Value} {mg mb:Str→Option Value} {dp un:Nat} {gd:Option (List Code)} {cn:Str} {cs:Scope} {a:Addr} {ccd:Value} {cl:List (Str×Addr)} {outer:List Env} {A₀:Around} {base h₀:Heap} {L:Addr} {m:Str→Option Value} {s:Shared} {Q E:Value→Shared→Prop} {v dv:Addr} {x1 x2 x3 x4:Int} {ix dx:Addr} {xa ya xo yo:Int} {bk:Bool}:Prop:=∀ {od:Obj} (V:ValIs w x1 x2 x3 x4 od) {oi:Obj} (I:InfoIs w xa ya xo yo oi) (B:Below A₀ base outer h₀) (F:Fr h₀ L s.heap m) (X:(hd.heap_39 w.params).In h₀) (N:News h₀ L s.heap [(ix,instObj 169 dx),(dx,oi),(v,instObj 94 dv),(dv,od)]) (T:Top p loose mean mg mb h₀) (hk:cs.kind=.function) (hd:dp+4<recursionLimit) (hu:un+60<cLine) (n1:@Ne Nat ix dx) (n2:@Ne Nat dx v) (n3:@Ne Nat dx dv) (n4:@Ne Nat ix v) (n5:@Ne Nat ix dv) (hret:∀ oi' h' tk',InfoIs w (xa+x3) ya (xo+x1) (yo+x2) oi'→Fr h₀ L h' m→News h₀ L h' [(ix,instObj 169 dx),(dx,oi'),(v,instObj 94 dv),(dv,od)]→KeepBut [ix,dx,v,dv] s.heap h'→Q .none {s with heap:=h',toks:=tk'}),
    wpAny (model PySem.Challenge.rw_nu0167_01.row.prog w) (ktrTop dp un gd cn cs L a ccd cl outer) (call (.ref 138) [.ref ix,.ref v,.bool bk]) Q E s
namespace add_c_E
noncomputable section
def ep:=U fun w=>U fun p=>U fun loose=>U fun mean=>U fun mg=>U fun mb=>U fun dp=>U fun un=>U fun gd=>U fun cn=>U fun cs=>U fun a=>U fun ccd=>U fun cl=>U fun outer=>U fun A₀=>U fun base=>U fun h₀=>U fun L=>U fun m=>U fun s=>U fun Q=>U fun E=>U fun v=>U fun dv=>U fun x1=>U fun x2=>U fun x3=>U fun x4=>U fun ix=>U fun dx=>U fun xa=>U fun ya=>U fun xo=>U fun yo=>fun bk=>¬ @add_c_S w p loose mean mg mb dp un gd cn cs a ccd cl outer A₀ base h₀ L m s Q E v dv x1 x2 x3 x4 ix dx xa ya xo yo bk
def ec:=pick ep (sW,df,[],df,df,df,0,0,none,df,df,0,df,[],[],callerA,{},{},0,df,{},df,df,0,0,0,0,0,0,0,0,0,0,0,0,false)
@[irreducible] def w:=ec.1
@[irreducible] def p:=ec.2.1
@[irreducible] def loose:=ec.2.2.1
@[irreducible] def mean:=ec.2.2.2.1
@[irreducible] def mg:=ec.2.2.2.2.1
@[irreducible] def mb:=ec.2.2.2.2.2.1
@[irreducible] def dp:=ec.2.2.2.2.2.2.1
def ec1:=ec.2.2.2.2.2.2.2
@[irreducible] def un:=ec1.1
@[irreducible] def gd:=ec1.2.1
@[irreducible] def cn:=ec1.2.2.1
@[irreducible] def cs:=ec1.2.2.2.1
@[irreducible] def a:=ec1.2.2.2.2.1
@[irreducible] def ccd:=ec1.2.2.2.2.2.1
@[irreducible] def cl:=ec1.2.2.2.2.2.2.1
def ec2:=ec1.2.2.2.2.2.2.2
@[irreducible] def outer:=ec2.1
@[irreducible] def A₀:=ec2.2.1
@[irreducible] def base:=ec2.2.2.1
@[irreducible] def h₀:=ec2.2.2.2.1
@[irreducible] def L:=ec2.2.2.2.2.1
@[irreducible] def m:=ec2.2.2.2.2.2.1
@[irreducible] def s:=ec2.2.2.2.2.2.2.1
def ec3:=ec2.2.2.2.2.2.2.2
@[irreducible] def Q:=ec3.1
@[irreducible] def E:=ec3.2.1
@[irreducible] def v:=ec3.2.2.1
@[irreducible] def dv:=ec3.2.2.2.1
@[irreducible] def x1:=ec3.2.2.2.2.1
@[irreducible] def x2:=ec3.2.2.2.2.2.1
@[irreducible] def x3:=ec3.2.2.2.2.2.2.1
def ec4:=ec3.2.2.2.2.2.2.2
@[irreducible] def x4:=ec4.1
@[irreducible] def ix:=ec4.2.1
@[irreducible] def dx:=ec4.2.2.1
@[irreducible] def xa:=ec4.2.2.2.1
@[irreducible] def ya:=ec4.2.2.2.2.1
@[irreducible] def xo:=ec4.2.2.2.2.2.1
@[irreducible] def yo:=ec4.2.2.2.2.2.2.1
@[irreducible] def bk:=ec4.2.2.2.2.2.2.2
theorem ek:@add_c_S w p loose mean mg mb dp un gd cn cs a ccd cl outer A₀ base h₀ L m s Q E v dv x1 x2 x3 x4 ix dx xa ya xo yo bk:=by
  intro od V oi I B F X N T hk hd hu n1 n2 n3 n4 n5 hret
  have I':=I
  obtain ⟨k0,k1,k2,k3,k4,k5,k6,k7,k8,k9,k10,k11,k12,k13,k14,t0,t1,t2,t3,t5,t6,t7,t8,t9,t10,t11,t12,t13,t14,hoi⟩:=I
  subst hoi
  obtain ⟨a1,a2,a3,a4,b1,b2,b3,b4,hod⟩:=V
  subst hod
  refine wpAny_call ?_
  k_dflt cell_enter
  k_steps
  refine' hret _ _ _ ?V9 ?F9 ?N9 ?K9
  case F9=>assumption
  case N9=>assumption
  case V9=>exact ⟨_,_,_,_,_,_,_,_,_,_,_,_,_,_,_,_,_,_,_,_,_,_,_,_,_,_,_,_,_,rfl⟩
  case K9=>exact keepBut_of (by assumption) (by assumption)
end
end add_c_E
theorem add_c {w:World} {p:Program} {loose:List Str} {mean:ExcName→Option Value} {mg mb:Str→Option Value} {dp un:Nat} {gd:Option (List Code)} {cn:Str} {cs:Scope} {a:Addr} {ccd:Value} {cl:List (Str×Addr)} {outer:List Env} {A₀:Around} {base h₀:Heap} {L:Addr} {m:Str→Option Value} {s:Shared} {Q E:Value→Shared→Prop} {v dv:Addr} {x1 x2 x3 x4:Int} {ix dx:Addr} {xa ya xo yo:Int} {bk:Bool}:@add_c_S w p loose mean mg mb dp un gd cn cs a ccd cl outer A₀ base h₀ L m s Q E v dv x1 x2 x3 x4 ix dx xa ya xo yo bk:=@Classical.byContradiction _ fun h=>pick_all (P:=add_c_E.ep) (by with_unfolding_all exact fun k=>k @add_c_E.ek) (w,p,loose,mean,mg,mb,dp,un,gd,cn,cs,a,ccd,cl,outer,A₀,base,h₀,L,m,s,Q,E,v,dv,x1,x2,x3,x4,ix,dx,xa,ya,xo,yo,bk) h
section
variable {w:World} {p:Program} {loose:List Str} {mean:ExcName→Option Value} {mg mb:Str→Option Value} {dp un:Nat} {gd:Option (List Code)} {cn:Str} {cs:Scope} {a:Addr} {ccd:Value} {cl:List (Str×Addr)} {outer:List Env} {A₀:Around} {base h₀:Heap} {L:Addr} {m:Str→Option Value} {s:Shared} {Q E:Value→Shared→Prop}
theorem infotold_c {ix dx:Addr} {oi:Obj} {xa ya xo yo:Int} (I:InfoIs w xa ya xo yo oi) (B:Below A₀ base outer h₀) (F:Fr h₀ L s.heap m) (X:(hd.heap_39 w.params).In h₀) (N:News h₀ L s.heap [(ix,instObj 169 dx),(dx,oi)]) (T:Top p loose mean mg mb h₀) (hk:cs.kind=.function) (hd:dp+4<recursionLimit) (hu:un+60<cLine)
    (hret:∀ tp (t1 t2 t3 t4 t5 t6:Tok) h' tk',Fr h₀ L h' m→News h₀ L h' [(tp,tupOf #[.int 3 t1,.int 7 t2,.int xa t3,.int ya t4,.int xo t5,.int yo t6]),(ix,instObj 169 dx),(dx,oi)]→KeepBut [ix,dx] s.heap h'→Fresh s.heap tp→Q (.ref tp) {s with heap:=h',toks:=tk'}) :
    wpAny (model PySem.Challenge.rw_nu0167_01.row.prog w) (ktrTop dp un gd cn cs L a ccd cl outer) (call (.ref 166) [.ref ix]) Q E s:=by
  obtain ⟨k0,k1,k2,k3,k4,k5,k6,k7,k8,k9,k10,k11,k12,k13,k14,t0,t1,t2,t3,t5,t6,t7,t8,t9,t10,t11,t12,t13,t14,hoi⟩:=I
  subst hoi
  refine wpAny_call ?_
  k_dflt cell_enter
  k_steps
  exact hret _ _ _ _ _ _ _ _ _ (by assumption) (by assumption) (keepBut_of (by assumption) (by assumption)) (fresh_1 (by assumption) (by assumption) (by k_ne) (by k_ne))
end
end
end
section
set_option Elab.async false
set_option maxRecDepth 100000
set_option maxHeartbeats 4000000
set_option linter.unusedVariables false
set_option pp.deepTerms false
set_option pp.maxSteps 2000
theorem be_dec {bs:List Int} {b:Bool} (h:bs=[]↔b=true):decide (bs=[])=b:=by
  cases b with
  | true=>exact decide_eq_true (h.mpr rfl)
  | false=>exact decide_eq_false fun e=>Bool.false_ne_true (h.mp e)
def bearsB (f:Int) (g:Nat→Int) (k:Nat):Bool:=(List.range k).all fun i=>bit f i || decide (g i=0)
theorem bearsB_succ (f:Int) (g:Nat→Int) (k:Nat):bearsB f g (k+1)=(bearsB f g k && (bit f k || decide (g k=0))):=by
  unfold bearsB
  rw [List.range_succ,List.all_append]
  simp
theorem bearsB_iff {f:Int} {g:Nat→Int} {k:Nat}:bearsB f g k=true↔∀ i,i<k→bit f i=true∨g i=0:=by
  unfold bearsB
  rw [List.all_eq_true]
  constructor
  · intro h i hi
    have:=h i (List.mem_range.mpr hi)
    simpa using this
  · intro h i hi
    have:=h i (List.mem_range.mp hi)
    simpa using this
abbrev rowT (x1 x2 x3 x4:Int) (q1 q2 q3 q4:Tok):Obj:=tupOf #[.int x1 q1,.int x2 q2,.int x3 q3,.int x4 q4]
def BeJ (c1 c2 r:Addr) (o1 o2 orr:Obj) (f:Int) (g:Nat→Int) (i:Nat) (ys:List PySem.Value) (nx:List (Addr×Obj)):Prop :=
  ∃ bs:List Int,IntsAre ys bs∧bs.length≤i∧(bs=[]↔bearsB f g i=true)∧nx=[(c1,o1),(c2,o2),(r,orr)]
theorem beJ0 {c1 c2 r:Addr} {o1 o2 orr:Obj} {f:Int} {g:Nat→Int}:BeJ c1 c2 r o1 o2 orr f g 0 [] [(c1,o1),(c2,o2),(r,orr)]:=⟨[],.nil,Nat.le_refl _,by simp [bearsB],rfl⟩
theorem be_yes {c1 c2 r:Addr} {o1 o2 orr:Obj} {f:Int} {g:Nat→Int} {i:Nat} {ys:List PySem.Value} {nx:List (Addr×Obj)} {n:Int} {t:Tok} (h:BeJ c1 c2 r o1 o2 orr f g i ys nx) (hg:¬ g i=0) (hb:¬ bit f i=true):BeJ c1 c2 r o1 o2 orr f g (i+1) (ys++[.int n t]) nx:=by
  obtain ⟨bs,h1,h2,h3,h4⟩:=h
  refine ⟨bs++[n],h1.append (.cons _ _ .nil),by simp;omega, ?_,h4⟩
  rw [bearsB_succ]
  simp [hg,hb]
theorem be_no {c1 c2 r:Addr} {o1 o2 orr:Obj} {f:Int} {g:Nat→Int} {i:Nat} {ys:List PySem.Value} {nx:List (Addr×Obj)} (h:BeJ c1 c2 r o1 o2 orr f g i ys nx) (hg:g i=0∨bit f i=true):BeJ c1 c2 r o1 o2 orr f g (i+1) ys nx:=by
  obtain ⟨bs,h1,h2,h3,h4⟩:=h
  refine ⟨bs,h1,by omega, ?_,h4⟩
  rw [bearsB_succ,h3]
  rcases hg with q|q <;> simp [q]
theorem fv_getD {x1 x2 x3 x4:Int} {i:Nat} (hi:i<4):[x1,x2,x3,x4].getD (0+(i:Int)).toNat 0=fv x1 x2 x3 x4 i:=by
  rw [show (0+(i:Int)).toNat=i by omega]
  match i,hi with
  | 0,_|1,_|2,_|3,_=>rfl
theorem be_cond {f:Int} {k:Nat}:(f.fdiv (2 ^ (0+(k:Int)).toNat)).fmod 2=0↔¬ bit f k=true:=by
  rw [show (0+(k:Int)).toNat=k by omega,fdiv_pow,Int.fmod_eq_emod_of_nonneg _ (by decide)]
  simp [bit]
  omega
section
set_option maxHeartbeats 4000000
abbrev bears_c_S {w:World} {p:Program} {loose:List Str} {mean:ExcName→Option Value} {mg mb:Str→Option Value} {dp un:Nat} {gd:Option (List Code)} {cn:Str} {cs:Scope} {a:Addr} {ccd:Value} {cl:List (Str×Addr)} {outer:List Env} {A₀:Around} {base h₀:Heap} {L:Addr} {m:Str→Option Value} {s:Shared} {Q E:Value→Shared→Prop} {r:Addr} {x1 x2 x3 x4:Int} {q1 q2 q3 q4 tf:Tok} {f:Int}:Prop:=∀ (B:Below A₀ base outer h₀) (F:Fr h₀ L s.heap m) (X:(hd.heap_39 w.params).In h₀) (N:News h₀ L s.heap [(r,rowT x1 x2 x3 x4 q1 q2 q3 q4)]) (T:Top p loose mean mg mb h₀) (hk:cs.kind=.function) (hd:dp+4<recursionLimit) (hu:un+200<cLine) (hf:0≤f) (hret:∀ h' tk',Fr h₀ L h' m→News h₀ L h' [(r,rowT x1 x2 x3 x4 q1 q2 q3 q4)]→KeepBut [r] s.heap h'→Q (.bool (bearsB f (fv x1 x2 x3 x4) 4)) {s with heap:=h',toks:=tk'}),
    wpAny (model PySem.Challenge.rw_nu0167_01.row.prog w) (ktrTop dp un gd cn cs L a ccd cl outer) (call (.ref 426) [.int f tf,.ref r]) Q E s
namespace bears_c_E
noncomputable section
def ep:=U fun w=>U fun p=>U fun loose=>U fun mean=>U fun mg=>U fun mb=>U fun dp=>U fun un=>U fun gd=>U fun cn=>U fun cs=>U fun a=>U fun ccd=>U fun cl=>U fun outer=>U fun A₀=>U fun base=>U fun h₀=>U fun L=>U fun m=>U fun s=>U fun Q=>U fun E=>U fun r=>U fun x1=>U fun x2=>U fun x3=>U fun x4=>U fun q1=>U fun q2=>U fun q3=>U fun q4=>U fun tf=>fun f=>¬ @bears_c_S w p loose mean mg mb dp un gd cn cs a ccd cl outer A₀ base h₀ L m s Q E r x1 x2 x3 x4 q1 q2 q3 q4 tf f
def ec:=pick ep (sW,df,[],df,df,df,0,0,none,df,df,0,df,[],[],callerA,{},{},0,df,{},df,df,0,0,0,0,0,0,0,0,0,0,0)
@[irreducible] def w:=ec.1
@[irreducible] def p:=ec.2.1
@[irreducible] def loose:=ec.2.2.1
@[irreducible] def mean:=ec.2.2.2.1
@[irreducible] def mg:=ec.2.2.2.2.1
@[irreducible] def mb:=ec.2.2.2.2.2.1
@[irreducible] def dp:=ec.2.2.2.2.2.2.1
def ec1:=ec.2.2.2.2.2.2.2
@[irreducible] def un:=ec1.1
@[irreducible] def gd:=ec1.2.1
@[irreducible] def cn:=ec1.2.2.1
@[irreducible] def cs:=ec1.2.2.2.1
@[irreducible] def a:=ec1.2.2.2.2.1
@[irreducible] def ccd:=ec1.2.2.2.2.2.1
@[irreducible] def cl:=ec1.2.2.2.2.2.2.1
def ec2:=ec1.2.2.2.2.2.2.2
@[irreducible] def outer:=ec2.1
@[irreducible] def A₀:=ec2.2.1
@[irreducible] def base:=ec2.2.2.1
@[irreducible] def h₀:=ec2.2.2.2.1
@[irreducible] def L:=ec2.2.2.2.2.1
@[irreducible] def m:=ec2.2.2.2.2.2.1
@[irreducible] def s:=ec2.2.2.2.2.2.2.1
def ec3:=ec2.2.2.2.2.2.2.2
@[irreducible] def Q:=ec3.1
@[irreducible] def E:=ec3.2.1
@[irreducible] def r:=ec3.2.2.1
@[irreducible] def x1:=ec3.2.2.2.1
@[irreducible] def x2:=ec3.2.2.2.2.1
@[irreducible] def x3:=ec3.2.2.2.2.2.1
@[irreducible] def x4:=ec3.2.2.2.2.2.2.1
def ec4:=ec3.2.2.2.2.2.2.2
@[irreducible] def q1:=ec4.1
@[irreducible] def q2:=ec4.2.1
@[irreducible] def q3:=ec4.2.2.1
@[irreducible] def q4:=ec4.2.2.2.1
@[irreducible] def tf:=ec4.2.2.2.2.1
@[irreducible] def f:=ec4.2.2.2.2.2
def st:Σ' R:Heap→Addr→Heap→Nat→Obj→Obj→Prop,((∀ gZ LZ hZ kZ oZ pZ,R gZ LZ hZ kZ oZ pZ)→@bears_c_S w p loose mean mg mb dp un gd cn cs a ccd cl outer A₀ base h₀ L m s Q E r x1 x2 x3 x4 q1 q2 q3 q4 tf f):=⟨_,fun kk=>by
  intro B F X N T hk hd hu hf hret
  refine wpAny_call ?_
  k_dflt cell_enter
  rename_i gZ LZ hZ kZ _ _ _ _ _ _ _ oZ pZ _ _ _
  (repeat (rename_i zz;revert zz))
  revert B F X N T hk hd hu hf hret
  exact kk gZ LZ hZ kZ oZ pZ⟩
def eq:=U fun gZ=>U fun LZ=>U fun hZ=>U fun kZ=>U fun oZ=>fun pZ=>¬ st.1 gZ LZ hZ kZ oZ pZ
def er:=pick eq ({},0,{},0,df,df)
@[irreducible] def gZ:=er.1
@[irreducible] def LZ:=er.2.1
@[irreducible] def hZ:=er.2.2.1
@[irreducible] def kZ:=er.2.2.2.1
@[irreducible] def oZ:=er.2.2.2.2.1
@[irreducible] def pZ:=er.2.2.2.2.2
theorem el:st.1 gZ LZ hZ kZ oZ pZ:=by
  intro B F X N T hk hd hu hf hret _ _ _ _ _ _ _ _ _ _
  (repeat' (first|(k_unfold;(try dsimp only))|(k_end;wrow_close)|((with_reducible show LCt.CompSrcT ..);(k_here;(rename News _ _ _ _=>nS);k_dflt (refine LCt.CompSrcT.range (n:=4) (by rfl) (by k_asm) nS (by assumption) (by decide) (by rfl) (by decide) ?_;intro g9);k_dflt (refine comp_indT (BeJ _ _ r _ _ _ f (fv x1 x2 x3 x4)) ?fin9 ?step9 4 0 [] _ rfl beJ0);(all_goals (first|(intro i ys nx v I oI C oC D m2 h tk E' hi hJ hP hC hx F N off ne;(have hJ2:=hJ);obtain ⟨t9,hv⟩:=hP;subst hv;obtain ⟨bs,hb1,hb2,hb3,hnx⟩:=hJ;subst hnx;(simp only [LCg.Off3,and_true] at off);(obtain ⟨⟨o91,o92,o93⟩,⟨o94,o95,o96⟩,o97,o98,o99⟩:=off);clear nS)|(intro ys nx hJ;obtain ⟨bs,hbi,hbl,hbiff,rfl⟩:=hJ)))))|((with_reducible show wpAny _ _ (eval (Expr.ListComp ..) _) _ _ _);(with_reducible (k_here;k_dflt (refine LCt.ListComp_T (F₀:=by k_asm) (by with_unfolding_all rfl) (by decide) (by rfl) (by decide) (by rfl) ?_))))|((with_reducible show wpAny _ _ (compareOp CmpOp.Eq (Value.ref _) (Value.ref _)) _ _ _);with_reducible ((k_here;(with_reducible show wpAny _ _ (compareOp CmpOp.Eq (Value.ref _) (Value.ref _)) _ _ _);(rename News _ _ _ _=>nE);k_dflt (refine eq_intsK (ns:=bs) (ms:=[]) (News.isList nE (by k_mem)) hbi (News.isList nE (by k_mem)) .nil (by ktr_units) ?_);rw [be_dec hbiff])))|walk1|(dsimp only;walk1)|(dsimp only;walk1)|(leave1;walk_say "STEP leave1";try dsimp only)|fail "no step"))
  all_goals (first
    | exact hret _ _ (by assumption) (news_sub (by assumption) (by k_allIn)) (keepBut_of (by assumption) (by assumption))
    | exact be_yes hJ2 (fun q=>absurd ((fv_getD hi).trans q) (by assumption)) (be_cond.mp (by assumption))
    | exact be_no hJ2 (.inl ((fv_getD hi).symm.trans (Decidable.byContradiction (by assumption))))
    | exact be_no hJ2 (.inl ((fv_getD hi).symm.trans (by assumption)))
    | exact be_no hJ2 (.inr (Decidable.byContradiction fun q=>absurd (be_cond.mpr q) (by assumption))))
theorem ek:@bears_c_S w p loose mean mg mb dp un gd cn cs a ccd cl outer A₀ base h₀ L m s Q E r x1 x2 x3 x4 q1 q2 q3 q4 tf f:=st.2 fun gZ LZ hZ kZ oZ pZ=>@Classical.byContradiction _ fun h=>pick_all (P:=eq) (by with_unfolding_all exact fun k=>k @el) (gZ,LZ,hZ,kZ,oZ,pZ) h
end
end bears_c_E
theorem bears_c {w:World} {p:Program} {loose:List Str} {mean:ExcName→Option Value} {mg mb:Str→Option Value} {dp un:Nat} {gd:Option (List Code)} {cn:Str} {cs:Scope} {a:Addr} {ccd:Value} {cl:List (Str×Addr)} {outer:List Env} {A₀:Around} {base h₀:Heap} {L:Addr} {m:Str→Option Value} {s:Shared} {Q E:Value→Shared→Prop} {r:Addr} {x1 x2 x3 x4:Int} {q1 q2 q3 q4 tf:Tok} {f:Int}:@bears_c_S w p loose mean mg mb dp un gd cn cs a ccd cl outer A₀ base h₀ L m s Q E r x1 x2 x3 x4 q1 q2 q3 q4 tf f:=@Classical.byContradiction _ fun h=>pick_all (P:=bears_c_E.ep) (by with_unfolding_all exact fun k=>k @bears_c_E.ek) (w,p,loose,mean,mg,mb,dp,un,gd,cn,cs,a,ccd,cl,outer,A₀,base,h₀,L,m,s,Q,E,r,x1,x2,x3,x4,q1,q2,q3,q4,tf,f) h
end
end
local macro_rules | `(tactic| k_allIn)=>`(tactic| first|exact List.forall_mem_nil _|(refine List.forall_mem_cons.mpr ⟨by k_memK, ?_⟩;k_allIn)|(intro p9 hp9;(repeat (first|exact hp9|refine List.Mem.tail _ ?_))))
section
set_option Elab.async false
set_option maxRecDepth 100000
set_option maxHeartbeats 4000000
set_option linter.unusedVariables false
set_option pp.deepTerms false
set_option pp.maxSteps 2000
structure VR where
  a:Addr
  d:Addr
  o:Obj
  x1:Int
  x2:Int
  x3:Int
  x4:Int
abbrev VR.g (v:VR):Nat→Int:=fv v.x1 v.x2 v.x3 v.x4
def vled:List VR→List (Addr×Obj)
  | []=>[]
  | v::r=>(v.a,instObj 94 v.d)::(v.d,v.o)::vled r
def vrefs (VS:List VR):List PySem.Value:=VS.map fun v=>.ref v.a
theorem vled_mem {v:VR}:∀ {VS:List VR},v∈VS→(v.a,instObj 94 v.d)∈vled VS∧(v.d,v.o)∈vled VS
  | _::_,h=>by
    rcases List.mem_cons.mp h with rfl|h
    · exact ⟨.head _,.tail _ (.head _)⟩
    · exact ⟨.tail _ (.tail _ (vled_mem h).1),.tail _ (.tail _ (vled_mem h).2)⟩
theorem vrefs_at {VS:List VR} {i:Nat} {v:PySem.Value} (h:(vrefs VS)[i]? = some v):∃ x,VS[i]? = some x∧x∈VS∧v=.ref x.a:=by
  unfold vrefs at h
  rw [List.getElem?_map] at h
  obtain ⟨x,hx,e⟩:=Option.map_eq_some_iff.mp h
  exact ⟨x,hx,List.mem_of_getElem? hx,e.symm⟩
def orF (g:Nat→Int) (m:Nat):Nat→Nat
  | 0=>m
  | k+1=>orF g m k ||| if g k=0 then 0 else 2 ^ k
def fmL:Nat→List VR→Nat
  | m,[]=>m
  | m,v::r=>fmL (orF v.g m 4) r
theorem fmL_snoc:∀ (l:List VR) (m:Nat) (v:VR),fmL m (l++[v])=orF v.g (fmL m l) 4
  | [],_,_=>rfl
  | x::r,m,v=>fmL_snoc r _ v
theorem fmL_take {VS:List VR} {i:Nat} {v:VR} (h:VS[i]? = some v):fmL 0 (VS.take (i+1))=orF v.g (fmL 0 (VS.take i)) 4:=by
  rw [List.take_add_one,h]
  exact fmL_snoc _ _ _
theorem keep_same {adr:List Addr} {h h':Heap} (k:KeepBut adr h h') (e:∀ a∈adr,∀ o,h.get? a=some o→h'.get? a=some o):KeepBut [] h h':=fun b o hb _=>by
  by_cases hm:b∈adr
  · exact e b hm o hb
  · exact k b o hb hm
theorem same_two {g h h':Heap} {L a b:Addr} {x y:Obj} {r r':List (Addr×Obj)} (N:News g L h ((a,x)::(b,y)::r)) (N':News g L h' ((a,x)::(b,y)::r')):∀ c∈[a,b],∀ o,h.get? c=some o→h'.get? c=some o:=fun c hc o ho=>by
  rcases List.mem_cons.mp hc with rfl|hc
  · have z:=(N _ (.head _)).1
    rw [ho] at z
    cases z
    exact (N' _ (.head _)).1
  · rw [List.mem_singleton.mp hc] at ho ⊢
    have z:=(N _ (.tail _ (.head _))).1
    rw [ho] at z
    cases z
    exact (N' _ (.tail _ (.head _))).1
theorem two_more {p q:Addr×Obj} {x y:Addr×Obj} {l:List (Addr×Obj)} (hp:p∈l) (hq:q∈l):∀ z∈p::q::x::y::l,z∈x::y::l:=fun z hz=>by
  rcases List.mem_cons.mp hz with rfl|hz
  · exact .tail _ (.tail _ hp)
  rcases List.mem_cons.mp hz with rfl|hz
  · exact .tail _ (.tail _ hq)
  exact hz
theorem GTurn.next1 {h₀:Heap} {L I:Addr} {oI:Obj} {m₀ m':Str→Option PySem.Value} {J:OedJ} {s₁:Shared} {Q:Flow→Shared→Prop} {h':Heap} {tk':Nat} {big nx':List (Addr×Obj)} {ps':List (Str×Option PySem.Value)} (F:Fr h₀ L h' m') (N:News h₀ L h' big) (hI:(I,oI)∈big) (hJ:J ps' nx') (hn:∀ p∈nx',p∈big) (ha:NeAll I nx') (hm:∀ y,m' y=oAt ps' m₀ y) :
    GTurn h₀ L m₀ [(I,oI)] [I] J s₁ Q .next {s₁ with heap:=h',toks:=tk'} :=
  ⟨h',tk',m',big,nx',ps',rfl,F,N,fun p hp=>by rw [List.mem_singleton.mp hp];exact hI,hn,neAll_to ha,hm,hJ⟩
theorem some_tok {g h:Heap} {L:Addr} {x:Str} {n:Int} {t:Tok} {m:Str→Option PySem.Value} (F:Fr g L h (fun y=>if y=x then some (.int n t) else m y)):∃ t',Fr g L h (fun y=>if y=x then some (.int n t') else m y):=⟨t,F⟩
def FoJ (lv:Addr) (lo:Obj) (VS:List VR) (i:Nat) (ps:List (Str×Option PySem.Value)) (nx:List (Addr×Obj)):Prop :=
  ∃ t o1 o2 o3,ps=[(Str.ofString "form",some (.int (fmL 0 (VS.take i):Nat) t)),(Str.ofString "value",o1),(Str.ofString "place",o2),(Str.ofString "field",o3)]∧nx=(lv,lo)::vled VS
def FiJ (tp I lv:Addr) (otp oI lo:Obj) (VS:List VR) (g:Nat→Int) (m:Nat) (vv:Option PySem.Value) (i:Nat) (ps:List (Str×Option PySem.Value)) (nx:List (Addr×Obj)):Prop :=
  ∃ t o2 o3,ps=[(Str.ofString "form",some (.int (orF g m i:Nat) t)),(Str.ofString "value",vv),(Str.ofString "place",o2),(Str.ofString "field",o3)]∧nx=(tp,otp)::(I,oI)::(lv,lo)::vled VS
theorem oAt_four (a b c d:Str) (v u x z:Option PySem.Value) (m:Str→Option PySem.Value):oAt [(a,v),(b,u),(c,x),(d,z)] m=fun y=>if y=a then v else if y=b then u else if y=c then x else if y=d then z else m y:=by
  funext y
  rw [oAt_cons,oAt_cons,oAt_cons,oAt_cons,oAt_nil]
theorem or_step {g:Nat→Int} {m k:Nat} (hg:¬ g k=0):Builtin.bitOr ((orF g m k:Nat):Int) (1*2 ^ (k:Int).toNat)=((orF g m (k+1):Nat):Int):=by
  have e:(1:Int)*2 ^ (k:Int).toNat=((2 ^ k:Nat):Int):=by
    rw [Int.one_mul,Int.toNat_natCast,Int.natCast_pow]
    rfl
  rw [e,bitOr_nat]
  show _=((orF g m k ||| (if g k=0 then 0 else 2 ^ k):Nat):Int)
  rw [if_neg hg]
theorem or_stay {g:Nat→Int} {m k:Nat} (hg:g k=0):orF g m (k+1)=orF g m k:=by
  show orF g m k ||| (if g k=0 then 0 else 2 ^ k)=_
  rw [if_pos hg,Nat.or_zero]
section
section
variable {w:World} {p:Program} {loose:List Str} {mean:ExcName→Option Value} {mg mb:Str→Option Value} {dp un:Nat} {gd:Option (List Code)} {cn:Str} {cs:Scope} {a:Addr} {ccd:Value} {cl:List (Str×Addr)} {outer:List Env} {A₀:Around} {base h₀:Heap} {L:Addr} {m:Str→Option Value} {s:Shared} {Q E:Value→Shared→Prop}
theorem told_k {v dv:Addr} {od:Obj} {x1 x2 x3 x4:Int} (V:ValIs w x1 x2 x3 x4 od) (B:Below A₀ base outer h₀) (F:Fr h₀ L s.heap m) (X:(hd.heap_39 w.params).In h₀) (N:News h₀ L s.heap [(v,instObj 94 dv),(dv,od)]) (T:Top p loose mean mg mb h₀) (hk:cs.kind=.function) (hd:dp+5<recursionLimit) (hu:un+40<cLine)
    (hret:∀ tp (t1 t2 t3 t4:Tok) h' tk',Fr h₀ L h' m→News h₀ L h' [(tp,tupOf #[.int x1 t1,.int x2 t2,.int x3 t3,.int x4 t4])]→KeepBut [] s.heap h'→Fresh s.heap tp→Q (.ref tp) {s with heap:=h',toks:=tk'}) :
    wpAny (model PySem.Challenge.rw_nu0167_01.row.prog w) (ktrTop dp un gd cn cs L a ccd cl outer) (call (.ref 84) [.ref v]) Q E s :=
  told_c B F X V N T hk hd hu fun tp t1 t2 t3 t4 h' tk' F' N' K' O'=>hret tp t1 t2 t3 t4 h' tk' F' (news_sub N' fun p hp=>by rw [List.mem_singleton.mp hp];exact .head _) (keep_same K' (same_two N (r':=[]) fun p hp=>N' p (.tail _ hp))) O'
theorem told_n {v dv:Addr} {od:Obj} {x1 x2 x3 x4:Int} (B:Below A₀ base outer h₀) (F:Fr h₀ L s.heap m) (X:(hd.heap_39 w.params).In h₀) (N:News h₀ L s.heap [(v,instObj 94 dv),(dv,od)]) (T:Top p loose mean mg mb h₀) (hk:cs.kind=.function) (hd:dp+5<recursionLimit) (hu:un+40<cLine) (V:ValIs w x1 x2 x3 x4 od)
    (hret:∀ tp (t1 t2 t3 t4:Tok) h' tk',Fr h₀ L h' m→News h₀ L h' [(tp,tupOf #[.int x1 t1,.int x2 t2,.int x3 t3,.int x4 t4])]→KeepBut [] s.heap h'→Fresh s.heap tp→Q (.ref tp) {s with heap:=h',toks:=tk'}) :
    wpAny (model PySem.Challenge.rw_nu0167_01.row.prog w) (ktrTop dp un gd cn cs L a ccd cl outer) (call (.ref 84) [.ref v]) Q E s :=
  told_k V B F X N T hk hd hu hret
end
set_option maxHeartbeats 4000000
abbrev form_of_c_S {w:World} {p:Program} {loose:List Str} {mean:ExcName→Option Value} {mg mb:Str→Option Value} {dp un:Nat} {cn:Str} {cs:Scope} {a:Addr} {ccd:Value} {cl:List (Str×Addr)} {outer:List Env} {A₀:Around} {base h₀:Heap} {L:Addr} {m:Str→Option Value} {s:Shared} {Q E:Value→Shared→Prop} {lv:Addr} {VS:List VR} {c:Nat}:Prop:=∀ (B:Below A₀ base outer h₀) (F:Fr h₀ L s.heap m) (X:(hd.heap_39 w.params).In h₀) (N:News h₀ L s.heap ((lv,W.listOf (vrefs VS).toArray c)::vled VS)) (T:Top p loose mean mg mb h₀) (hk:cs.kind=.function) (hd:dp+8<recursionLimit) (hu:un+100<cLine) (hV:∀ v∈VS,ValIs w v.x1 v.x2 v.x3 v.x4 v.o) (hret:∀ t h' tk',Fr h₀ L h' m→News h₀ L h' ((lv,W.listOf (vrefs VS).toArray c)::vled VS)→KeepBut (lv::(vled VS).map (·.1)) s.heap h'→Q (.int (fmL 0 VS:Nat) t) {s with heap:=h',toks:=tk'}),
    wpG (model PySem.Challenge.rw_nu0167_01.row.prog w) (ktrTop dp un (some []) cn cs L a ccd cl outer) (call (.ref 131) [.ref lv]) Q E s
namespace form_of_c_E
noncomputable section
def ep:=U fun w=>U fun p=>U fun loose=>U fun mean=>U fun mg=>U fun mb=>U fun dp=>U fun un=>U fun cn=>U fun cs=>U fun a=>U fun ccd=>U fun cl=>U fun outer=>U fun A₀=>U fun base=>U fun h₀=>U fun L=>U fun m=>U fun s=>U fun Q=>U fun E=>U fun lv=>U fun VS=>fun c=>¬ @form_of_c_S w p loose mean mg mb dp un cn cs a ccd cl outer A₀ base h₀ L m s Q E lv VS c
def ec:=pick ep (sW,df,[],df,df,df,0,0,df,df,0,df,[],[],callerA,{},{},0,df,{},df,df,0,[],0)
@[irreducible] def w:=ec.1
@[irreducible] def p:=ec.2.1
@[irreducible] def loose:=ec.2.2.1
@[irreducible] def mean:=ec.2.2.2.1
@[irreducible] def mg:=ec.2.2.2.2.1
@[irreducible] def mb:=ec.2.2.2.2.2.1
@[irreducible] def dp:=ec.2.2.2.2.2.2.1
def ec1:=ec.2.2.2.2.2.2.2
@[irreducible] def un:=ec1.1
@[irreducible] def cn:=ec1.2.1
@[irreducible] def cs:=ec1.2.2.1
@[irreducible] def a:=ec1.2.2.2.1
@[irreducible] def ccd:=ec1.2.2.2.2.1
@[irreducible] def cl:=ec1.2.2.2.2.2.1
@[irreducible] def outer:=ec1.2.2.2.2.2.2.1
def ec2:=ec1.2.2.2.2.2.2.2
@[irreducible] def A₀:=ec2.1
@[irreducible] def base:=ec2.2.1
@[irreducible] def h₀:=ec2.2.2.1
@[irreducible] def L:=ec2.2.2.2.1
@[irreducible] def m:=ec2.2.2.2.2.1
@[irreducible] def s:=ec2.2.2.2.2.2.1
@[irreducible] def Q:=ec2.2.2.2.2.2.2.1
def ec3:=ec2.2.2.2.2.2.2.2
@[irreducible] def E:=ec3.1
@[irreducible] def lv:=ec3.2.1
@[irreducible] def VS:=ec3.2.2.1
@[irreducible] def c:=ec3.2.2.2
def st:Σ' R:Heap→Addr→Heap→Prop,((∀ gZ LZ hZ,R gZ LZ hZ)→@form_of_c_S w p loose mean mg mb dp un cn cs a ccd cl outer A₀ base h₀ L m s Q E lv VS c):=⟨_,fun kk=>by
  intro B F X N T hk hd hu hV hret
  refine wpG_call ?_
  k_dflt cell_enter
  rename_i gZ LZ hZ _ _ _ _ _ _ _
  (repeat (rename_i zz;revert zz))
  revert B F X N T hk hd hu hV hret
  exact kk gZ LZ hZ⟩
def eq:=U fun gZ=>U fun LZ=>fun hZ=>¬ st.1 gZ LZ hZ
def er:=pick eq ({},0,{})
@[irreducible] def gZ:=er.1
@[irreducible] def LZ:=er.2.1
@[irreducible] def hZ:=er.2.2
theorem el:st.1 gZ LZ hZ:=by
  intro B F X N T hk hd hu hV hret _ _ _ _ _ _ _
  refine execsG_leaf ?_
  k_steps
  refine execsG_cons (ForG ?_)
  k_steps
  rename Fr _ _ _ _=>lF
  rename News _ _ _ _=>lN
  refine listG (vs:=vrefs VS) (FoJ lv _ VS) rfl lF lN rfl rfl [Str.ofString "form",Str.ofString "value",Str.ofString "place",Str.ofString "field"] ⟨_,_,_,_,rfl,rfl⟩ (fun _ hp=>hp) (fun i ps nx hJ=>by obtain ⟨_,_,_,_,_,rfl⟩:=hJ;exact .head _) (by passes_own) ?turn ?done
  case done =>
    intro ps nx h tk hJ F1 N1
    obtain ⟨t,o1,o2,o3,rfl,rfl⟩:=hJ
    rw [oAt_four] at F1
    dsimp only [envOf] at F1 N1
    clear lF lN
    dsimp only
    refine execsG_leaf ?_
    k_steps
    rw [show VS.take (vrefs VS).length=VS by rw [vrefs,List.length_map,List.take_length]]
    exact hret _ _ _ (by assumption) (by assumption) (keepBut_of (by assumption) (by assumption))
  case turn =>
    intro i v' ps nx I oI h tk hv ne1 hJ F1 N1
    obtain ⟨t,o1,o2,o3,rfl,rfl⟩:=hJ
    obtain ⟨⟨va,vd,vo,x1,x2,x3,x4⟩,hVi,hVm,rfl⟩:=vrefs_at hv
    have V':=hV _ hVm
    have M1:=(vled_mem hVm).1
    have M2:=(vled_mem hVm).2
    dsimp only at V' M1 M2
    obtain ⟨a1,a2,a3,a4,b1,b2,b3,b4,hod⟩:=V'
    subst hod
    have V':ValIs w x1 x2 x3 x4 _:=⟨a1,a2,a3,a4,b1,b2,b3,b4,rfl⟩
    rw [oAt_four] at F1
    dsimp only [envOf] at F1 N1
    have N2:News _ _ _ (_::_::_):=fun p hp=>N1 p (two_more M1 M2 p hp)
    clear lF lN N1
    k_steps
    refine execsG_cons (ForG ?_)
    (repeat' (first|(k_unfold;(try dsimp only))|(k_end;wrow_close)|((with_reducible show wpAny _ _ (call (Value.ref _) _) _ _ _);with_reducible (k_here;(try dsimp only [List.nil_append,List.cons_append]);(with_reducible show wpAny _ _ (call (Value.ref 84) _) _ _ _);(rename News _ _ _ _=>lN);k_dflt (refine' told_n (by k_asm) (by k_asm) (by k_asm) (by ((refine news_sub lN ?_);k_allIn)) (by k_asm) (by exact rfl) (by ktr_room) (by ktr_units) (by assumption) ?_);intro tp9 t91 t92 t93 t94 h9 tk9 F9 N9 K9 O9;(k_dflt (have N8:=rejoin lN K9 N9 (.all fun _ _ h=>nomatch h)));clear K9 N9;(simp only [List.cons_append,List.nil_append] at N8);(try k_sweep);(try dsimp only)))|walk1|(dsimp only;(with_reducible show wpAny _ _ (call (Value.ref _) _) _ _ _))|(dsimp only;walk1)|(leave1;walk_say "STEP leave1";try dsimp only)|fail "no step"))
    rename Fr _ _ _ _=>lF
    rename News _ _ _ _=>lN
    refine enumG (vs:=[.int x1 _,.int x2 _,.int x3 _,.int x4 _]) (FiJ _ I lv _ oI _ VS (fv x1 x2 x3 x4) (fmL 0 (VS.take i)) (some (.ref va))) rfl lF lN rfl rfl [Str.ofString "form",Str.ofString "value",Str.ofString "place",Str.ofString "field"] ⟨t,_,_,rfl,rfl⟩ (by k_allIn) (fun i ps nx hJ=>by obtain ⟨_,_,_,_,rfl⟩:=hJ;exact .head _) (by passes_own) ?turn2 ?done2
    case done2 =>
      intro ps nx h tk hJ F1 N1
      obtain ⟨t,o2,o3,rfl,rfl⟩:=hJ
      rw [oAt_four] at F1
      dsimp only [envOf] at F1 N1
      clear lF lN
      dsimp only
      refine execsG_nil ?_
      refine' GTurn.next1 ?FA ?NA ?hIA ?hJA ?hnA ?haA ?hmA
      case hJA=>exact ⟨t,some (.ref va),o2,o3,rfl,rfl⟩
      case FA=>exact F1
      case NA=>exact N1
      case hIA=>k_mem
      case hnA=>k_allIn
      case haA=>exact ne1
      case hmA =>
        rw [fmL_take hVi]
        exact (by
          intro y
          rw [oAt_four]
          dsimp only
          by_cases h1:y=Str.ofString "form"
          · subst h1;rfl
          by_cases h2:y=Str.ofString "value"
          · subst h2;rfl
          by_cases h3:y=Str.ofString "place"
          · subst h3;rfl
          by_cases h4:y=Str.ofString "field"
          · subst h4;rfl
          simp only [if_neg h1,if_neg h2,if_neg h3,if_neg h4])
    case turn2 =>
      intro j T tj v2 ps nx e I2 oe oI2 h tk hv2 hT ne2 ne3 ne4 hJ F1 N1
      obtain ⟨t,o2,o3,rfl,rfl⟩:=hJ
      obtain ⟨hj4,ti,rfl⟩:=vs_at hv2
      rw [oAt_four] at F1
      dsimp only [envOf] at F1 N1
      clear lF lN
      k_steps
      refine execsG_leaf ?_
      k_steps
      · dsimp only
        refine execsG_nil ?_
        rename Fr _ _ _ _=>eF
        rw [or_step (by assumption)] at eF
        obtain ⟨tB,eF⟩:=some_tok eF
        refine' GTurn.next2 ?FB ?NB ?heB ?hIB ?hJB ?hnB ?haB ?hbB ?hmB
        case hJB=>exact ⟨tB,some (.int (j:Int) tj),some (.int (fv x1 x2 x3 x4 j) ti),rfl,rfl⟩
        case FB=>exact eF
        case NB=>assumption
        case heB=>k_mem
        case hIB=>k_mem
        case hnB=>k_allIn
        case haB=>exact ne2
        case hbB=>exact ne3
        case hmB=>exact (by
          intro y
          rw [oAt_four]
          dsimp only
          by_cases h1:y=Str.ofString "form"
          · subst h1;rfl
          by_cases h2:y=Str.ofString "value"
          · subst h2;rfl
          by_cases h3:y=Str.ofString "place"
          · subst h3;rfl
          by_cases h4:y=Str.ofString "field"
          · subst h4;rfl
          simp only [if_neg h1,if_neg h2,if_neg h3,if_neg h4])
      · dsimp only
        refine execsG_nil ?_
        refine' GTurn.next2 ?FC ?NC ?heC ?hIC ?hJC ?hnC ?haC ?hbC ?hmC
        case hJC=>exact ⟨t,some (.int (j:Int) tj),some (.int (fv x1 x2 x3 x4 j) ti),rfl,rfl⟩
        case FC=>assumption
        case NC=>assumption
        case heC=>k_mem
        case hIC=>k_mem
        case hnC=>k_allIn
        case haC=>exact ne2
        case hbC=>exact ne3
        case hmC =>
          rw [or_stay (by assumption)]
          exact (by
          intro y
          rw [oAt_four]
          dsimp only
          by_cases h1:y=Str.ofString "form"
          · subst h1;rfl
          by_cases h2:y=Str.ofString "value"
          · subst h2;rfl
          by_cases h3:y=Str.ofString "place"
          · subst h3;rfl
          by_cases h4:y=Str.ofString "field"
          · subst h4;rfl
          simp only [if_neg h1,if_neg h2,if_neg h3,if_neg h4])
theorem ek:@form_of_c_S w p loose mean mg mb dp un cn cs a ccd cl outer A₀ base h₀ L m s Q E lv VS c:=st.2 fun gZ LZ hZ=>@Classical.byContradiction _ fun h=>pick_all (P:=eq) (by with_unfolding_all exact fun k=>k @el) (gZ,LZ,hZ) h
end
end form_of_c_E
theorem form_of_c {w:World} {p:Program} {loose:List Str} {mean:ExcName→Option Value} {mg mb:Str→Option Value} {dp un:Nat} {cn:Str} {cs:Scope} {a:Addr} {ccd:Value} {cl:List (Str×Addr)} {outer:List Env} {A₀:Around} {base h₀:Heap} {L:Addr} {m:Str→Option Value} {s:Shared} {Q E:Value→Shared→Prop} {lv:Addr} {VS:List VR} {c:Nat}:@form_of_c_S w p loose mean mg mb dp un cn cs a ccd cl outer A₀ base h₀ L m s Q E lv VS c:=@Classical.byContradiction _ fun h=>pick_all (P:=form_of_c_E.ep) (by with_unfolding_all exact fun k=>k @form_of_c_E.ek) (w,p,loose,mean,mg,mb,dp,un,cn,cs,a,ccd,cl,outer,A₀,base,h₀,L,m,s,Q,E,lv,VS,c) h
end
end
section
set_option Elab.async false
set_option maxRecDepth 100000
set_option maxHeartbeats 4000000
set_option linter.unusedVariables false
set_option pp.deepTerms false
set_option pp.maxSteps 2000
local macro_rules | `(tactic| cell_enter)=>`(tactic| (refine' enterSG ?k1 ?k2 ?k3 ?k4 ?k5 ?kA ?kF ?kK ?k6 ?k7 ?k8 ?k9 ?kB ?_ ?c2 ?c3 ?c4 ?c5;(case kA=>exact rfl);(case kF=>exact rfl);(case kK=>assumption);(case k1=>k_asm);(case k2=>k_asm);(case k3=>k_asm);(case k4=>k_asm);(case k5=>k_asm);(case k6=>k_is);(case k7=>k_is);(case k8=>ktr_room);(case k9=>exact BindsTo.of_eq rfl);(case c5=>decide);(case kB=>exact locs rfl);(case c2=>exact rfl);(case c3=>exact rfl);(case c4=>exact rfl);k_whole;intro g' L' h' FG' F' N' B' X' T' kG' nL';(try dsimp only);(try k_lift B');(try k_fold)))
theorem wrt_pre (g:Nat→Int) (f:Int) (k:Nat):∀ d,∃ r,wrt g f (k+d)=wrt g f k++r
  | 0=>⟨[],by rw [List.append_nil];rfl⟩
  | d+1=>by
    obtain ⟨r,hr⟩:=wrt_pre g f k d
    exact ⟨r++(if bit f (k+d)=true then oc2 (g (k+d)) else []),by
      show wrt g f (k+d)++_=_
      rw [hr,List.append_assoc]
      rfl⟩
theorem fld_back {g:Nat→Int} {f:Int} {k:Nat} (hk:k<4) (hr:-32768≤g k∧g k≤32767) (hb:bit f k=true∨g k=0):fld (wrt g f 4) f 0 k=g k:=by
  by_cases h:bit f k=true
  · obtain ⟨r,e⟩:=wrt_pre g f (k+1) (3 - k)
    rw [show k+1+(3 - k)=4 by omega,wrt_pos h,List.append_assoc] at e
    have hl:=wrt_len g f k
    unfold fld
    rw [if_pos h,e]
    have e0:(0+2*(bl f k:Int)).toNat=(wrt g f k).length:=by rw [hl];omega
    have g0:(wrt g f k++(oc2 (g k)++r)).getD (wrt g f k).length 0=g k % 65536 / 256:=by
      rw [List.getD_eq_getElem?_getD,List.getElem?_append_right (Nat.le_refl _),Nat.sub_self]
      rfl
    have g1:(wrt g f k++(oc2 (g k)++r)).getD ((wrt g f k).length+1) 0=g k % 65536 % 256:=by
      rw [List.getD_eq_getElem?_getD,List.getElem?_append_right (Nat.le_succ _),show (wrt g f k).length+1 - (wrt g f k).length=1 by omega]
      rfl
    unfold num2 sgn
    rw [e0,g0,g1]
    by_cases hs:256*(g k % 65536 / 256)+g k % 65536 % 256<32768
    · rw [if_pos hs];omega
    · rw [if_neg hs];omega
  · unfold fld
    rw [if_neg h]
    exact (hb.resolve_left h).symm
theorem bit_high {f:Int} (h0:0≤f) (h1:f<16) {k:Nat} (hk:4≤k):¬ bit f k=true:=by
  have h2:(16:Int)≤2 ^ k:=by
    obtain ⟨d,rfl⟩:=Nat.le.dest hk
    rw [Int.pow_add]
    have:(0:Int)<2 ^ d:=Int.pow_pos (by decide)
    show 16≤16*(2:Int) ^ d
    omega
  unfold bit
  rw [Int.ediv_eq_zero_of_lt h0 (Int.lt_of_lt_of_le h1 h2)]
  decide
theorem ones4 {f:Int} (h0:0≤f) (h1:f<16):ones f=bl f 4:=by
  rw [← bl_ones]
  rw [bl_succ,bl_succ,bl_succ,bl_succ,if_neg (bit_high h0 h1 (by omega)),if_neg (bit_high h0 h1 (by omega)),if_neg (bit_high h0 h1 (by omega)),if_neg (bit_high h0 h1 (by omega))]
  rfl
theorem wrt_all {g:Nat→Int} {f:Int} (h0:0≤f) (h1:f<16):(wrt g f 4).length=2*ones f:=by rw [wrt_len,ones4 h0 h1]
section
variable {M:Model} {A:Around} {E:PySem.Value→Shared→Prop} {s:Shared} {env:Env}
theorem AssignTupleSG {elts k tpos value pos} {names:List Str} {Q:Flow→Shared→Prop}
    (h:wpG M A (eval value env) (fun v s₁=>wpAny M A (unpackItems v names.length none) (fun items s₂=>wpAny M A (assignInOrder (names.reverse.map fun n=>bindName env n) items.reverse) (fun _=>Q .next) E s₂) E s₁) E s)
    (hs:swapsWithSole [.Tuple elts k tpos] value pos.line env=pure false:=by rfl)
    (hw:swappedStores [.Tuple elts k tpos] value env=pure (some names):=by rfl) :
    wpG M A (exec (.Assign [.Tuple elts k tpos] value pos) env) Q E s:=by
  rw [exec_Assign]
  refine wpG_standAt ?_
  rw [hs]
  refine wpG_bindA (wpAny_pure ?_)
  rw [if_neg (by decide)]
  refine wpG_bind (wpG_mono h (fun v s₁ h₁=>?_) fun _ _ x=>x)
  rw [hw]
  refine wpG_bindA (wpAny_pure (wpG_of ?_))
  show wpAny M A (do rule "assign.swapped-stores";let items ← unpackItems v names.length none;assignInOrder (names.reverse.map fun n=>bindName env n) items.reverse;pure .next) Q E s₁
  exact wpAny_bind (wpAny_rule (wpAny_bind (wpAny_mono h₁ (fun items s₂ h₂=>wpAny_bind (wpAny_mono h₂ (fun _ _ x=>wpAny_pure x) fun _ _ x=>x)) fun _ _ x=>x)))
end
theorem keepLO {H g g' h':Heap} {L L' a:Addr} {cn:Str} {cs:Scope} {ccd:PySem.Value} {cl:List (Str×Addr)} {m:Str→Option PySem.Value} {adr:List Addr} (kG:GSub H g adr) (T:KtsTurn ([envX cn cs L a ccd cl].filterMap (·.frame)) g g') (F:Fr g' L' h' m):KeepBut (L::adr) H h':=fun b o e n =>
  F.keep b o (T.other b o (kG b o e (fun h=>n (.tail _ h))) fun hm=>n (by rw [mem_env1 rfl hm];exact .head _))
theorem freshLO {H g g' h' hh:Heap} {L L' a x:Addr} {cn:Str} {cs:Scope} {ccd:PySem.Value} {cl:List (Str×Addr)} {o o2:Obj} {rest rest':List (Addr×Obj)} {h₀:Heap} {adr:List Addr} (kG:GSub H g adr) (T:KtsTurn ([envX cn cs L a ccd cl].filterMap (·.frame)) g g') (N:News g' L' h' ((x,o)::rest)) (N₀:News h₀ L hh ((x,o2)::rest')) (hx:∀ z∈adr,@Ne Nat z x):Fresh H x:=by
  intro b o' z q
  have q':b=x:=q
  subst q'
  have z1:=kG b o' z (fun h=>hx b h rfl)
  have z2:=T.other b o' z1 fun hm=>(N₀ _ (.head _)).2.1 (mem_env1 rfl hm)
  have z3:=(N _ (.head _)).2.2
  rw [z2] at z3;cases z3
theorem ne_two {v dv x:Addr} (h1:@Ne Nat v x) (h2:@Ne Nat dv x):∀ z∈[v,dv],@Ne Nat z x:=fun z hz=>by
  rcases List.mem_cons.mp hz with rfl|hz
  · exact h1
  · rw [List.mem_singleton.mp hz];exact h2
section
set_option maxHeartbeats 6000000
abbrev written_ok_S {w:World} {p:Program} {loose:List Str} {mean:ExcName→Option Value} {mg mb:Str→Option Value} {dp un:Nat} {cn:Str} {cs:Scope} {a:Addr} {ccd:Value} {cl:List (Str×Addr)} {A₀:Around} {base h₀:Heap} {L:Addr} {m:Str→Option Value} {s:Shared} {Q E:Value→Shared→Prop} {v dv:Addr} {x1 x2 x3 x4:Int} {tf:Tok} {f:Int}:Prop:=∀ (B:Below A₀ base [] h₀) (F:Fr h₀ L s.heap m) (X:(hd.heap_39 w.params).In h₀) {od:Obj} (V:ValIs w x1 x2 x3 x4 od) (N:News h₀ L s.heap [(v,instObj 94 dv),(dv,od)]) (T:Top p loose mean mg mb h₀) (hk:cs.kind=.function) (hd:dp+16<recursionLimit) (hu:un+180<cLine) (hvd:@Ne Nat v dv) (r1:-32768≤x1∧x1≤32767) (r2:-32768≤x2∧x2≤32767) (r3:-32768≤x3∧x3≤32767) (r4:-32768≤x4∧x4≤32767) (hf:0≤f) (hf2:f<16) (hbear:∀ i,i<4→bit f i=true∨fv x1 x2 x3 x4 i=0) (hret:∀ tp tq (t1 q1 q2 q3 q4:Tok) h' tk',Fr h₀ L h' m→News h₀ L h' [(tp,tupOf #[.int (2*(ones f:Int)) t1,.ref tq]),(tq,tupOf #[.int x1 q1,.int x2 q2,.int x3 q3,.int x4 q4]),(v,instObj 94 dv),(dv,od)]→KeepBut [L,v,dv] s.heap h'→Fresh s.heap tp→Fresh s.heap tq→Q (.ref tp) {s with heap:=h',toks:=tk'}),
    wpG (model PySem.Challenge.rw_nu0167_01.row.prog w) (ktrTop dp un (some []) cn cs L a ccd cl []) (call (.ref 421) [.ref v,.int f tf]) Q E s
namespace written_ok_E
noncomputable section
def ep:=U fun w=>U fun p=>U fun loose=>U fun mean=>U fun mg=>U fun mb=>U fun dp=>U fun un=>U fun cn=>U fun cs=>U fun a=>U fun ccd=>U fun cl=>U fun A₀=>U fun base=>U fun h₀=>U fun L=>U fun m=>U fun s=>U fun Q=>U fun E=>U fun v=>U fun dv=>U fun x1=>U fun x2=>U fun x3=>U fun x4=>U fun tf=>fun f=>¬ @written_ok_S w p loose mean mg mb dp un cn cs a ccd cl A₀ base h₀ L m s Q E v dv x1 x2 x3 x4 tf f
def ec:=pick ep (sW,df,[],df,df,df,0,0,df,df,0,df,[],callerA,{},{},0,df,{},df,df,0,0,0,0,0,0,0,0)
@[irreducible] def w:=ec.1
@[irreducible] def p:=ec.2.1
@[irreducible] def loose:=ec.2.2.1
@[irreducible] def mean:=ec.2.2.2.1
@[irreducible] def mg:=ec.2.2.2.2.1
@[irreducible] def mb:=ec.2.2.2.2.2.1
@[irreducible] def dp:=ec.2.2.2.2.2.2.1
def ec1:=ec.2.2.2.2.2.2.2
@[irreducible] def un:=ec1.1
@[irreducible] def cn:=ec1.2.1
@[irreducible] def cs:=ec1.2.2.1
@[irreducible] def a:=ec1.2.2.2.1
@[irreducible] def ccd:=ec1.2.2.2.2.1
@[irreducible] def cl:=ec1.2.2.2.2.2.1
@[irreducible] def A₀:=ec1.2.2.2.2.2.2.1
def ec2:=ec1.2.2.2.2.2.2.2
@[irreducible] def base:=ec2.1
@[irreducible] def h₀:=ec2.2.1
@[irreducible] def L:=ec2.2.2.1
@[irreducible] def m:=ec2.2.2.2.1
@[irreducible] def s:=ec2.2.2.2.2.1
@[irreducible] def Q:=ec2.2.2.2.2.2.1
@[irreducible] def E:=ec2.2.2.2.2.2.2.1
def ec3:=ec2.2.2.2.2.2.2.2
@[irreducible] def v:=ec3.1
@[irreducible] def dv:=ec3.2.1
@[irreducible] def x1:=ec3.2.2.1
@[irreducible] def x2:=ec3.2.2.2.1
@[irreducible] def x3:=ec3.2.2.2.2.1
@[irreducible] def x4:=ec3.2.2.2.2.2.1
@[irreducible] def tf:=ec3.2.2.2.2.2.2.1
@[irreducible] def f:=ec3.2.2.2.2.2.2.2
def st:Σ' R:Tok→Tok→Tok→Tok→Tok→Tok→Tok→Tok→Heap→Addr→Heap→Prop,((∀ k1 k2 k3 k4 t1 t2 t3 t4 gZ LZ hZ,R k1 k2 k3 k4 t1 t2 t3 t4 gZ LZ hZ)→@written_ok_S w p loose mean mg mb dp un cn cs a ccd cl A₀ base h₀ L m s Q E v dv x1 x2 x3 x4 tf f):=⟨_,fun kk=>by
  intro B F X od V N T hk hd hu hvd r1 r2 r3 r4 hf hf2 hbear hret
  have V':=V
  obtain ⟨k1,k2,k3,k4,t1,t2,t3,t4,hod⟩:=V
  subst hod
  refine wpG_call ?_
  k_dflt cell_enter
  rename_i gZ LZ hZ _ _ _ _ _ _ _ _
  (repeat (rename_i zz;revert zz))
  revert B F X T hk hd hu hvd r1 r2 r3 r4 hf hf2 hbear N hret V'
  exact kk k1 k2 k3 k4 t1 t2 t3 t4 gZ LZ hZ⟩
def eq:=U fun k1=>U fun k2=>U fun k3=>U fun k4=>U fun t1=>U fun t2=>U fun t3=>U fun t4=>U fun gZ=>U fun LZ=>fun hZ=>¬ st.1 k1 k2 k3 k4 t1 t2 t3 t4 gZ LZ hZ
def er:=pick eq (0,0,0,0,0,0,0,0,{},0,{})
@[irreducible] def k1:=er.1
@[irreducible] def k2:=er.2.1
@[irreducible] def k3:=er.2.2.1
@[irreducible] def k4:=er.2.2.2.1
@[irreducible] def t1:=er.2.2.2.2.1
@[irreducible] def t2:=er.2.2.2.2.2.1
@[irreducible] def t3:=er.2.2.2.2.2.2.1
def er1:=er.2.2.2.2.2.2.2
@[irreducible] def t4:=er1.1
@[irreducible] def gZ:=er1.2.1
@[irreducible] def LZ:=er1.2.2.1
@[irreducible] def hZ:=er1.2.2.2
theorem el:st.1 k1 k2 k3 k4 t1 t2 t3 t4 gZ LZ hZ:=by
  intro B F X T hk hd hu hvd r1 r2 r3 r4 hf hf2 hbear N hret V' _ _ _ _ _ _ _ _
  refine execsG_cons (AssignTupleSG (TupleG (CallG ?_)))
  k_steps
  k_dflt (refine callWithG_K0 (K:=Mine.hd.heap_39 w.params) (by k_in) (by k_is) ?_)
  dsimp only [List.nil_append]
  k_dflt (refine' out_c ?B ?F ?X ?N ?T ?hk ?hd ?hu ?_;(case B=>k_asm);(case F=>k_asm);(case X=>k_asm);(case N=>exact News.nil);(case T=>k_asm);(case hk=>exact rfl);(case hd=>ktr_room);(case hu=>ktr_units))
  rename News _ _ _ _=>lN
  intro x dx b k h9 tk9 F9 N9 K9 Wx Wdx Wb n1 n2 n3
  have e1:=neFresh lN Wx
  have e2:=neFresh lN Wdx
  have e3:=neFresh lN Wb
  simp only [NeAll] at e1 e2 e3
  obtain ⟨n4,n5,_⟩:=e1
  obtain ⟨n6,n7,_⟩:=e2
  obtain ⟨n8,n9,_⟩:=e3
  have N8:=rejoin lN K9 N9 (.all fun p hp=>by simp)
  clear K9 N9 lN
  simp only [List.cons_append,List.nil_append] at N8
  (try k_sweep)
  (try dsimp only)
  k_steps
  refine execsG_cons (tryG (execsG_cons (ExprG (CallG ?_))))
  k_steps
  k_dflt (refine callWithG_K (K:=Mine.hd.heap_39 w.params) (by k_is) ?_)
  k_steps
  k_dflt (refine' write_ok (x:=x) (dx:=dx) (b:=b) (k:=k) ?B ?F ?X V' ?N ?T ?hk ?hd ?hu n1 n2 n3 (Ne.symm n4) (Ne.symm n5) (Ne.symm n6) (Ne.symm n7) (Ne.symm n8) (Ne.symm n9) r1 r2 r3 r4 hf hf2 hbear ?_;(case B=>k_asm);(case F=>k_asm);(case X=>k_asm);(case N=>((refine news_sub (by assumption) ?_);k_allIn));(case T=>k_asm);(case hk=>exact rfl);(case hd=>ktr_room);(case hu=>ktr_units))
  intro arr h9 tk9 ba9 F9 N9 K9
  clear K9
  (try k_sweep)
  (try dsimp only)
  refine execsG_nil ?_
  k_steps
  refine execsG_leaf ?_
  k_steps
  refine execsG_leaf ?_
  have hl9:=wrt_all (g:=fv x1 x2 x3 x4) hf hf2
  have hz9:(wrt (fv x1 x2 x3 x4) f 4).length≤1000:=by
    rw [wrt_len]
    have:=bl_le f 4
    omega
  have hs9:arr.size=2*ones f:=by rw [← hl9,← ba9];exact (KBw.ints_length arr).symm
  have hsl9:arr.size≤sizeLine:=by
    rw [hs9,← hl9,sizeLine_eq]
    omega
  (repeat' (first|(k_unfold;(try dsimp only))|(k_end;wrow_close)|((with_reducible show wpAny _ _ (call (Value.type "bytes") [Value.ref _]) _ _ _);with_reducible ((k_here;(with_reducible show wpAny _ _ (call (Value.type "bytes") [Value.ref _]) _ _ _);(rename News _ _ _ _=>nB');k_dflt (refine ba_bytes (News.get nB' (by k_mem)) (by assumption) ?_))))|((with_reducible show wpAny _ _ (call (Value.builtin "len") [Value.ref _]) _ _ _);with_reducible ((k_here;(with_reducible show wpAny _ _ (call (Value.builtin "len") [Value.ref _]) _ _ _);(rename News _ _ _ _=>nB');k_dflt (refine ba_len (News.get nB' (by k_mem)) (by assumption) ?_))))|((with_reducible show wpAny _ _ (call (Value.ref _) _) _ _ _);with_reducible (first|(k_here;(try dsimp only [List.nil_append,List.cons_append]);(with_reducible show wpAny _ _ (call (Value.ref 117) _) _ _ _);k_dflt (refine' read_value_ok (by k_asm) (by k_asm) (by k_asm) (by ((refine news_sub (by assumption) ?_);k_allIn)) (by k_asm) (by exact rfl) (by ktr_room) (by ktr_units) (by k_ne) (by assumption) (by assumption) (by omega) (by assumption) (by first|assumption|omega) ?_);intro v9 dv9 od9 t9' h9 tk9 V9 F9 N9 K9 W91 W92 W93;(have ne91:=neFresh (by assumption) W91);(have ne92:=neFresh (by assumption) W92);(simp only [NeAll] at ne91 ne92);(repeat (obtain ⟨q9,ne91⟩:=ne91));(repeat (obtain ⟨q9,ne92⟩:=ne92));(have N8:=rejoin (by assumption) K9 N9 (by k_dflt k_all));clear K9 N9;(simp only [List.cons_append,List.nil_append] at N8);(try k_sweep);(have V8:=V9);(k_dflt (obtain ⟨u1,u2,u3,u4,u5,u6,u7,u8,hod9⟩:=V9));(subst hod9);(try dsimp only))|(k_here;(try dsimp only [List.nil_append,List.cons_append]);(with_reducible show wpAny _ _ (call (Value.ref 84) _) _ _ _);k_dflt (refine' told_c (by k_asm) (by k_asm) (by k_asm) (by assumption) (by ((refine news_sub (by assumption) ?_);k_allIn)) (by k_asm) (by exact rfl) (by ktr_room) (by ktr_units) ?_);intro tp9 t91 t92 t93 t94 h9 tk9 F9 N9 K9 O9;(have ne93:=neFresh (by assumption) O9);(simp only [NeAll] at ne93);(repeat (obtain ⟨q9,ne93⟩:=ne93));(have N8:=rejoin (by assumption) K9 N9 (by k_dflt k_all));clear K9 N9;(simp only [List.cons_append,List.nil_append] at N8);(try k_sweep);(try dsimp only))))|walk1|(dsimp only;(with_reducible show wpAny _ _ (call (Value.ref _) _) _ _ _))|(dsimp only;walk1)|(leave1;walk_say "STEP leave1";try dsimp only)|fail "no step"))
  rename News h₀ _ _ _=>nE
  rw [show ((arr.size:Nat):Int)=2*(ones f:Int) by rw [hs9];omega,fld_back (k:=0) (by omega) r1 (hbear 0 (by omega)),fld_back (k:=1) (by omega) r2 (hbear 1 (by omega)),fld_back (k:=2) (by omega) r3 (hbear 2 (by omega)),fld_back (k:=3) (by omega) r4 (hbear 3 (by omega))] at nE
  exact hret _ _ _ _ _ _ _ _ _ (by assumption) (news_sub nE (by k_allIn)) (keepLO (cn:=cn) (cs:=cs) (a:=a) (ccd:=ccd) (cl:=cl) (by assumption) KtsTurn.refl (by assumption))
    (freshLO (cn:=cn) (cs:=cs) (a:=a) (ccd:=ccd) (cl:=cl) (by assumption) KtsTurn.refl (by assumption) nE (ne_two (by k_ne) (by k_ne))) (freshLO (cn:=cn) (cs:=cs) (a:=a) (ccd:=ccd) (cl:=cl) (by assumption) KtsTurn.refl (news_tl (by assumption)) (news_tl nE) (ne_two (by k_ne) (by k_ne)))
theorem ek:@written_ok_S w p loose mean mg mb dp un cn cs a ccd cl A₀ base h₀ L m s Q E v dv x1 x2 x3 x4 tf f:=st.2 fun k1 k2 k3 k4 t1 t2 t3 t4 gZ LZ hZ=>@Classical.byContradiction _ fun h=>pick_all (P:=eq) (by with_unfolding_all exact fun k=>k @el) (k1,k2,k3,k4,t1,t2,t3,t4,gZ,LZ,hZ) h
end
end written_ok_E
theorem written_ok {w:World} {p:Program} {loose:List Str} {mean:ExcName→Option Value} {mg mb:Str→Option Value} {dp un:Nat} {cn:Str} {cs:Scope} {a:Addr} {ccd:Value} {cl:List (Str×Addr)} {A₀:Around} {base h₀:Heap} {L:Addr} {m:Str→Option Value} {s:Shared} {Q E:Value→Shared→Prop} {v dv:Addr} {x1 x2 x3 x4:Int} {tf:Tok} {f:Int}:@written_ok_S w p loose mean mg mb dp un cn cs a ccd cl A₀ base h₀ L m s Q E v dv x1 x2 x3 x4 tf f:=@Classical.byContradiction _ fun h=>pick_all (P:=written_ok_E.ep) (by with_unfolding_all exact fun k=>k @written_ok_E.ek) (w,p,loose,mean,mg,mb,dp,un,cn,cs,a,ccd,cl,A₀,base,h₀,L,m,s,Q,E,v,dv,x1,x2,x3,x4,tf,f) h
end
end
section
set_option Elab.async false
set_option maxRecDepth 100000
set_option maxHeartbeats 4000000
set_option linter.unusedVariables false
set_option pp.deepTerms false
set_option pp.maxSteps 2000
local macro_rules | `(tactic| cell_enter)=>`(tactic| (refine' enterSG ?k1 ?k2 ?k3 ?k4 ?k5 ?kA ?kF ?kK ?k6 ?k7 ?k8 ?k9 ?kB ?_ ?c2 ?c3 ?c4 ?c5;(case kA=>exact rfl);(case kF=>exact rfl);(case kK=>assumption);(case k1=>k_asm);(case k2=>k_asm);(case k3=>k_asm);(case k4=>k_asm);(case k5=>k_asm);(case k6=>k_is);(case k7=>k_is);(case k8=>ktr_room);(case k9=>exact BindsTo.of_eq rfl);(case c5=>decide);(case kB=>exact locs rfl);(case c2=>exact rfl);(case c3=>exact rfl);(case c4=>exact rfl);k_whole;intro g' L' h' FG' F' N' B' X' T' kG' nL';(try dsimp only);(try k_lift B');(try k_fold)))
theorem own_in {x dx b v dv:Addr} {o1 o2:Obj}:∀ p∈[((v:Addr),o1),(dv,o2)],p.1∈[x,dx,b,v,dv]:=fun p hp=>by
  rcases List.mem_cons.mp hp with rfl|hp
  · simp
  · rw [List.mem_singleton.mp hp];simp
theorem adr_new {g h:Heap} {L x dx b v dv:Addr} {o1 o2 o3 o4 o5:Obj} (N:News g L h [(x,o1),(dx,o2),(b,o3),(v,o4),(dv,o5)]):∀ z∈[x,dx,b,v,dv],g.get? z=none:=fun z hz=>by
  simp only [List.mem_cons,List.not_mem_nil,or_false] at hz
  rcases hz with rfl|rfl|rfl|rfl|rfl
  · exact (N (z,o1) (by simp)).2.2
  · exact (N (z,o2) (by simp)).2.2
  · exact (N (z,o3) (by simp)).2.2
  · exact (N (z,o4) (by simp)).2.2
  · exact (N (z,o5) (by simp)).2.2
theorem adr_L {g h:Heap} {L x dx b v dv:Addr} {o1 o2 o3 o4 o5:Obj} (N:News g L h [(x,o1),(dx,o2),(b,o3),(v,o4),(dv,o5)]):L∉[x,dx,b,v,dv]:=fun hz=>by
  simp only [List.mem_cons,List.not_mem_nil,or_false] at hz
  rcases hz with q|q|q|q|q
  · exact (N (x,o1) (by simp)).2.1 q.symm
  · exact (N (dx,o2) (by simp)).2.1 q.symm
  · exact (N (b,o3) (by simp)).2.1 q.symm
  · exact (N (v,o4) (by simp)).2.1 q.symm
  · exact (N (dv,o5) (by simp)).2.1 q.symm
section
set_option maxHeartbeats 4000000
abbrev written_dev_S {w:World} {p:Program} {loose:List Str} {mean:ExcName→Option Value} {mg mb:Str→Option Value} {dp un:Nat} {cn:Str} {cs:Scope} {a:Addr} {ccd:Value} {cl:List (Str×Addr)} {A₀:Around} {base h₀:Heap} {L:Addr} {m:Str→Option Value} {s:Shared} {Q E:Value→Shared→Prop} {v dv:Addr} {x1 x2 x3 x4:Int} {tf:Tok} {f:Int}:Prop:=∀ (B:Below A₀ base [] h₀) (F:Fr h₀ L s.heap m) (X:(hd.heap_39 w.params).In h₀) (XB:(hd.heap_39 w.params).In base) (TB:Top p loose mean mg mb base) {od:Obj} (V:ValIs w x1 x2 x3 x4 od) (N:News h₀ L s.heap [(v,instObj 94 dv),(dv,od)]) (T:Top p loose mean mg mb h₀) (hk:cs.kind=.function) (hd:dp+16<recursionLimit) (hu:un+180<cLine) (hvd:@Ne Nat v dv) (hf:16≤f) (hret:∀ h' tk',Fr h₀ L h' m→News h₀ L h' [(v,instObj 94 dv),(dv,od)]→KeepBut [L,v,dv] s.heap h'→Q .none {s with heap:=h',toks:=tk'}),
    wpG (model PySem.Challenge.rw_nu0167_01.row.prog w) (ktrTop dp un (some []) cn cs L a ccd cl []) (call (.ref 421) [.ref v,.int f tf]) Q E s
namespace written_dev_E
noncomputable section
def ep:=U fun w=>U fun p=>U fun loose=>U fun mean=>U fun mg=>U fun mb=>U fun dp=>U fun un=>U fun cn=>U fun cs=>U fun a=>U fun ccd=>U fun cl=>U fun A₀=>U fun base=>U fun h₀=>U fun L=>U fun m=>U fun s=>U fun Q=>U fun E=>U fun v=>U fun dv=>U fun x1=>U fun x2=>U fun x3=>U fun x4=>U fun tf=>fun f=>¬ @written_dev_S w p loose mean mg mb dp un cn cs a ccd cl A₀ base h₀ L m s Q E v dv x1 x2 x3 x4 tf f
def ec:=pick ep (sW,df,[],df,df,df,0,0,df,df,0,df,[],callerA,{},{},0,df,{},df,df,0,0,0,0,0,0,0,0)
@[irreducible] def w:=ec.1
@[irreducible] def p:=ec.2.1
@[irreducible] def loose:=ec.2.2.1
@[irreducible] def mean:=ec.2.2.2.1
@[irreducible] def mg:=ec.2.2.2.2.1
@[irreducible] def mb:=ec.2.2.2.2.2.1
@[irreducible] def dp:=ec.2.2.2.2.2.2.1
def ec1:=ec.2.2.2.2.2.2.2
@[irreducible] def un:=ec1.1
@[irreducible] def cn:=ec1.2.1
@[irreducible] def cs:=ec1.2.2.1
@[irreducible] def a:=ec1.2.2.2.1
@[irreducible] def ccd:=ec1.2.2.2.2.1
@[irreducible] def cl:=ec1.2.2.2.2.2.1
@[irreducible] def A₀:=ec1.2.2.2.2.2.2.1
def ec2:=ec1.2.2.2.2.2.2.2
@[irreducible] def base:=ec2.1
@[irreducible] def h₀:=ec2.2.1
@[irreducible] def L:=ec2.2.2.1
@[irreducible] def m:=ec2.2.2.2.1
@[irreducible] def s:=ec2.2.2.2.2.1
@[irreducible] def Q:=ec2.2.2.2.2.2.1
@[irreducible] def E:=ec2.2.2.2.2.2.2.1
def ec3:=ec2.2.2.2.2.2.2.2
@[irreducible] def v:=ec3.1
@[irreducible] def dv:=ec3.2.1
@[irreducible] def x1:=ec3.2.2.1
@[irreducible] def x2:=ec3.2.2.2.1
@[irreducible] def x3:=ec3.2.2.2.2.1
@[irreducible] def x4:=ec3.2.2.2.2.2.1
@[irreducible] def tf:=ec3.2.2.2.2.2.2.1
@[irreducible] def f:=ec3.2.2.2.2.2.2.2
def st:Σ' R:Tok→Tok→Tok→Tok→Tok→Tok→Tok→Tok→Heap→Addr→Heap→Prop,((∀ k1 k2 k3 k4 t1 t2 t3 t4 gZ LZ hZ,R k1 k2 k3 k4 t1 t2 t3 t4 gZ LZ hZ)→@written_dev_S w p loose mean mg mb dp un cn cs a ccd cl A₀ base h₀ L m s Q E v dv x1 x2 x3 x4 tf f):=⟨_,fun kk=>by
  intro B F X XB TB od V N T hk hd hu hvd hf hret
  have V':=V
  obtain ⟨k1,k2,k3,k4,t1,t2,t3,t4,hod⟩:=V
  subst hod
  refine wpG_call ?_
  k_dflt cell_enter
  rename_i gZ LZ hZ _ _ _ _ _ _ _ _
  (repeat (rename_i zz;revert zz))
  revert B F X XB TB T hk hd hu hvd hf N hret V'
  exact kk k1 k2 k3 k4 t1 t2 t3 t4 gZ LZ hZ⟩
def eq:=U fun k1=>U fun k2=>U fun k3=>U fun k4=>U fun t1=>U fun t2=>U fun t3=>U fun t4=>U fun gZ=>U fun LZ=>fun hZ=>¬ st.1 k1 k2 k3 k4 t1 t2 t3 t4 gZ LZ hZ
def er:=pick eq (0,0,0,0,0,0,0,0,{},0,{})
@[irreducible] def k1:=er.1
@[irreducible] def k2:=er.2.1
@[irreducible] def k3:=er.2.2.1
@[irreducible] def k4:=er.2.2.2.1
@[irreducible] def t1:=er.2.2.2.2.1
@[irreducible] def t2:=er.2.2.2.2.2.1
@[irreducible] def t3:=er.2.2.2.2.2.2.1
def er1:=er.2.2.2.2.2.2.2
@[irreducible] def t4:=er1.1
@[irreducible] def gZ:=er1.2.1
@[irreducible] def LZ:=er1.2.2.1
@[irreducible] def hZ:=er1.2.2.2
theorem el:st.1 k1 k2 k3 k4 t1 t2 t3 t4 gZ LZ hZ:=by
  intro B F X XB TB T hk hd hu hvd hf N hret V' _ _ _ _ _ _ _ _
  refine execsG_cons (AssignTupleSG (TupleG (CallG ?_)))
  k_steps
  k_dflt (refine callWithG_K0 (K:=Mine.hd.heap_39 w.params) (by k_in) (by k_is) ?_)
  dsimp only [List.nil_append]
  k_dflt (refine' out_c ?B ?F ?X ?N ?T ?hk ?hd ?hu ?_;(case B=>k_asm);(case F=>k_asm);(case X=>k_asm);(case N=>exact News.nil);(case T=>k_asm);(case hk=>exact rfl);(case hd=>ktr_room);(case hu=>ktr_units))
  rename News _ _ _ _=>lN
  intro x dx b k h9 tk9 F9 N9 K9 Wx Wdx Wb n1 n2 n3
  have e1:=neFresh lN Wx
  have e2:=neFresh lN Wdx
  have e3:=neFresh lN Wb
  simp only [NeAll] at e1 e2 e3
  obtain ⟨n4,n5,_⟩:=e1
  obtain ⟨n6,n7,_⟩:=e2
  obtain ⟨n8,n9,_⟩:=e3
  have N8:=rejoin lN K9 N9 (.all fun p hp=>by simp)
  clear K9 N9 lN
  simp only [List.cons_append,List.nil_append] at N8
  (try k_sweep)
  (try dsimp only)
  k_steps
  refine execsG_cons (tryG (execsG_cons (ExprG (CallG ?_))))
  k_steps
  k_dflt (refine callWithG_K (K:=Mine.hd.heap_39 w.params) (by k_is) ?_)
  k_steps
  rename News _ _ _ _=>lN
  have lN2:=news_sub (own:=[(v,_),(dv,_)]) lN (by k_allIn)
  have lN5:=news_sub (own:=[(x,_),(dx,_),(b,_),(v,_),(dv,_)]) lN (by k_allIn)
  refine wpG_of ?_
  k_dflt (refine' write_dev ?B ?F ?X ?N ?T ?hk ?hd ?hu hf ?_;(case B=>k_asm);(case F=>k_asm);(case X=>k_asm);(case N=>exact News.nil);(case T=>k_asm);(case hk=>exact rfl);(case hd=>ktr_room);(case hu=>ktr_units))
  intro e9 dx9 od9 h9 tk9 th9 fa9
  (try dsimp only)
  (repeat' (first|(k_unfold;(try dsimp only))|(k_end;wrow_close)|((with_reducible show wpAny _ _ (noteFrame (Value.ref _) _) _ _ _);with_reducible (k_here;(rename Thrown _ _ _ _ _ _ _ _ _=>thX);k_dflt (refine' caught_DO (own:=[]) (rest:=_) thX (by exact fun _ h=>nomatch h) (by assumption) (by assumption) (by assumption) (by assumption) (by assumption) (by exact lN2) (by exact fun _ _ h=>nomatch h) (by exact fun _ h=>nomatch h) (by exact fun h=>nomatch h) (by k_is) (by exact rfl) ?_;k_whole);intro h' g' oe' tk' vs' T' F' N' oec' oed' oev' K' X' P';(try k_lift K');(try simp only [List.nil_append,List.cons_append,List.append_nil] at N');(try k_sweep)))|walk1|(dsimp only;(with_reducible show wpAny _ _ (noteFrame (Value.ref _) _) _ _ _))|(dsimp only;walk1)|(leave1;walk_say "STEP leave1";try dsimp only)|fail "no step"))
  refine execsG_leaf ?_
  k_steps
  rename News h₀ _ _ _=>nE
  exact hret _ _ (by assumption) (news_sub nE (by k_allIn)) (keepLO (cn:=cn) (cs:=cs) (a:=a) (ccd:=ccd) (cl:=cl) (by assumption) (by assumption) (by assumption))
theorem ek:@written_dev_S w p loose mean mg mb dp un cn cs a ccd cl A₀ base h₀ L m s Q E v dv x1 x2 x3 x4 tf f:=st.2 fun k1 k2 k3 k4 t1 t2 t3 t4 gZ LZ hZ=>@Classical.byContradiction _ fun h=>pick_all (P:=eq) (by with_unfolding_all exact fun k=>k @el) (k1,k2,k3,k4,t1,t2,t3,t4,gZ,LZ,hZ) h
end
end written_dev_E
theorem written_dev {w:World} {p:Program} {loose:List Str} {mean:ExcName→Option Value} {mg mb:Str→Option Value} {dp un:Nat} {cn:Str} {cs:Scope} {a:Addr} {ccd:Value} {cl:List (Str×Addr)} {A₀:Around} {base h₀:Heap} {L:Addr} {m:Str→Option Value} {s:Shared} {Q E:Value→Shared→Prop} {v dv:Addr} {x1 x2 x3 x4:Int} {tf:Tok} {f:Int}:@written_dev_S w p loose mean mg mb dp un cn cs a ccd cl A₀ base h₀ L m s Q E v dv x1 x2 x3 x4 tf f:=@Classical.byContradiction _ fun h=>pick_all (P:=written_dev_E.ep) (by with_unfolding_all exact fun k=>k @written_dev_E.ek) (w,p,loose,mean,mg,mb,dp,un,cn,cs,a,ccd,cl,A₀,base,h₀,L,m,s,Q,E,v,dv,x1,x2,x3,x4,tf,f) h
abbrev written_bad_S {w:World} {p:Program} {loose:List Str} {mean:ExcName→Option Value} {mg mb:Str→Option Value} {dp un:Nat} {cn:Str} {cs:Scope} {a:Addr} {ccd:Value} {cl:List (Str×Addr)} {A₀:Around} {base h₀:Heap} {L:Addr} {m:Str→Option Value} {s:Shared} {Q E:Value→Shared→Prop} {v dv:Addr} {x1 x2 x3 x4:Int} {tf:Tok} {f:Int}:Prop:=∀ (B:Below A₀ base [] h₀) (F:Fr h₀ L s.heap m) (X:(hd.heap_39 w.params).In h₀) (XB:(hd.heap_39 w.params).In base) (TB:Top p loose mean mg mb base) {od:Obj} (V:ValIs w x1 x2 x3 x4 od) (N:News h₀ L s.heap [(v,instObj 94 dv),(dv,od)]) (T:Top p loose mean mg mb h₀) (hk:cs.kind=.function) (hd:dp+16<recursionLimit) (hu:un+180<cLine) (hvd:@Ne Nat v dv) (r1:-32768≤x1∧x1≤32767) (r2:-32768≤x2∧x2≤32767) (r3:-32768≤x3∧x3≤32767) (r4:-32768≤x4∧x4≤32767) (hf:0≤f) (hf2:f<16) (hbad:∃ i,i<4∧¬ (bit f i=true∨fv x1 x2 x3 x4 i=0)) (hret:∀ h' tk',Fr h₀ L h' m→News h₀ L h' [(v,instObj 94 dv),(dv,od)]→KeepBut [L,v,dv] s.heap h'→Q .none {s with heap:=h',toks:=tk'}),
    wpG (model PySem.Challenge.rw_nu0167_01.row.prog w) (ktrTop dp un (some []) cn cs L a ccd cl []) (call (.ref 421) [.ref v,.int f tf]) Q E s
namespace written_bad_E
noncomputable section
def ep:=U fun w=>U fun p=>U fun loose=>U fun mean=>U fun mg=>U fun mb=>U fun dp=>U fun un=>U fun cn=>U fun cs=>U fun a=>U fun ccd=>U fun cl=>U fun A₀=>U fun base=>U fun h₀=>U fun L=>U fun m=>U fun s=>U fun Q=>U fun E=>U fun v=>U fun dv=>U fun x1=>U fun x2=>U fun x3=>U fun x4=>U fun tf=>fun f=>¬ @written_bad_S w p loose mean mg mb dp un cn cs a ccd cl A₀ base h₀ L m s Q E v dv x1 x2 x3 x4 tf f
def ec:=pick ep (sW,df,[],df,df,df,0,0,df,df,0,df,[],callerA,{},{},0,df,{},df,df,0,0,0,0,0,0,0,0)
@[irreducible] def w:=ec.1
@[irreducible] def p:=ec.2.1
@[irreducible] def loose:=ec.2.2.1
@[irreducible] def mean:=ec.2.2.2.1
@[irreducible] def mg:=ec.2.2.2.2.1
@[irreducible] def mb:=ec.2.2.2.2.2.1
@[irreducible] def dp:=ec.2.2.2.2.2.2.1
def ec1:=ec.2.2.2.2.2.2.2
@[irreducible] def un:=ec1.1
@[irreducible] def cn:=ec1.2.1
@[irreducible] def cs:=ec1.2.2.1
@[irreducible] def a:=ec1.2.2.2.1
@[irreducible] def ccd:=ec1.2.2.2.2.1
@[irreducible] def cl:=ec1.2.2.2.2.2.1
@[irreducible] def A₀:=ec1.2.2.2.2.2.2.1
def ec2:=ec1.2.2.2.2.2.2.2
@[irreducible] def base:=ec2.1
@[irreducible] def h₀:=ec2.2.1
@[irreducible] def L:=ec2.2.2.1
@[irreducible] def m:=ec2.2.2.2.1
@[irreducible] def s:=ec2.2.2.2.2.1
@[irreducible] def Q:=ec2.2.2.2.2.2.1
@[irreducible] def E:=ec2.2.2.2.2.2.2.1
def ec3:=ec2.2.2.2.2.2.2.2
@[irreducible] def v:=ec3.1
@[irreducible] def dv:=ec3.2.1
@[irreducible] def x1:=ec3.2.2.1
@[irreducible] def x2:=ec3.2.2.2.1
@[irreducible] def x3:=ec3.2.2.2.2.1
@[irreducible] def x4:=ec3.2.2.2.2.2.1
@[irreducible] def tf:=ec3.2.2.2.2.2.2.1
@[irreducible] def f:=ec3.2.2.2.2.2.2.2
def st:Σ' R:Tok→Tok→Tok→Tok→Tok→Tok→Tok→Tok→Heap→Addr→Heap→Prop,((∀ k1 k2 k3 k4 t1 t2 t3 t4 gZ LZ hZ,R k1 k2 k3 k4 t1 t2 t3 t4 gZ LZ hZ)→@written_bad_S w p loose mean mg mb dp un cn cs a ccd cl A₀ base h₀ L m s Q E v dv x1 x2 x3 x4 tf f):=⟨_,fun kk=>by
  intro B F X XB TB od V N T hk hd hu hvd r1 r2 r3 r4 hf hf2 hbad hret
  have V':=V
  obtain ⟨k1,k2,k3,k4,t1,t2,t3,t4,hod⟩:=V
  subst hod
  refine wpG_call ?_
  k_dflt cell_enter
  rename_i gZ LZ hZ _ _ _ _ _ _ _ _
  (repeat (rename_i zz;revert zz))
  revert B F X XB TB T hk hd hu hvd r1 r2 r3 r4 hf hf2 hbad N hret V'
  exact kk k1 k2 k3 k4 t1 t2 t3 t4 gZ LZ hZ⟩
def eq:=U fun k1=>U fun k2=>U fun k3=>U fun k4=>U fun t1=>U fun t2=>U fun t3=>U fun t4=>U fun gZ=>U fun LZ=>fun hZ=>¬ st.1 k1 k2 k3 k4 t1 t2 t3 t4 gZ LZ hZ
def er:=pick eq (0,0,0,0,0,0,0,0,{},0,{})
@[irreducible] def k1:=er.1
@[irreducible] def k2:=er.2.1
@[irreducible] def k3:=er.2.2.1
@[irreducible] def k4:=er.2.2.2.1
@[irreducible] def t1:=er.2.2.2.2.1
@[irreducible] def t2:=er.2.2.2.2.2.1
@[irreducible] def t3:=er.2.2.2.2.2.2.1
def er1:=er.2.2.2.2.2.2.2
@[irreducible] def t4:=er1.1
@[irreducible] def gZ:=er1.2.1
@[irreducible] def LZ:=er1.2.2.1
@[irreducible] def hZ:=er1.2.2.2
theorem el:st.1 k1 k2 k3 k4 t1 t2 t3 t4 gZ LZ hZ:=by
  intro B F X XB TB T hk hd hu hvd r1 r2 r3 r4 hf hf2 hbad N hret V' _ _ _ _ _ _ _ _
  refine execsG_cons (AssignTupleSG (TupleG (CallG ?_)))
  k_steps
  k_dflt (refine callWithG_K0 (K:=Mine.hd.heap_39 w.params) (by k_in) (by k_is) ?_)
  dsimp only [List.nil_append]
  k_dflt (refine' out_c ?B ?F ?X ?N ?T ?hk ?hd ?hu ?_;(case B=>k_asm);(case F=>k_asm);(case X=>k_asm);(case N=>exact News.nil);(case T=>k_asm);(case hk=>exact rfl);(case hd=>ktr_room);(case hu=>ktr_units))
  rename News _ _ _ _=>lN
  intro x dx b k h9 tk9 F9 N9 K9 Wx Wdx Wb n1 n2 n3
  have e1:=neFresh lN Wx
  have e2:=neFresh lN Wdx
  have e3:=neFresh lN Wb
  simp only [NeAll] at e1 e2 e3
  obtain ⟨n4,n5,_⟩:=e1
  obtain ⟨n6,n7,_⟩:=e2
  obtain ⟨n8,n9,_⟩:=e3
  have N8:=rejoin lN K9 N9 (.all fun p hp=>by simp)
  clear K9 N9 lN
  simp only [List.cons_append,List.nil_append] at N8
  (try k_sweep)
  (try dsimp only)
  k_steps
  refine execsG_cons (tryG (execsG_cons (ExprG (CallG ?_))))
  k_steps
  k_dflt (refine callWithG_K (K:=Mine.hd.heap_39 w.params) (by k_is) ?_)
  k_steps
  rename News _ _ _ _=>lN
  have lN2:=news_sub (own:=[(v,_),(dv,_)]) lN (by k_allIn)
  have lN5:=news_sub (own:=[(x,_),(dx,_),(b,_),(v,_),(dv,_)]) lN (by k_allIn)
  k_dflt (refine' write_bad (x:=x) (dx:=dx) (b:=b) (k:=k) ?B ?F ?X V' ?N ?T ?hk ?hd ?hu n1 n2 n3 (Ne.symm n4) (Ne.symm n5) (Ne.symm n6) (Ne.symm n7) (Ne.symm n8) (Ne.symm n9) r1 r2 r3 r4 hf hf2 hbad ?_;(case B=>k_asm);(case F=>k_asm);(case X=>k_asm);(case N=>((refine news_sub (by assumption) ?_);k_allIn));(case T=>k_asm);(case hk=>exact rfl);(case hd=>ktr_room);(case hu=>ktr_units))
  intro e9 dx9 od9 h9 tk9 th9 fa9
  (try dsimp only)
  (repeat' (first|(k_unfold;(try dsimp only))|(k_end;wrow_close)|((with_reducible show wpAny _ _ (noteFrame (Value.ref _) _) _ _ _);with_reducible (k_here;(rename Thrown _ _ _ _ _ _ _ _ _=>thX);k_dflt (refine' caught_DO (own:=_) (rest:=[]) thX (by exact own_in) (by assumption) (by assumption) (by assumption) (by assumption) (by assumption) (by exact News.nil) (by exact fun _ h=>nomatch h) (by exact adr_new lN5) (by exact adr_L lN5) (by k_is) (by exact rfl) ?_;k_whole);intro h' g' oe' tk' vs' T' F' N' oec' oed' oev' K' X' P';(try k_lift K');(try simp only [List.nil_append,List.cons_append,List.append_nil] at N');(try k_sweep)))|walk1|(dsimp only;(with_reducible show wpAny _ _ (noteFrame (Value.ref _) _) _ _ _))|(dsimp only;walk1)|(leave1;walk_say "STEP leave1";try dsimp only)|fail "no step"))
  refine execsG_leaf ?_
  k_steps
  rename News h₀ _ _ _=>nE
  exact hret _ _ (by assumption) (news_sub nE (by k_allIn)) (keepLO (cn:=cn) (cs:=cs) (a:=a) (ccd:=ccd) (cl:=cl) (by assumption) (by assumption) (by assumption))
theorem ek:@written_bad_S w p loose mean mg mb dp un cn cs a ccd cl A₀ base h₀ L m s Q E v dv x1 x2 x3 x4 tf f:=st.2 fun k1 k2 k3 k4 t1 t2 t3 t4 gZ LZ hZ=>@Classical.byContradiction _ fun h=>pick_all (P:=eq) (by with_unfolding_all exact fun k=>k @el) (k1,k2,k3,k4,t1,t2,t3,t4,gZ,LZ,hZ) h
end
end written_bad_E
theorem written_bad {w:World} {p:Program} {loose:List Str} {mean:ExcName→Option Value} {mg mb:Str→Option Value} {dp un:Nat} {cn:Str} {cs:Scope} {a:Addr} {ccd:Value} {cl:List (Str×Addr)} {A₀:Around} {base h₀:Heap} {L:Addr} {m:Str→Option Value} {s:Shared} {Q E:Value→Shared→Prop} {v dv:Addr} {x1 x2 x3 x4:Int} {tf:Tok} {f:Int}:@written_bad_S w p loose mean mg mb dp un cn cs a ccd cl A₀ base h₀ L m s Q E v dv x1 x2 x3 x4 tf f:=@Classical.byContradiction _ fun h=>pick_all (P:=written_bad_E.ep) (by with_unfolding_all exact fun k=>k @written_bad_E.ek) (w,p,loose,mean,mg,mb,dp,un,cn,cs,a,ccd,cl,A₀,base,h₀,L,m,s,Q,E,v,dv,x1,x2,x3,x4,tf,f) h
end
end
section
set_option Elab.async false
set_option maxRecDepth 100000
set_option maxHeartbeats 4000000
set_option linter.unusedVariables false
set_option pp.deepTerms false
set_option pp.maxSteps 2000
theorem due_form {ks:List Int} {i:Int} (h0:0≤i):256*ks.getD i.toNat 0+ks.getD (i+1).toNat 0=num2 ks i:=by
  unfold num2
  rw [show (i+1).toNat=i.toNat+1 by omega]
def DueJ (lf:Addr) (ks:List Int) (f j:Int) (k:Nat) (ps:List (Str×Option Value)) (nx:List (Addr×Obj)):Prop :=
  ∃ vs nn t o,ps=[(Str.ofString "place",some (.int (j+2*(bl f k:Int)) t)),(Str.ofString "number",o)]∧IntsAre vs (flds ks f j k)∧j+2*(bl f k:Int)≤ks.length∧nx=[(lf,W.listOf vs.toArray nn)]
theorem dueJ0 {lf:Addr} {ks:List Int} {f j:Int} {t:Tok} {m:Str→Option Value} (hj:j≤ks.length) (hm:m (Str.ofString "place")=some (.int j t)):DueJ lf ks f j 0 (psOf [Str.ofString "place",Str.ofString "number"] m) [(lf,W.listOf #[] 0)] :=
  ⟨[],0,t,m (Str.ofString "number"),by show [(Str.ofString "place",m (Str.ofString "place")),(_,_)]=_;rw [hm,show j+2*((bl f 0:Nat):Int)=j from Int.add_zero j],.nil,by rw [show j+2*((bl f 0:Nat):Int)=j from Int.add_zero j];exact hj,rfl⟩
theorem due_cond {f:Int} {k:Nat}:(f.fdiv (2 ^ (0+(k:Int)).toNat)).fmod 2=1↔bit f k=true:=by
  rw [show (0+(k:Int)).toNat=k by omega,fmod_bit]
theorem due_size {vs:List Value} {ks:List Int} {f i:Int} {k:Nat} (h:IntsAre vs (flds ks f i k)) (hk:k<8):vs.toArray.size≤sizeLine:=by
  have h1:=h.length
  have h2:(flds ks f i k).length=k:=by simp [flds]
  rw [List.size_toArray,h1,h2]
  exact Nat.le_trans (Nat.le_of_lt hk) (by decide)
theorem fresh0 {H g h':Heap} {L x:Addr} {o:Obj} {r:List (Addr×Obj)} (G:GSub H g []) (N:News g L h' ((x,o)::r)):Fresh H x:=by
  intro b o' z q
  have q':b=x:=q
  subst q'
  have z1:=G b o' z (fun h=>nomatch h)
  rw [(N _ (.head _)).2.2] at z1;cases z1
theorem fresh0b {H g h':Heap} {L x:Addr} {o:Obj} {p:Addr×Obj} {r:List (Addr×Obj)} (G:GSub H g []) (N:News g L h' (p::(x,o)::r)):Fresh H x:=fresh0 G (fun q hq=>N q (.tail _ hq))
theorem flds8 (ks:List Int) (f i:Int):flds ks f i 8=[fld ks f i 0,fld ks f i 1,fld ks f i 2,fld ks f i 3,fld ks f i 4,fld ks f i 5,fld ks f i 6,fld ks f i 7]:=rfl
theorem ints_eight {vs:List PySem.Value} {a b c e a' b' c' e':Int} (h:IntsAre vs [a,b,c,e,a',b',c',e']):∃ t1 t2 t3 t4 t5 t6 t7 t8,vs=[.int a t1,.int b t2,.int c t3,.int e t4,.int a' t5,.int b' t6,.int c' t7,.int e' t8]:=by
  obtain ⟨t1,u1,rfl,g1⟩:=ints_inv h
  obtain ⟨t2,u2,rfl,g2⟩:=ints_inv g1
  obtain ⟨t3,u3,rfl,g3⟩:=ints_inv g2
  obtain ⟨t4,u4,rfl,g4⟩:=ints_inv g3
  obtain ⟨t5,t6,t7,t8,rfl⟩:=ints_four g4
  exact ⟨t1,t2,t3,t4,t5,t6,t7,t8,rfl⟩
theorem arr_push {vs:List PySem.Value} {ks:List Int} {f j E:Int} {k:Nat} {t:Tok} (hi:IntsAre vs (flds ks f j k)) (he:E=fld ks f j k):∃ vs',vs.toArray.push (.int E t)=vs'.toArray∧IntsAre vs' (flds ks f j (k+1)):=by
  refine ⟨vs++[.int E t],by rw [List.push_toArray], ?_⟩
  have e:flds ks f j (k+1)=flds ks f j k++[E]:=by
    unfold flds
    rw [List.range_succ,List.map_append,he]
    rfl
  rw [e]
  exact hi.append (.cons _ _ .nil)
theorem fld_lo {ks:List Int} {f j:Int} {k:Nat} (hb:bit f k=true) (h0:0≤j+2*(bl f k:Int)) (hlo:256*ks.getD (j+2*(bl f k:Int)).toNat 0+ks.getD (j+2*(bl f k:Int)+1).toNat 0<32768) :
    256*ks.getD (j+2*(bl f k:Int)).toNat 0+ks.getD (j+2*(bl f k:Int)+1).toNat 0=fld ks f j k:=by
  unfold fld sgn
  rw [due_form h0] at hlo ⊢
  rw [if_pos hb,if_pos hlo]
theorem fld_hi {ks:List Int} {f j:Int} {k:Nat} (hb:bit f k=true) (h0:0≤j+2*(bl f k:Int)) (hlo:¬ 256*ks.getD (j+2*(bl f k:Int)).toNat 0+ks.getD (j+2*(bl f k:Int)+1).toNat 0<32768) :
    256*ks.getD (j+2*(bl f k:Int)).toNat 0+ks.getD (j+2*(bl f k:Int)+1).toNat 0 - 65536=fld ks f j k:=by
  unfold fld sgn
  rw [due_form h0] at hlo ⊢
  rw [if_pos hb,if_neg hlo]
theorem fld_no {ks:List Int} {f j:Int} {k:Nat} (hb:¬ bit f k=true):0=fld ks f j k:=by
  unfold fld
  rw [if_neg hb]
theorem bl_pos {f j:Int} {k:Nat} (hb:bit f k=true):j+2*(bl f k:Int)+2=j+2*(bl f (k+1):Int):=by
  rw [bl_succ,if_pos hb];omega
theorem bl_neg {f j:Int} {k:Nat} (hb:¬ bit f k=true):j+2*(bl f k:Int)=j+2*(bl f (k+1):Int):=by
  rw [bl_succ,if_neg hb];omega
theorem due_turn {h₀ h':Heap} {L I lf:Addr} {oI:Obj} {ks:List Int} {f j pv:Int} {k nn:Nat} {t:Tok} {arr:Array PySem.Value} {m₀ m':Str→Option PySem.Value} {s₁:Shared} {tk':Nat} {Q:Flow→Shared→Prop} (F:Fr h₀ L h' m') (N:News h₀ L h' [(I,oI),(lf,W.listOf arr nn)]) (hne:@Ne Nat lf I) (hmp:m' (Str.ofString "place")=some (.int pv t)) (hpv:pv=j+2*(bl f (k+1):Int)) (hle:pv≤ks.length)
    (hA:∃ vs',arr=vs'.toArray∧IntsAre vs' (flds ks f j (k+1))) (hm:∀ y,y≠Str.ofString "bit"→y≠Str.ofString "place"→y≠Str.ofString "number"→m' y=m₀ y) :
    OedTurn h₀ L (Str.ofString "bit") m₀ [(I,oI)] [I] (DueJ lf ks f j (k+1)) s₁ Q .next {s₁ with heap:=h',toks:=tk'}:=by
  obtain ⟨vs',rfl,hi⟩:=hA
  subst hpv
  refine OedTurn.next1 (ps':=[(Str.ofString "place",some (.int (j+2*(bl f (k+1):Int)) t)),(Str.ofString "number",m' (Str.ofString "number"))]) F N (by simp) ⟨vs',nn,t,_,rfl,hi,hle,rfl⟩ (by simp) ⟨hne,True.intro⟩ fun y hy=>?_
  rw [oAt_cons,oAt_cons,oAt_nil]
  by_cases h1:y=Str.ofString "place"
  · rw [if_pos h1,h1,hmp]
  rw [if_neg h1]
  by_cases h2:y=Str.ofString "number"
  · rw [if_pos h2,h2]
  rw [if_neg h2]
  exact hm y hy h1 h2
section
set_option maxHeartbeats 4000000
abbrev due_12_S {w:World} {p:Program} {loose:List Str} {mean:ExcName→Option Value} {mg mb:Str→Option Value} {dp un:Nat} {gd:Option (List Code)} {cn:Str} {cs:Scope} {a:Addr} {ccd:Value} {cl:List (Str×Addr)} {outer:List Env} {A₀:Around} {base h₀:Heap} {L:Addr} {m:Str→Option Value} {s:Shared} {Q E:Value→Shared→Prop} {d:Array UInt8} {ks:List Int} {i:Int} {td ti:Tok}:Prop:=∀ (B:Below A₀ base outer h₀) (F:Fr h₀ L s.heap m) (X:(hd.heap_39 w.params).In h₀) (N:News h₀ L s.heap []) (T:Top p loose mean mg mb h₀) (hk:cs.kind=.function) (hd:dp+12<recursionLimit) (hu:un+140<cLine) (hb:KBw.bInts d=ks) (hz:ks.length≤1000) (h0:0≤i) (h1:i+2≤ks.length) (h2:num2 ks i≤255) (hok:i+2+2*(ones (num2 ks i):Int)≤ks.length→∀ tp tq (t1 t2 q1 q2 q3 q4:Tok) h' tk',Fr h₀ L h' m→News h₀ L h' [(tp,tupOf #[.int (2*(ones (num2 ks i):Int)) t1,.ref tq,.int (i+2+2*(ones (num2 ks i):Int)) t2]),(tq,tupOf #[.int (fld ks (num2 ks i) (i+2) 0) q1,.int (fld ks (num2 ks i) (i+2) 1) q2,.int (fld ks (num2 ks i) (i+2) 2) q3,.int (fld ks (num2 ks i) (i+2) 3) q4])]→KeepBut [] s.heap h'→Fresh s.heap tp→Fresh s.heap tq→Q (.ref tp) {s with heap:=h',toks:=tk'}) (hft:(ks.length:Int)<i+2+2*(ones (num2 ks i):Int)→∀ tp (t1 t2:Tok) h' tk',Fr h₀ L h' m→News h₀ L h' [(tp,tupOf #[.str (Str.ofString "fault") t1,.int (cutAt ks.length (i+2)) t2])]→KeepBut [] s.heap h'→Fresh s.heap tp→Q (.ref tp) {s with heap:=h',toks:=tk'}),
    wpAny (model PySem.Challenge.rw_nu0167_01.row.prog w) (ktrTop dp un gd cn cs L a ccd cl outer) (call (.ref 414) [.bytes d td,.int i ti]) Q E s
namespace due_12_E
noncomputable section
def ep:=U fun w=>U fun p=>U fun loose=>U fun mean=>U fun mg=>U fun mb=>U fun dp=>U fun un=>U fun gd=>U fun cn=>U fun cs=>U fun a=>U fun ccd=>U fun cl=>U fun outer=>U fun A₀=>U fun base=>U fun h₀=>U fun L=>U fun m=>U fun s=>U fun Q=>U fun E=>U fun d=>U fun ks=>U fun i=>U fun td=>fun ti=>¬ @due_12_S w p loose mean mg mb dp un gd cn cs a ccd cl outer A₀ base h₀ L m s Q E d ks i td ti
def ec:=pick ep (sW,df,[],df,df,df,0,0,none,df,df,0,df,[],[],callerA,{},{},0,df,{},df,df,#[],[],0,0,0)
@[irreducible] def w:=ec.1
@[irreducible] def p:=ec.2.1
@[irreducible] def loose:=ec.2.2.1
@[irreducible] def mean:=ec.2.2.2.1
@[irreducible] def mg:=ec.2.2.2.2.1
@[irreducible] def mb:=ec.2.2.2.2.2.1
@[irreducible] def dp:=ec.2.2.2.2.2.2.1
def ec1:=ec.2.2.2.2.2.2.2
@[irreducible] def un:=ec1.1
@[irreducible] def gd:=ec1.2.1
@[irreducible] def cn:=ec1.2.2.1
@[irreducible] def cs:=ec1.2.2.2.1
@[irreducible] def a:=ec1.2.2.2.2.1
@[irreducible] def ccd:=ec1.2.2.2.2.2.1
@[irreducible] def cl:=ec1.2.2.2.2.2.2.1
def ec2:=ec1.2.2.2.2.2.2.2
@[irreducible] def outer:=ec2.1
@[irreducible] def A₀:=ec2.2.1
@[irreducible] def base:=ec2.2.2.1
@[irreducible] def h₀:=ec2.2.2.2.1
@[irreducible] def L:=ec2.2.2.2.2.1
@[irreducible] def m:=ec2.2.2.2.2.2.1
@[irreducible] def s:=ec2.2.2.2.2.2.2.1
def ec3:=ec2.2.2.2.2.2.2.2
@[irreducible] def Q:=ec3.1
@[irreducible] def E:=ec3.2.1
@[irreducible] def d:=ec3.2.2.1
@[irreducible] def ks:=ec3.2.2.2.1
@[irreducible] def i:=ec3.2.2.2.2.1
@[irreducible] def td:=ec3.2.2.2.2.2.1
@[irreducible] def ti:=ec3.2.2.2.2.2.2
def st:Σ' R:Heap→Addr→Heap→Prop,((∀ gZ LZ hZ,R gZ LZ hZ)→@due_12_S w p loose mean mg mb dp un gd cn cs a ccd cl outer A₀ base h₀ L m s Q E d ks i td ti):=⟨_,fun kk=>by
  intro B F X N T hk hd hu hb hz h0 h1 h2 hok hft
  have hx:=due_form (ks:=ks) h0
  have hnn:=(num2_range hb i).1
  refine wpAny_call ?_
  k_dflt cell_enter
  rename_i gZ LZ hZ _ _ _ _ _ _ _
  revert qk ek
  (repeat (rename_i zz;revert zz))
  revert B F X N T hk hd hu hb hz h0 h1 h2 hok hft hx hnn
  exact kk gZ LZ hZ⟩
def eq:=U fun gZ=>U fun LZ=>fun hZ=>¬ st.1 gZ LZ hZ
def er:=pick eq ({},0,{})
@[irreducible] def gZ:=er.1
@[irreducible] def LZ:=er.2.1
@[irreducible] def hZ:=er.2.2
theorem el:st.1 gZ LZ hZ:=by
  intro B F X N T hk hd hu hb hz h0 h1 h2 hok hft hx hnn _ _ _ _ _ _ _ qk ek
  (try (repeat' (first|(k_unfold;(try dsimp only))|(k_end;wrow_close)|((with_reducible show ite _ _ _);(first|(refine ite_pos (by k_dec) ?_)|(refine ite_neg (by k_dec) ?_)))|((with_reducible show wpAny _ _ (pyIter (Value.ref _)) _ _ _);with_reducible ((with_reducible show wpAny _ _ (pyIter (Value.ref _)) (fun it s₂=>LoopAtV _ _ _ _ _ _ _ _ _ it s₂) _ _);(rename IsRange _ _ _ _ _ _ _ _=>rgX);(rename Fr _ _ _ _=>lF');(rename News _ _ _ _=>lN');(rw [due_form h0] at lF');k_dflt (((with_unfolding_all refine' range_oed' (n:=8) (DueJ _ ks (num2 ks i) (i+2)) ?hh rgX ?sm ?sz lF' lN' [Str.ofString "place",Str.ofString "number"] (dueJ0 ?hj ?hm) ?hn ?turn ?done);(case hh=>exact rfl);(case sm=>decide);(case sz=>exact rfl);(case hj=>omega);(case hm=>rfl);(case hn=>(intro q hq;simp at hq ⊢;exact .inr hq));(all_goals (first|(intro k t1 ps1 nx1 I1 o1 h1' tk1 hk1 ne1 hJ1 F1 N1;obtain ⟨vs1,nn1,t2,ov1,rfl,hi1,hp1,rfl⟩:=hJ1;simp only [oAt_cons,oAt_nil] at F1;dsimp only [envOf] at F1 N1;obtain ⟨ne1,_⟩:=ne1;dsimp only at ne1;clear lF' lN' rgX;(have hs1:=due_size hi1 hk1);(have hr0:=rv_pos (f:=num2 ks i) (k:=k) (show 0≤i+2 by omega));by_cases hb1:bit (num2 ks i) k=true;(all_goals (first|((have hc1:=(due_cond (k:=k)).mpr hb1);by_cases hr1:i+2+2*(bl (num2 ks i) k:Int)+2≤ks.length)|(have hc1:¬ _:=fun hc=>hb1 ((due_cond (k:=k)).mp hc)))))|(intro u1 ps1 nx1 h1' tk1 hJ1 F1 N1;obtain ⟨vs1,nn1,t2,ov1,rfl,hi1,hp1,rfl⟩:=hJ1;simp only [oAt_cons,oAt_nil] at F1;dsimp only [envOf] at F1 N1;clear lF' lN' rgX;(rw [flds8] at hi1);(rw [bl_ones] at F1 hp1);obtain ⟨b1,b2,b3,b4,b5,b6,b7,b8,rfl⟩:=ints_eight hi1;(try dsimp only))))))))|((with_reducible show wpAny _ _ (call (Value.ref _) _) _ _ _);with_reducible (k_here;(try dsimp only [List.nil_append,List.cons_append]);(with_reducible show wpAny _ _ (call (Value.ref 400) _) _ _ _);k_dflt (refine' ones_c (by k_asm) (by k_asm) (by k_asm) (by exact News.nil) (by k_asm) (by exact rfl) (by ktr_room) (by ktr_units) (by assumption) ?_);intro t9 h9 tk9 F9 K9;(have N8:=newsKeep (by assumption) K9);clear K9;(try k_sweep);(try dsimp only)))|((with_reducible show wpAny _ _ (call (Value.type "range") _) _ _ _);(with_reducible ((rename Fr _ _ _ _=>F');(rename News _ _ _ _=>N');first|(with_unfolding_all refine range1_rows F' N' ?_;intro _ _ _ _ _ _ _ _ _)|(with_unfolding_all refine range2_rows F' N' ?_;intro _ _ _ _ _ _ _ _ _))))|walk1|(dsimp only;(with_reducible show wpAny _ _ (pyIter (Value.ref _)) _ _ _))|(dsimp only;(with_reducible show wpAny _ _ (call (Value.ref _) _) _ _ _))|(dsimp only;(with_reducible show wpAny _ _ (pyIter (Value.ref _)) _ _ _))|(dsimp only;(with_reducible show wpAny _ _ (call (Value.ref _) _) _ _ _))|(dsimp only;walk1)|(leave1;walk_say "STEP leave1";try dsimp only)|fail "no step")))
  all_goals (first
    | exact absurd hc1 (by assumption)
    | (exfalso;exact hc1 (by assumption))
    | exact due_turn (by assumption) (by assumption) (by assumption) rfl (bl_pos (by assumption)) (by omega) (arr_push (by assumption) (fld_lo (by assumption) (by assumption) (by assumption))) (fun y h1 h2 h3=>by simp only [if_neg h1,if_neg h2,if_neg h3])
    | exact due_turn (by assumption) (by assumption) (by assumption) rfl (bl_pos (by assumption)) (by omega) (arr_push (by assumption) (fld_hi (by assumption) (by assumption) (by assumption))) (fun y h1 h2 h3=>by simp only [if_neg h1,if_neg h2,if_neg h3])
    | exact due_turn (by assumption) (by assumption) (by assumption) rfl (bl_neg (by assumption)) (by omega) (arr_push (by assumption) (fld_no (by assumption))) (fun y h1 h2 h3=>by simp only [if_neg h1,if_neg h2,if_neg h3])
    | exact hok (by first|assumption|(rw [← bl_ones];assumption)) _ _ _ _ _ _ _ _ _ _ (by assumption) (news_sub (by assumption) (by k_allIn)) (keepBut_of (by assumption) (by assumption)) (fresh0 (by assumption) (by assumption)) (fresh0b (by assumption) (by assumption))
    | (have h3:(ks.length:Int)<i+2+2*(ones (num2 ks i):Int):=Int.not_le.mp fun q=>hr1 (rv_room hk1 hb1 q)
       (have hcut:i+2+2*(bl (num2 ks i) k:Int)=cutAt ks.length (i+2):=by (unfold cutAt;omega));rw [← hcut] at hft;dsimp only [OedTurn];k_steps;exact hft h3 _ _ _ _ _ (by assumption) (news_sub (by assumption) (by k_allIn)) (keepBut_of (by assumption) (by assumption)) (fresh0 (by assumption) (by assumption))))
theorem ek:@due_12_S w p loose mean mg mb dp un gd cn cs a ccd cl outer A₀ base h₀ L m s Q E d ks i td ti:=st.2 fun gZ LZ hZ=>@Classical.byContradiction _ fun h=>pick_all (P:=eq) (by with_unfolding_all exact fun k=>k @el) (gZ,LZ,hZ) h
end
end due_12_E
theorem due_12 {w:World} {p:Program} {loose:List Str} {mean:ExcName→Option Value} {mg mb:Str→Option Value} {dp un:Nat} {gd:Option (List Code)} {cn:Str} {cs:Scope} {a:Addr} {ccd:Value} {cl:List (Str×Addr)} {outer:List Env} {A₀:Around} {base h₀:Heap} {L:Addr} {m:Str→Option Value} {s:Shared} {Q E:Value→Shared→Prop} {d:Array UInt8} {ks:List Int} {i:Int} {td ti:Tok}:@due_12_S w p loose mean mg mb dp un gd cn cs a ccd cl outer A₀ base h₀ L m s Q E d ks i td ti:=@Classical.byContradiction _ fun h=>pick_all (P:=due_12_E.ep) (by with_unfolding_all exact fun k=>k @due_12_E.ek) (w,p,loose,mean,mg,mb,dp,un,gd,cn,cs,a,ccd,cl,outer,A₀,base,h₀,L,m,s,Q,E,d,ks,i,td,ti) h
abbrev due_fault1_S {w:World} {p:Program} {loose:List Str} {mean:ExcName→Option Value} {mg mb:Str→Option Value} {dp un:Nat} {gd:Option (List Code)} {cn:Str} {cs:Scope} {a:Addr} {ccd:Value} {cl:List (Str×Addr)} {outer:List Env} {A₀:Around} {base h₀:Heap} {L:Addr} {m:Str→Option Value} {s:Shared} {Q E:Value→Shared→Prop} {d:Array UInt8} {ks:List Int} {i:Int} {td ti:Tok}:Prop:=∀ (B:Below A₀ base outer h₀) (F:Fr h₀ L s.heap m) (X:(hd.heap_39 w.params).In h₀) (N:News h₀ L s.heap []) (T:Top p loose mean mg mb h₀) (hk:cs.kind=.function) (hd:dp+12<recursionLimit) (hu:un+140<cLine) (hb:KBw.bInts d=ks) (hz:ks.length≤1000) (h0:0≤i) (h1:ks.length<i+2∨255<num2 ks i) (hret:∀ tp (t1 t2:Tok) h' tk',Fr h₀ L h' m→News h₀ L h' [(tp,tupOf #[.str (Str.ofString "fault") t1,.int i t2])]→KeepBut [] s.heap h'→Fresh s.heap tp→Q (.ref tp) {s with heap:=h',toks:=tk'}),
    wpAny (model PySem.Challenge.rw_nu0167_01.row.prog w) (ktrTop dp un gd cn cs L a ccd cl outer) (call (.ref 414) [.bytes d td,.int i ti]) Q E s
namespace due_fault1_E
noncomputable section
def ep:=U fun w=>U fun p=>U fun loose=>U fun mean=>U fun mg=>U fun mb=>U fun dp=>U fun un=>U fun gd=>U fun cn=>U fun cs=>U fun a=>U fun ccd=>U fun cl=>U fun outer=>U fun A₀=>U fun base=>U fun h₀=>U fun L=>U fun m=>U fun s=>U fun Q=>U fun E=>U fun d=>U fun ks=>U fun i=>U fun td=>fun ti=>¬ @due_fault1_S w p loose mean mg mb dp un gd cn cs a ccd cl outer A₀ base h₀ L m s Q E d ks i td ti
def ec:=pick ep (sW,df,[],df,df,df,0,0,none,df,df,0,df,[],[],callerA,{},{},0,df,{},df,df,#[],[],0,0,0)
@[irreducible] def w:=ec.1
@[irreducible] def p:=ec.2.1
@[irreducible] def loose:=ec.2.2.1
@[irreducible] def mean:=ec.2.2.2.1
@[irreducible] def mg:=ec.2.2.2.2.1
@[irreducible] def mb:=ec.2.2.2.2.2.1
@[irreducible] def dp:=ec.2.2.2.2.2.2.1
def ec1:=ec.2.2.2.2.2.2.2
@[irreducible] def un:=ec1.1
@[irreducible] def gd:=ec1.2.1
@[irreducible] def cn:=ec1.2.2.1
@[irreducible] def cs:=ec1.2.2.2.1
@[irreducible] def a:=ec1.2.2.2.2.1
@[irreducible] def ccd:=ec1.2.2.2.2.2.1
@[irreducible] def cl:=ec1.2.2.2.2.2.2.1
def ec2:=ec1.2.2.2.2.2.2.2
@[irreducible] def outer:=ec2.1
@[irreducible] def A₀:=ec2.2.1
@[irreducible] def base:=ec2.2.2.1
@[irreducible] def h₀:=ec2.2.2.2.1
@[irreducible] def L:=ec2.2.2.2.2.1
@[irreducible] def m:=ec2.2.2.2.2.2.1
@[irreducible] def s:=ec2.2.2.2.2.2.2.1
def ec3:=ec2.2.2.2.2.2.2.2
@[irreducible] def Q:=ec3.1
@[irreducible] def E:=ec3.2.1
@[irreducible] def d:=ec3.2.2.1
@[irreducible] def ks:=ec3.2.2.2.1
@[irreducible] def i:=ec3.2.2.2.2.1
@[irreducible] def td:=ec3.2.2.2.2.2.1
@[irreducible] def ti:=ec3.2.2.2.2.2.2
theorem ek:@due_fault1_S w p loose mean mg mb dp un gd cn cs a ccd cl outer A₀ base h₀ L m s Q E d ks i td ti:=by
  intro B F X N T hk hd hu hb hz h0 h1 hret
  by_cases h3:ks.length<i+2
  · clear h1
    refine wpAny_call ?_
    k_dflt cell_enter
    (repeat' (first|(k_unfold;(try dsimp only))|(k_end;wrow_close)|((with_reducible show ite _ _ _);(refine ite_pos (by k_dec) ?_))|walk1|(dsimp only;(with_reducible show wpAny _ _ (pyIter (Value.ref _)) _ _ _))|(dsimp only;(with_reducible show wpAny _ _ (call (Value.ref _) _) _ _ _))|(dsimp only;(with_reducible show wpAny _ _ (pyIter (Value.ref _)) _ _ _))|(dsimp only;(with_reducible show wpAny _ _ (call (Value.ref _) _) _ _ _))|(dsimp only;walk1)|(leave1;walk_say "STEP leave1";try dsimp only)|fail "no step"))
    exact hret _ _ _ _ _ (by assumption) (news_sub (by assumption) (by k_allIn)) (keepBut_of (by assumption) (by assumption)) (fresh0 (by assumption) (by assumption))
  · have h4:i+2≤ks.length:=by omega
    have h5:255<num2 ks i:=by omega
    have h6:=due_form (ks:=ks) h0
    have h7:255<256*ks.getD i.toNat 0+ks.getD (i+1).toNat 0:=by omega
    clear h1 h3
    refine wpAny_call ?_
    k_dflt cell_enter
    (repeat' (first|(k_unfold;(try dsimp only))|(k_end;wrow_close)|((with_reducible show ite _ _ _);(first|(refine ite_pos (by k_dec) ?_)|(refine ite_neg (by k_dec) ?_)))|walk1|(dsimp only;(with_reducible show wpAny _ _ (pyIter (Value.ref _)) _ _ _))|(dsimp only;(with_reducible show wpAny _ _ (call (Value.ref _) _) _ _ _))|(dsimp only;(with_reducible show wpAny _ _ (pyIter (Value.ref _)) _ _ _))|(dsimp only;(with_reducible show wpAny _ _ (call (Value.ref _) _) _ _ _))|(dsimp only;walk1)|(leave1;walk_say "STEP leave1";try dsimp only)|fail "no step"))
    exact hret _ _ _ _ _ (by assumption) (news_sub (by assumption) (by k_allIn)) (keepBut_of (by assumption) (by assumption)) (fresh0 (by assumption) (by assumption))
end
end due_fault1_E
theorem due_fault1 {w:World} {p:Program} {loose:List Str} {mean:ExcName→Option Value} {mg mb:Str→Option Value} {dp un:Nat} {gd:Option (List Code)} {cn:Str} {cs:Scope} {a:Addr} {ccd:Value} {cl:List (Str×Addr)} {outer:List Env} {A₀:Around} {base h₀:Heap} {L:Addr} {m:Str→Option Value} {s:Shared} {Q E:Value→Shared→Prop} {d:Array UInt8} {ks:List Int} {i:Int} {td ti:Tok}:@due_fault1_S w p loose mean mg mb dp un gd cn cs a ccd cl outer A₀ base h₀ L m s Q E d ks i td ti:=@Classical.byContradiction _ fun h=>pick_all (P:=due_fault1_E.ep) (by with_unfolding_all exact fun k=>k @due_fault1_E.ek) (w,p,loose,mean,mg,mb,dp,un,gd,cn,cs,a,ccd,cl,outer,A₀,base,h₀,L,m,s,Q,E,d,ks,i,td,ti) h
end
end
section
set_option Elab.async false
set_option maxRecDepth 100000
set_option linter.unusedVariables false
set_option maxHeartbeats 4000000
section
variable {prog:Program} {w:World} {A:Around} {E:Value→Shared→Prop} {s:Shared}
def lexB (p q:Int×Int):Bool:=if p.1 == q.1 then (if p.2 == q.2 then false else decide (p.2<q.2)) else decide (p.1<q.1)
theorem pair_loop {p q:Int×Int} {t u t' u':Tok} {Q:Fin→Shared→Prop} (hQ:Q (.done (.ret (.bool (lexB p q)))) s)
    {body:Value×Value→Option Fin×Unit→Sem (ForInStep (Option Fin×Unit))} {k:Option Fin×Unit→Sem Fin}
    (hb:∀ x y (s:Shared) (R:ForInStep (Option Fin×Unit)→Shared→Prop),wpAny (model prog w) A (eqBool x y) (fun e s'=>if e=true then R (.yield (none,())) s' else wpAny (model prog w) A (richCompare .Lt x y) (fun c s''=>R (.done (some (.done (.ret c)),())) s'') E s') E s →
      wpAny (model prog w) A (body (x,y) (none,())) R E s)
    (k1:∀ s,Q (.done (.ret (.bool false))) s→wpAny (model prog w) A (k (none,())) Q E s) (k2:∀ c s,Q c s→wpAny (model prog w) A (k (some c,())) Q E s) :
    wpAny (model prog w) A (forIn [((Value.int p.1 t),(Value.int q.1 t')),(.int p.2 u,.int q.2 u')] (none,()) body >>= k) Q E s:=by
  obtain ⟨a,b⟩:=p
  obtain ⟨c,d⟩:=q
  have lt:∀ {x y:Int} {t u:Tok} {Q:Value→Shared→Prop} {s:Shared},Q (.bool (decide (x<y))) s→wpAny (model prog w) A (richCompare .Lt (.int x t) (.int y u)) Q E s:=fun h=>lt_int h
  rw [List.forIn_cons]
  refine wpAny_bind (wpAny_bind (hb _ _ _ _ (wpAny_eqBool_int ?_)))
  cases h1:(a == c) with
  | false =>
    simp only [Bool.false_eq_true,if_false]
    refine lt ?_
    refine wpAny_pure (k2 _ _ ?_)
    have:lexB (a,b) (c,d)=decide (a<c):=by simp only [lexB,h1,Bool.false_eq_true,if_false]
    rw [← this];exact hQ
  | true =>
    simp only [if_true]
    rw [List.forIn_cons]
    refine wpAny_bind (hb _ _ _ _ (wpAny_eqBool_int ?_))
    cases h2:(b == d) with
    | false =>
      simp only [Bool.false_eq_true,if_false]
      refine lt ?_
      refine wpAny_pure (k2 _ _ ?_)
      have:lexB (a,b) (c,d)=decide (b<d):=by simp only [lexB,h1,h2,if_true,Bool.false_eq_true,if_false]
      rw [← this];exact hQ
    | true =>
      simp only [if_true]
      rw [List.forIn_nil]
      refine wpAny_pure (k1 _ ?_)
      have:lexB (a,b) (c,d)=false:=by simp only [lexB,h1,h2,if_true]
      rw [← this];exact hQ
def IsPair (h:Heap) (v:Value) (p:Int×Int):Prop:=∃ a t u,v=.ref a∧h.IsTuple a #[.int p.1 t,.int p.2 u]
theorem lt_pair {v v':Value} {p q:Int×Int} {Q:Value→Shared→Prop} (hv:IsPair s.heap v p) (hv':IsPair s.heap v' q) (hu:A.units<cLine) (h:Q (.bool (lexB p q)) s) :
    wpAny (model prog w) A (richCompare .Lt v v') Q E s:=by
  obtain ⟨a,t,u,rfl,hx⟩:=hv
  obtain ⟨b,t',u',rfl,hy⟩:=hv'
  refine wpAny_richCompare_same_or hx.typeIs hy.typeIs F.slot_tuple_lt (wpAny_call_entry F.slot_tuple_lt hx.typeIs F.entry_tuple_lt ?_ (F.args_tuple_lt_2 _ _)) (.inr hu)
  obtain ⟨ox,hox,_,nx,hdx⟩:=id hx
  obtain ⟨oy,hoy,_,ny,hdy⟩:=id hy
  show wpAny (model prog w) A.in1 ((slotArgs "__lt__" 1 ⟨[.ref a,.ref b],[]⟩:Sem (Value×List Value)) >>= _) _ _ s
  refine wpAny_bind (wpAny_of_eq (a:=(.ref a,[.ref b])) rfl ?_)
  show wpAny _ _ (isInstance (.ref b) (.type "tuple") >>= _) _ _ s
  refine wpAny_bind (wpAny_isInstance hy.typeIs isSubtype_tuple_tuple ?_)
  show wpAny _ _ (Builtin.Tuple.tupleItemsOf (.ref a) >>= _) _ _ s
  unfold Builtin.Tuple.tupleItemsOf
  refine wpAny_bind (wpAny_bind (wpAny_seqItems hox hdx (wpAny_pure ?_)))
  dsimp only
  refine wpAny_bind (wpAny_bind (wpAny_seqItems hoy hdy (wpAny_pure ?_)))
  dsimp only
  show wpAny _ _ (forIn [((Value.int p.1 t),(Value.int q.1 t')),(.int p.2 u,.int q.2 u')] _ _ >>= _) _ _ s
  refine pair_loop (Q:=fun fin s'=>∃ v,fin=.done (.ret v)∧v≠.notImplemented∧Q v s') ⟨_,rfl,(by intro x;cases x),h⟩ ?_ ?_ ?_
  · intro x y s R h'
    dsimp only
    refine wpAny_bind (wpAny_mono h' (fun e s'' he=>?_) fun _ _ z=>z)
    cases e with
    | true =>
      simp only [if_true] at he
      simp only [Bool.not_true,Bool.false_eq_true,if_false]
      exact wpAny_pure he
    | false =>
      simp only [Bool.false_eq_true,if_false] at he
      simp only [Bool.not_false,if_true]
      exact wpAny_bind (wpAny_rule (wpAny_bind (wpAny_mono he (fun c s3 hc=>wpAny_bind (wpAny_pure (wpAny_pure hc))) fun _ _ z=>z)))
  · intro s hq
    exact wpAny_pure hq
  · intro c s hq
    exact wpAny_pure hq
end
end
section
set_option Elab.async false
set_option maxRecDepth 100000
set_option linter.unusedVariables false
set_option maxHeartbeats 4000000
section
variable {prog:Program} {w:World} {A:Around} {E:Value→Shared→Prop} {s:Shared} {R:Result→Shared→Prop} {I S:Addr} {fp wr:List Addr} {n:Nat} {P:Nat→Value→Prop} {St:Nat→Heap→Prop}
def BestIs (P:Nat→Value→Prop) (bt:Nat→Nat→Bool) (h:Heap) (S:Addr):Nat→Prop
  | 0=>∃ c,h.get? S=some {cls:=.type "list",dict:=none,data:=.seq #[] c,slots:=#[]}
  | j+1=>∃ c v,P (argBest bt j) v∧h.get? S=some {cls:=.type "list",dict:=none,data:=.seq #[v,v] c,slots:=#[]}
theorem minL (W:Walks prog w A.in1 I fp wr n P St) (bt:Nat→Nat→Bool) (Stay:Heap→Prop) (hSf:S∉fp) (hn:0<n)
    (hst:∀ h h',Stay h→(∀ b o,b∉wr→b≠S→h.get? b=some o→h'.get? b=some o)→Stay h')
    (hcmp:∀ i j vi vj (s:Shared) (Q:Value→Shared→Prop) (E:Value→Shared→Prop),Stay s.heap→P i vi→P j vj→Q (.bool (bt i j)) s→wpAny (model prog w) A.in1 (richCompare .Lt vi vj) Q E s) :
    ∀ (k j:Nat) (s:Shared),n - j=k→j≤n→St j s.heap→Stay s.heap→BestIs P bt s.heap S j →
      (∀ v h' tk,P (argBest bt (n - 1)) v→(∀ b o,b∉wr→b≠S→s.heap.get? b=some o→h'.get? b=some o)→R (.ok (.ret v)) {s with heap:=h',toks:=tk}) →
      codeAny (model prog w) A (.builtin "min.loop" ⟨[.ref I,.none,.ref S],[]⟩) R s:=by
  have hSw:S∉wr:=fun h=>hSf (W.sub _ h)
  have hname:(toString "min"++toString ".loop" : String)="min.loop":=by decide
  intro k
  induction k with
  | zero =>
    intro j s hk hj st sy hb hR
    obtain ⟨j',rfl⟩:∃ j',j=j'+1:=⟨j - 1,by omega⟩
    have hjn:j'+1=n:=by omega
    obtain ⟨c,v,hPv,hS⟩:=hb
    refine codeAny_builtin F.entry_min_loop ?_
    rw [Around.under_plainId F.plain_min_loop _]
    show wpAny _ A.in1 (seqItems? (.ref S) >>= _) _ _ s
    refine wpAny_bind (wpAny_seqItems hS rfl ?_)
    show wpAny _ A.in1 (tryCatch (pyNext (.ref I)) _ >>= _) _ _ s
    refine wpAny_bind (wpAny_tryCatch (W.done s _ _ (hjn ▸ st) fun h' tk hk'=>?_))
    have hS':=hk' S _ hSw hS
    show wpAny _ A.in1 (updateSeq S (fun _=>#[]) >>= _) _ _ _
    refine wpAny_bind (wpAny_updateSeq hS' rfl (wpAny_bind (wpAny_letGo (wpAny_pure ?_))))
    exact hR v _ tk (by rw [← hjn];exact hPv) fun b o hbw hbS e=>(Heap.get?_update_other _ _ (Ne.symm hbS)).trans (hk' b o hbw e)
  | succ k ih =>
    intro j s hk hj st sy hb hR
    have hlt:j<n:=by omega
    refine codeAny_builtin F.entry_min_loop ?_
    rw [Around.under_plainId F.plain_min_loop _]
    show wpAny _ A.in1 (seqItems? (.ref S) >>= _) _ _ s
    cases j with
    | zero =>
      obtain ⟨c,hS⟩:=hb
      refine wpAny_bind (wpAny_seqItems hS rfl ?_)
      show wpAny _ A.in1 (tryCatch (pyNext (.ref I)) _ >>= _) _ _ s
      refine wpAny_bind (wpAny_tryCatch (W.item 0 s _ _ hlt st fun v h' tk hP st' hk'=>?_))
      have hS':=hk' S _ hSw hS
      have sy':=hst _ _ sy fun b o hbw _ e=>hk' b o hbw e
      show wpAny _ A.in1 (updateSeq S (fun _=>#[v,v]) >>= _) _ _ _
      refine wpAny_bind (wpAny_updateSeq hS' rfl ?_)
      rw [hname]
      refine wpAny_pure ⟨plainId_quiet F.plain_min_loop _,ih 1 _ (by omega) hlt (W.frame _ _ _ st' fun b hbf o e=>?_) (hst _ _ sy' fun b o _ hbS e=>(Heap.get?_update_other _ _ (Ne.symm hbS)).trans e) ⟨_,v,hP,Heap.get?_update_self _ hS' rfl⟩ fun v' h'' tk'' hP' hk''=>?_⟩
      · exact (Heap.get?_update_other _ _ (fun h:S=b=>hSf (by rw [h];exact hbf))).trans e
      · exact hR v' h'' tk'' hP' fun b o hbw hbS e=>hk'' b o hbw hbS ((Heap.get?_update_other _ _ (Ne.symm hbS)).trans (hk' b o hbw e))
    | succ j =>
      obtain ⟨c,vb,hPb,hS⟩:=hb
      refine wpAny_bind (wpAny_seqItems hS rfl ?_)
      show wpAny _ A.in1 (tryCatch (pyNext (.ref I)) _ >>= _) _ _ s
      refine wpAny_bind (wpAny_tryCatch (W.item (j+1) s _ _ hlt st fun v h' tk hP st' hk'=>?_))
      have hS':=hk' S _ hSw hS
      have sy':=hst _ _ sy fun b o hbw _ e=>hk' b o hbw e
      show wpAny _ A.in1 (tryCatch (holding [v,v] (richCompare .Lt v vb >>= _)) _ >>= _) _ _ _
      refine wpAny_bind (wpAny_tryCatch (wpAny_holding (wpAny_bind (hcmp (j+1) (argBest bt j) v vb _ _ _ sy' hP hPb ?_))))
      refine wpAny_bind (wpAny_holding (wpAny_truthy_bool ?_))
      refine wpAny_bind (wpAny_letGo (wpAny_pure ?_))
      cases hbt:bt (j+1) (argBest bt j) with
      | true =>
        simp only [if_true]
        refine wpAny_bind (wpAny_updateSeq hS' rfl (wpAny_bind (wpAny_letGo ?_)))
        rw [hname]
        refine wpAny_pure ⟨plainId_quiet F.plain_min_loop _,ih (j+1+1) _ (by omega) hlt (W.frame _ _ _ st' fun b hbf o e=>?_) (hst _ _ sy' fun b o _ hbS e=>(Heap.get?_update_other _ _ (Ne.symm hbS)).trans e) ⟨_,v,by simp only [argBest,hbt,if_true];exact hP,Heap.get?_update_self _ hS' rfl⟩ fun v' h'' tk'' hP' hk''=>?_⟩
        · exact (Heap.get?_update_other _ _ (fun h:S=b=>hSf (by rw [h];exact hbf))).trans e
        · exact hR v' h'' tk'' hP' fun b o hbw hbS e=>hk'' b o hbw hbS ((Heap.get?_update_other _ _ (Ne.symm hbS)).trans (hk' b o hbw e))
      | false =>
        simp only [Bool.false_eq_true,if_false]
        refine wpAny_bind (wpAny_letGo ?_)
        rw [hname]
        refine wpAny_pure ⟨plainId_quiet F.plain_min_loop _,ih (j+1+1) _ (by omega) hlt st' sy' ⟨c,vb,by simp only [argBest,hbt,Bool.false_eq_true,if_false];exact hPb,hS'⟩ fun v' h'' tk'' hP' hk''=>?_⟩
        exact hR v' h'' tk'' hP' fun b o hbw hbS e=>hk'' b o hbw hbS (hk' b o hbw e)
end
section
variable {prog:Program} {w:World} {A:Around} {E:Value→Shared→Prop} {s:Shared} {h₀:Heap} {L:Addr} {m:Str→Option Value} {news:List (Addr×Obj)}
theorem min_pairs {l:Addr} {vs:List Value} {ps:Nat→Int×Int} {Q:Value→Shared→Prop} (hh:A.handled=none) (hu:A.in1.units+1<cLine) (F₀:Fr h₀ L s.heap m) (N:News h₀ L s.heap news)
    (hl:s.heap.IsList l vs.toArray) (hne:0<vs.length) (hp:∀ i v,vs[i]? = some v→IsPair s.heap v (ps i))
    (h:∀ v h' tk,vs[argBest (fun i j=>lexB (ps i) (ps j)) (vs.length - 1)]? = some v→Fr h₀ L h' m→News h₀ L h' news→(∀ b o,s.heap.get? b=some o→h'.get? b=some o)→Q v {s with heap:=h',toks:=tk}) :
    wpAny (model prog w) A (call (.builtin "min") [.ref l]) Q E s:=by
  have hname:(toString "min"++toString ".loop" : String)="min.loop":=by decide
  have hlt:l<s.heap.objs.size:=by obtain ⟨_,e,_⟩:=hl;exact Heap.lt_size e
  refine call_function_tree F.kind_min F.plain_min F.entry_min (F.args_min1 _) ?_
  show wpAny _ A.in1 (Builtin.Builtins.bindParams "min" ["key","default"] 0 ⟨[],[]⟩ >>= _) _ _ s
  refine wpAny_bind (wpAny_of_eq (show Builtin.Builtins.bindParams "min" ["key","default"] 0 ⟨[],[]⟩=pure [none,none] from rfl) ?_)
  refine wpAny_bind (wpAny_pure ?_)
  refine wpAny_bind (wpAny_pyIter_list hl ?_)
  refine wpAny_bind (wpAny_newObj_type ?_)
  rw [hname]
  have up1:∀ b o,s.heap.get? b=some o→(s.heap.push {cls:=.type "list_iterator",data:=.fields #[.ref l,.int 0 0]}).get? b=some o:=fun b o e=>Heap.get?_push_of_some _ e
  have hz:(s.heap.push {cls:=.type "list_iterator",data:=.fields #[.ref l,.int 0 0]}).objs.size=s.heap.objs.size+1:=Heap.size_push ..
  have W:=Walks.list (prog:=prog) (w:=w) (A:=A.in1) (by exact hh) s.heap.objs.size l (Nat.ne_of_lt hlt) vs.toArray
  refine wpAny_pure ⟨plainId_quiet F.plain_min_loop _,minL (n:=vs.length) (S:=(s.heap.push {cls:=.type "list_iterator",data:=.fields #[.ref l,.int 0 0]}).objs.size) (by simpa using W) (fun i j=>lexB (ps i) (ps j)) (fun hx=>∀ b o,s.heap.get? b=some o→hx.get? b=some o) ?_ hne ?_ ?_ _ 0 _ rfl (Nat.zero_le _) ?_ ?_ ?_ ?_⟩
  · intro hm
    rw [hz] at hm
    have hlt':@LT.lt Nat _ l s.heap.objs.size:=hlt
    rcases List.mem_cons.mp hm with q|hm
    · have q':@Eq Nat (s.heap.objs.size+1) s.heap.objs.size:=q
      omega
    · have q':@Eq Nat (s.heap.objs.size+1) l:=List.mem_singleton.mp hm
      omega
  · intro hx hx' sy k b o e
    have hb:@LT.lt Nat _ b s.heap.objs.size:=Heap.lt_size e
    refine k b o (fun hm=>?_) (fun q=>?_) (sy b o e)
    · have q':@Eq Nat b s.heap.objs.size:=List.mem_singleton.mp hm
      omega
    · rw [hz] at q
      have q':@Eq Nat b (s.heap.objs.size+1):=q
      omega
  · intro i j vi vj s' Q' E' sy hi hj hQ
    have up:∀ {v p},IsPair s.heap v p→IsPair s'.heap v p:=fun ⟨a,t,u,e,ht⟩=>⟨a,t,u,e,ht.at fun o e=>sy _ _ e⟩
    exact lt_pair (up (hp i vi (by simpa using hi))) (up (hp j vj (by simpa using hj))) (Nat.lt_of_succ_lt hu) hQ
  · exact ⟨⟨_,Heap.get?_push_of_some _ (Heap.get?_push_size _ rfl),rfl,rfl⟩,(hl.push _).push _⟩
  · exact fun b o e=>Heap.get?_push_of_some _ (up1 b o e)
  · exact ⟨_,Heap.get?_push_size _ rfl⟩
  · intro v h' tk hP hk
    have keep:∀ b o,s.heap.get? b=some o→h'.get? b=some o:=fun b o e=>by
      have hb:@LT.lt Nat _ b s.heap.objs.size:=Heap.lt_size e
      refine hk b o (fun hm=>?_) (fun q=>?_) (Heap.get?_push_of_some _ (up1 b o e))
      · have q':@Eq Nat b s.heap.objs.size:=List.mem_singleton.mp hm
        omega
      · rw [hz] at q
        have q':@Eq Nat b (s.heap.objs.size+1):=q
        omega
    exact h v h' tk (by simpa using hP) (F₀.keeps keep) (N.grown keep) keep
end
end
section
set_option Elab.async false
set_option maxRecDepth 100000
set_option maxHeartbeats 4000000
set_option linter.unusedVariables false
set_option pp.deepTerms false
set_option pp.maxSteps 2000
def lawOf {q:Program} {loose:List Str} {XP:(Str→Option PySem.Value)→Heap→Prop} {YP:World→Heap→Prop} {r:RowW} {d:DefRec} {kwd:List (Str×Expr)} {P:Prop} (_:WalkG q loose XP YP r d kwd→P):DefRec:=d
noncomputable abbrev lawEnv (L fa:Addr) (cd:PySem.Value):Env:=envOfC (Str.ofString "law") (lawOf Mine.hd).scope L fa cd
noncomputable abbrev lawA (L fa:Addr) (cd:PySem.Value):Around:=callerA.deeper (lawEnv L fa cd)
theorem ret_true {Q:Flow→Shared→Prop} {s:Shared} {b:Bool} (h:b=true) (hq:Q (.ret (.bool true)) s):Q (.ret (.bool b)) s:=by
  rw [h];exact hq
theorem Fr.as {g h:Heap} {L:Addr} {m:Str→Option PySem.Value} (F:Fr g L h m) (xs:List Str):Fr g L h (oAt (psOf xs m) m):=by
  have e:oAt (psOf xs m) m=m:=funext fun y=>(oAt_psOf m y xs).symm
  rw [e]
  exact F
end
section
set_option Elab.async false
set_option maxRecDepth 100000
set_option maxHeartbeats 4000000
set_option linter.unusedVariables false
set_option pp.deepTerms false
set_option pp.maxSteps 2000
section
variable {w:World} {p:Program} {loose:List Str} {mean:ExcName→Option Value} {mg mb:Str→Option Value} {dp un:Nat} {gd:Option (List Code)} {cn:Str} {cs:Scope} {a:Addr} {ccd:Value} {cl:List (Str×Addr)} {outer:List Env} {A₀:Around} {base h₀:Heap} {L:Addr} {m:Str→Option Value} {s:Shared} {Q E:Value→Shared→Prop}
theorem infotold_k {ix dx:Addr} {oi:Obj} {xa ya xo yo:Int} (I:InfoIs w xa ya xo yo oi) (B:Below A₀ base outer h₀) (F:Fr h₀ L s.heap m) (X:(hd.heap_39 w.params).In h₀) (N:News h₀ L s.heap [(ix,instObj 169 dx),(dx,oi)]) (T:Top p loose mean mg mb h₀) (hk:cs.kind=.function) (hd:dp+4<recursionLimit) (hu:un+60<cLine)
    (hret:∀ tp (t1 t2 t3 t4 t5 t6:Tok) h' tk',Fr h₀ L h' m→News h₀ L h' [(tp,tupOf #[.int 3 t1,.int 7 t2,.int xa t3,.int ya t4,.int xo t5,.int yo t6])]→KeepBut [] s.heap h'→Fresh s.heap tp→Q (.ref tp) {s with heap:=h',toks:=tk'}) :
    wpAny (model PySem.Challenge.rw_nu0167_01.row.prog w) (ktrTop dp un gd cn cs L a ccd cl outer) (call (.ref 166) [.ref ix]) Q E s :=
  infotold_c I B F X N T hk hd hu fun tp t1 t2 t3 t4 t5 t6 h' tk' F' N' K' O'=>hret tp t1 t2 t3 t4 t5 t6 h' tk' F' (news_sub N' fun p hp=>by rw [List.mem_singleton.mp hp];exact .head _) (keep_same K' (same_two N (r':=[]) fun p hp=>N' p (.tail _ hp))) O'
end
section
set_option maxHeartbeats 4000000
abbrev law_t12_S {w:World} {p:Program} {loose:List Str} {mean:ExcName→Option Value} {mg mb:Str→Option Value} {L fa:Addr} {cd:Value} {g:Heap} {m:Str→Option Value} {s:Shared} {Q:Flow→Shared→Prop} {E:Value→Shared→Prop} {ix dx ls:Addr} {xa ya xo yo:Int} {t0 t1 t2 t3:Tok} {nn:Nat} {tl:List (Addr×Obj)}:Prop:=∀ {oi:Obj} (T:Top p loose mean mg mb g) (X:(Mine.hd.heap_39 w.params).In g) (B:Below callerA g [] g) (hE:PassesOwn (model PySem.Challenge.rw_nu0167_01.row.prog w) (lawA L fa cd) (lawEnv L fa cd) E) (hend:∀ h' tk',(∀ b o,g.get? b=some o→h'.get? b=some o)→Q (.ret (.bool true)) {s with heap:=h',toks:=tk'}) (F:Fr g L s.heap (oAt [(Str.ofString "info",some (.ref ix)),(Str.ofString "sums",some (.ref ls))] m)) (N:News g L s.heap ((ix,instObj 169 dx)::(dx,oi)::(ls,W.listOf #[.int xo t0,.int yo t1,.int xa t2,.int ya t3] nn)::tl)) (I:InfoIs w xa ya xo yo oi),
    wpG (model PySem.Challenge.rw_nu0167_01.row.prog w) (lawA L fa cd) (execs ((lawOf Mine.hd).body.drop 12) (lawEnv L fa cd)) Q E s
namespace law_t12_E
noncomputable section
def ep:=U fun w=>U fun p=>U fun loose=>U fun mean=>U fun mg=>U fun mb=>U fun L=>U fun fa=>U fun cd=>U fun g=>U fun m=>U fun s=>U fun Q=>U fun E=>U fun ix=>U fun dx=>U fun ls=>U fun xa=>U fun ya=>U fun xo=>U fun yo=>U fun t0=>U fun t1=>U fun t2=>U fun t3=>U fun nn=>fun tl=>¬ @law_t12_S w p loose mean mg mb L fa cd g m s Q E ix dx ls xa ya xo yo t0 t1 t2 t3 nn tl
def ec:=pick ep (sW,df,[],df,df,df,0,0,df,{},df,{},df,df,0,0,0,0,0,0,0,0,0,0,0,0,[])
@[irreducible] def w:=ec.1
@[irreducible] def p:=ec.2.1
@[irreducible] def loose:=ec.2.2.1
@[irreducible] def mean:=ec.2.2.2.1
@[irreducible] def mg:=ec.2.2.2.2.1
@[irreducible] def mb:=ec.2.2.2.2.2.1
@[irreducible] def L:=ec.2.2.2.2.2.2.1
def ec1:=ec.2.2.2.2.2.2.2
@[irreducible] def fa:=ec1.1
@[irreducible] def cd:=ec1.2.1
@[irreducible] def g:=ec1.2.2.1
@[irreducible] def m:=ec1.2.2.2.1
@[irreducible] def s:=ec1.2.2.2.2.1
@[irreducible] def Q:=ec1.2.2.2.2.2.1
@[irreducible] def E:=ec1.2.2.2.2.2.2.1
def ec2:=ec1.2.2.2.2.2.2.2
@[irreducible] def ix:=ec2.1
@[irreducible] def dx:=ec2.2.1
@[irreducible] def ls:=ec2.2.2.1
@[irreducible] def xa:=ec2.2.2.2.1
@[irreducible] def ya:=ec2.2.2.2.2.1
@[irreducible] def xo:=ec2.2.2.2.2.2.1
@[irreducible] def yo:=ec2.2.2.2.2.2.2.1
def ec3:=ec2.2.2.2.2.2.2.2
@[irreducible] def t0:=ec3.1
@[irreducible] def t1:=ec3.2.1
@[irreducible] def t2:=ec3.2.2.1
@[irreducible] def t3:=ec3.2.2.2.1
@[irreducible] def nn:=ec3.2.2.2.2.1
@[irreducible] def tl:=ec3.2.2.2.2.2
theorem ek:@law_t12_S w p loose mean mg mb L fa cd g m s Q E ix dx ls xa ya xo yo t0 t1 t2 t3 nn tl:=by
  intro oi T X B hE hend F N I
  dsimp only [lawA,lawEnv,lawOf,List.drop_succ_cons,List.drop_zero]
  rw [oAt_two] at F
  have I':=I
  obtain ⟨k0,k1,k2,k3,k4,k5,k6,k7,k8,k9,k10,k11,k12,k13,k14,v0,v1,v2,v3,v5,v6,v7,v8,v9,v10,v11,v12,v13,v14,hoi⟩:=I
  subst hoi
  refine execsG_leaf ?_
  (repeat' (first|(k_unfold;(try dsimp only))|(k_end;wrow_close)|((with_reducible show wpAny _ _ (call (Value.ref _) _) _ _ _);(k_here;(try dsimp only [List.nil_append,List.cons_append]);(with_reducible show wpAny _ _ (call (Value.ref 166) _) _ _ _);(rename News _ _ _ _=>lN);k_dflt (refine' infotold_k (by assumption) (by k_asm) (by k_asm) (by k_asm) (by ((refine news_sub lN ?_);k_allIn)) (by k_asm) (by exact rfl) (by ktr_room) (by ktr_units) ?_);intro tp9 t91 t92 t93 t94 t95 t96 h9 tk9 F9 N9 K9 O9;(have N8:=rejoin lN K9 N9 (.all fun _ _ h=>nomatch h));clear K9 N9;(simp only [List.cons_append,List.nil_append] at N8);(try k_sweep);(try dsimp only)))|walk1|(dsimp only;(with_reducible show wpAny _ _ (call (Value.ref _) _) _ _ _))|(dsimp only;walk1)|(leave1;walk_say "STEP leave1";try dsimp only)|fail "no step"))
  refine ret_true ?_ (hend _ _ (Fr.keep (by assumption)))
  show (xa == xa && (ya == ya && (xo == xo && yo == yo)))=true
  simp
end
end law_t12_E
theorem law_t12 {w:World} {p:Program} {loose:List Str} {mean:ExcName→Option Value} {mg mb:Str→Option Value} {L fa:Addr} {cd:Value} {g:Heap} {m:Str→Option Value} {s:Shared} {Q:Flow→Shared→Prop} {E:Value→Shared→Prop} {ix dx ls:Addr} {xa ya xo yo:Int} {t0 t1 t2 t3:Tok} {nn:Nat} {tl:List (Addr×Obj)}:@law_t12_S w p loose mean mg mb L fa cd g m s Q E ix dx ls xa ya xo yo t0 t1 t2 t3 nn tl:=@Classical.byContradiction _ fun h=>pick_all (P:=law_t12_E.ep) (by with_unfolding_all exact fun k=>k @law_t12_E.ek) (w,p,loose,mean,mg,mb,L,fa,cd,g,m,s,Q,E,ix,dx,ls,xa,ya,xo,yo,t0,t1,t2,t3,nn,tl) h
end
end
section
set_option Elab.async false
set_option maxRecDepth 100000
set_option maxHeartbeats 4000000
set_option linter.unusedVariables false
set_option pp.deepTerms false
set_option pp.maxSteps 2000
set_option maxHeartbeats 4000000
theorem keepL1 {L a b:Addr} {g h h':Heap} {x y:Obj} {r:List (Addr×Obj)} (K:KeepBut [L,a,b] h h') (N:News g L h [(a,x),(b,y)]) (N':News g L h' ((a,x)::(b,y)::r)):KeepBut [L] h h':=fun c o hc hn=>by
  by_cases hm:c∈[a,b]
  · exact same_two N N' c hm o hc
  · refine K c o hc fun hq=>?_
    rcases List.mem_cons.mp hq with q|hq
    · exact hn (List.mem_singleton.mpr q)
    · exact hm hq
theorem rest_L {g h:Heap} {L:Addr} {big:List (Addr×Obj)} (N:News g L h big):Rest [L] big big:=.all fun p hp hm=>(N p hp).2.1 (List.mem_singleton.mp hm)
section
variable {w:World} {p:Program} {loose:List Str} {mean:ExcName→Option Value} {mg mb:Str→Option Value} {dp un:Nat} {gd:Option (List Code)} {cn:Str} {cs:Scope} {a:Addr} {ccd:Value} {cl:List (Str×Addr)} {outer:List Env} {A₀:Around} {base h₀:Heap} {L:Addr} {m:Str→Option Value} {s:Shared} {Q E:Value→Shared→Prop}
theorem written_okk {f:Int} {tf:Tok} {v dv:Addr} {od:Obj} {x1 x2 x3 x4:Int} (V:ValIs w x1 x2 x3 x4 od) (B:Below A₀ base [] h₀) (F:Fr h₀ L s.heap m) (X:(hd.heap_39 w.params).In h₀) (N:News h₀ L s.heap [(v,instObj 94 dv),(dv,od)]) (T:Top p loose mean mg mb h₀) (hk:cs.kind=.function) (hd:dp+16<recursionLimit) (hu:un+180<cLine) (hvd:@Ne Nat v dv) (r1:-32768≤x1∧x1≤32767) (r2:-32768≤x2∧x2≤32767) (r3:-32768≤x3∧x3≤32767) (r4:-32768≤x4∧x4≤32767) (hf:0≤f) (hf2:f<16) (hbear:bearsB f (fv x1 x2 x3 x4) 4=true)
    (hret:∀ tp tq (t1 q1 q2 q3 q4:Tok) h' tk',Fr h₀ L h' m→News h₀ L h' [(tp,tupOf #[.int (2*(ones f:Int)) t1,.ref tq]),(tq,tupOf #[.int x1 q1,.int x2 q2,.int x3 q3,.int x4 q4])]→KeepBut [L] s.heap h'→Q (.ref tp) {s with heap:=h',toks:=tk'}) :
    wpG (model PySem.Challenge.rw_nu0167_01.row.prog w) (ktrTop dp un (some []) cn cs L a ccd cl []) (call (.ref 421) [.ref v,.int f tf]) Q E s :=
  written_ok B F X V N T hk hd hu hvd r1 r2 r3 r4 hf hf2 (bearsB_iff.mp hbear) fun tp tq t1 q1 q2 q3 q4 h' tk' F' N' K' _ _=>hret tp tq t1 q1 q2 q3 q4 h' tk' F' (news_sub N' (by simp)) (keepL1 K' N (r:=[]) (news_sub N' (by simp)))
theorem written_nok {f:Int} {tf:Tok} {v dv:Addr} {od:Obj} {x1 x2 x3 x4:Int} (V:ValIs w x1 x2 x3 x4 od) (B:Below A₀ base [] h₀) (F:Fr h₀ L s.heap m) (X:(hd.heap_39 w.params).In h₀) (XB:(hd.heap_39 w.params).In base) (TB:Top p loose mean mg mb base) (N:News h₀ L s.heap [(v,instObj 94 dv),(dv,od)]) (T:Top p loose mean mg mb h₀) (hk:cs.kind=.function) (hd:dp+16<recursionLimit) (hu:un+180<cLine) (hvd:@Ne Nat v dv) (r1:-32768≤x1∧x1≤32767) (r2:-32768≤x2∧x2≤32767) (r3:-32768≤x3∧x3≤32767) (r4:-32768≤x4∧x4≤32767) (hf:0≤f) (hno:16≤f∨bearsB f (fv x1 x2 x3 x4) 4=false)
    (hret:∀ h' tk',Fr h₀ L h' m→KeepBut [L] s.heap h'→Q .none {s with heap:=h',toks:=tk'}) :
    wpG (model PySem.Challenge.rw_nu0167_01.row.prog w) (ktrTop dp un (some []) cn cs L a ccd cl []) (call (.ref 421) [.ref v,.int f tf]) Q E s:=by
  by_cases h16:16≤f
  · exact written_dev B F X XB TB V N T hk hd hu hvd h16 fun h' tk' F' N' K'=>hret h' tk' F' (keepL1 K' N (r:=[]) N')
  · have hb:=hno.resolve_left h16
    refine written_bad B F X XB TB V N T hk hd hu hvd r1 r2 r3 r4 hf (by omega) ?_ fun h' tk' F' N' K'=>hret h' tk' F' (keepL1 K' N (r:=[]) N')
    refine Classical.byContradiction fun hc=>?_
    have:bearsB f (fv x1 x2 x3 x4) 4=true:=bearsB_iff.mpr fun i hi=>Classical.byContradiction fun q=>hc ⟨i,hi,q⟩
    rw [hb] at this
    cases this
theorem bears_k {r:Addr} {x1 x2 x3 x4:Int} {q1 q2 q3 q4 tf:Tok} {f:Int} (B:Below A₀ base outer h₀) (F:Fr h₀ L s.heap m) (X:(hd.heap_39 w.params).In h₀) (N:News h₀ L s.heap [(r,rowT x1 x2 x3 x4 q1 q2 q3 q4)]) (T:Top p loose mean mg mb h₀) (hk:cs.kind=.function) (hd:dp+4<recursionLimit) (hu:un+200<cLine) (hf:0≤f)
    (hret:∀ h' tk',Fr h₀ L h' m→KeepBut [] s.heap h'→Q (.bool (bearsB f (fv x1 x2 x3 x4) 4)) {s with heap:=h',toks:=tk'}) :
    wpAny (model PySem.Challenge.rw_nu0167_01.row.prog w) (ktrTop dp un gd cn cs L a ccd cl outer) (call (.ref 426) [.int f tf,.ref r]) Q E s :=
  bears_c B F X N T hk hd hu hf fun h' tk' F' N' K'=>hret h' tk' F' (keep_same K' fun c hc o ho=>by
    rw [List.mem_singleton.mp hc] at ho ⊢
    have z:=(N _ (.head _)).1
    rw [ho] at z
    cases z
    exact (N' _ (.head _)).1)
theorem nothing_k {v dv:Addr} {od:Obj} {x1 x2 x3 x4:Int} (V:ValIs w x1 x2 x3 x4 od) (B:Below A₀ base outer h₀) (F:Fr h₀ L s.heap m) (X:(hd.heap_39 w.params).In h₀) (N:News h₀ L s.heap [(v,instObj 94 dv),(dv,od)]) (T:Top p loose mean mg mb h₀) (hk:cs.kind=.function) (hd:dp+6<recursionLimit) (hu:un+100<cLine)
    (hret:∀ h' tk',Fr h₀ L h' m→KeepBut [] s.heap h'→Q (.bool (x1 == 0 && (x2 == 0 && (x3 == 0 && x4 == 0)))) {s with heap:=h',toks:=tk'}) :
    wpAny (model PySem.Challenge.rw_nu0167_01.row.prog w) (ktrTop dp un gd cn cs L a ccd cl outer) (call (.ref 91) [.ref v]) Q E s :=
  nothing_c B F X V N T hk hd hu fun h' tk' F' N' K'=>hret h' tk' F' (keep_same K' (same_two N (r':=[]) N'))
theorem add_k {v dv:Addr} {od:Obj} {x1 x2 x3 x4:Int} (V:ValIs w x1 x2 x3 x4 od) {ix dx:Addr} {oi:Obj} {xa ya xo yo:Int} (I:InfoIs w xa ya xo yo oi) {bk:Bool} (B:Below A₀ base outer h₀) (F:Fr h₀ L s.heap m) (X:(hd.heap_39 w.params).In h₀) (N:News h₀ L s.heap [(ix,instObj 169 dx),(dx,oi),(v,instObj 94 dv),(dv,od)]) (T:Top p loose mean mg mb h₀) (hk:cs.kind=.function) (hd:dp+4<recursionLimit) (hu:un+60<cLine)
    (n1:@Ne Nat ix dx) (n2:@Ne Nat dx v) (n3:@Ne Nat dx dv) (n4:@Ne Nat ix v) (n5:@Ne Nat ix dv)
    (hret:∀ oi' h' tk',InfoIs w (xa+x3) ya (xo+x1) (yo+x2) oi'→Fr h₀ L h' m→News h₀ L h' [(dx,oi')]→KeepBut [dx] s.heap h'→Q .none {s with heap:=h',toks:=tk'}) :
    wpAny (model PySem.Challenge.rw_nu0167_01.row.prog w) (ktrTop dp un gd cn cs L a ccd cl outer) (call (.ref 138) [.ref ix,.ref v,.bool bk]) Q E s :=
  add_c V I B F X N T hk hd hu n1 n2 n3 n4 n5 fun oi' h' tk' I' F' N' K'=>hret oi' h' tk' I' F' (news_sub N' (by simp)) fun c o hc hn=>by
    by_cases hm:c∈[ix,dx,v,dv]
    · simp only [List.mem_cons,List.not_mem_nil,or_false] at hm
      have go:∀ {ob:Obj},(c,ob)∈[(ix,instObj 169 dx),(dx,oi),(v,instObj 94 dv),(dv,od)]→(c,ob)∈[(ix,instObj 169 dx),(dx,oi'),(v,instObj 94 dv),(dv,od)]→h'.get? c=some o:=fun e1 e2=>by
        have z:=(N _ e1).1
        rw [hc] at z
        cases z
        exact (N' _ e2).1
      rcases hm with rfl|rfl|rfl|rfl
      · exact go (ob:=instObj 169 dx) (by simp) (by simp)
      · exact absurd (List.mem_singleton.mpr rfl) hn
      · exact go (ob:=instObj 94 dv) (by simp) (by simp)
      · exact go (ob:=od) (by simp) (by simp)
    · exact K' c o hc hm
end
end
section
set_option Elab.async false
set_option maxRecDepth 100000
set_option maxHeartbeats 4000000
set_option linter.unusedVariables false
set_option pp.deepTerms false
set_option pp.maxSteps 2000
def forBody:List Stmt→List Stmt
  | .For _ _ b _ _::_=>b
  | _=>[]
theorem Fr.eqv {g h:Heap} {L:Addr} {m m':Str→Option PySem.Value} (F:Fr g L h m) (e:∀ y,m' y=m y):Fr g L h m':=by
  have e:m'=m:=funext e
  rw [e];exact F
theorem rejoinL {g h h':Heap} {L:Addr} {m:Str→Option PySem.Value} {big:List (Addr×Obj)} (N:News g L h big) (F:Fr g L h' m) (K:KeepBut [L] h h'):News g L h' big:=fun p hp =>
  ⟨K _ _ (N p hp).1 (fun hm=>(N p hp).2.1 (List.mem_singleton.mp hm)),(N p hp).2.1,(N p hp).2.2⟩
theorem keep0 {g h h':Heap} {L:Addr} {m:Str→Option PySem.Value} {big:List (Addr×Obj)} (N:News g L h big) (F:Fr g L h' m) (K:KeepBut [] h h'):News g L h' big:=fun p hp =>
  ⟨K _ _ (N p hp).1 (fun h=>nomatch h),(N p hp).2.1,(N p hp).2.2⟩
section
variable {w:World} {p:Program} {loose:List Str} {mean:ExcName→Option Value} {mg mb:Str→Option Value} {dp un:Nat} {gd:Option (List Code)} {cn:Str} {cs:Scope} {a:Addr} {ccd:Value} {cl:List (Str×Addr)} {outer:List Env} {A₀:Around} {base h₀:Heap} {L:Addr} {m:Str→Option Value} {s:Shared} {Q E:Value→Shared→Prop}
theorem bears_kb {r:Addr} {x1 x2 x3 x4:Int} {q1 q2 q3 q4 tf:Tok} {f:Int} {b:Bool} (B:Below A₀ base outer h₀) (F:Fr h₀ L s.heap m) (X:(hd.heap_39 w.params).In h₀) (N:News h₀ L s.heap [(r,rowT x1 x2 x3 x4 q1 q2 q3 q4)]) (T:Top p loose mean mg mb h₀) (hk:cs.kind=.function) (hd:dp+4<recursionLimit) (hu:un+200<cLine) (hf:0≤f) (hb:bearsB f (fv x1 x2 x3 x4) 4=b)
    (hret:∀ h' tk',Fr h₀ L h' m→KeepBut [] s.heap h'→Q (.bool b) {s with heap:=h',toks:=tk'}) :
    wpAny (model PySem.Challenge.rw_nu0167_01.row.prog w) (ktrTop dp un gd cn cs L a ccd cl outer) (call (.ref 426) [.int f tf,.ref r]) Q E s :=
  bears_k B F X N T hk hd hu hf (by rw [hb];exact hret)
end
section
set_option maxHeartbeats 4000000
abbrev law_in_S {w:World} {p:Program} {loose:List Str} {mean:ExcName→Option Value} {mg mb:Str→Option Value} {L fa:Addr} {cd:Value} {g:Heap} {m:Str→Option Value} {s:Shared} {Q:Flow→Shared→Prop} {E:Value→Shared→Prop} {r v dv:Addr} {f x1 x2 x3 x4:Int} {tf q1 q2 q3 q4:Tok} {o:Option Value} {tl:List (Addr×Obj)}:Prop:=∀ {od:Obj} (T:Top p loose mean mg mb g) (X:(Mine.hd.heap_39 w.params).In g) (B:Below callerA g [] g) (hE:PassesOwn (model PySem.Challenge.rw_nu0167_01.row.prog w) (lawA L fa cd) (lawEnv L fa cd) E) (V:ValIs w x1 x2 x3 x4 od) (hvd:@Ne Nat v dv) (r1:-32768≤x1∧x1≤32767) (r2:-32768≤x2∧x2≤32767) (r3:-32768≤x3∧x3≤32767) (r4:-32768≤x4∧x4≤32767) (hf:0≤f) (hf2:f<16) (F:Fr g L s.heap (oAt [(Str.ofString "one",some (.int f tf)),(Str.ofString "due",o),(Str.ofString "row",some (.ref r)),(Str.ofString "value",some (.ref v))] m)) (N:News g L s.heap ((r,rowT x1 x2 x3 x4 q1 q2 q3 q4)::(v,instObj 94 dv)::(dv,od)::tl)) (hret:∀ o' h' tk',Fr g L h' (oAt [(Str.ofString "one",some (.int f tf)),(Str.ofString "due",o'),(Str.ofString "row",some (.ref r)),(Str.ofString "value",some (.ref v))] m)→News g L h' ((r,rowT x1 x2 x3 x4 q1 q2 q3 q4)::(v,instObj 94 dv)::(dv,od)::tl)→Q .next {s with heap:=h',toks:=tk'}),
    wpG (model PySem.Challenge.rw_nu0167_01.row.prog w) (lawA L fa cd) (execs (forBody (forBody ((lawOf Mine.hd).body.drop 11))) (lawEnv L fa cd)) Q E s
namespace law_in_E
noncomputable section
def ep:=U fun w=>U fun p=>U fun loose=>U fun mean=>U fun mg=>U fun mb=>U fun L=>U fun fa=>U fun cd=>U fun g=>U fun m=>U fun s=>U fun Q=>U fun E=>U fun r=>U fun v=>U fun dv=>U fun f=>U fun x1=>U fun x2=>U fun x3=>U fun x4=>U fun tf=>U fun q1=>U fun q2=>U fun q3=>U fun q4=>U fun o=>fun tl=>¬ @law_in_S w p loose mean mg mb L fa cd g m s Q E r v dv f x1 x2 x3 x4 tf q1 q2 q3 q4 o tl
def ec:=pick ep (sW,df,[],df,df,df,0,0,df,{},df,{},df,df,0,0,0,0,0,0,0,0,0,0,0,0,0,none,[])
@[irreducible] def w:=ec.1
@[irreducible] def p:=ec.2.1
@[irreducible] def loose:=ec.2.2.1
@[irreducible] def mean:=ec.2.2.2.1
@[irreducible] def mg:=ec.2.2.2.2.1
@[irreducible] def mb:=ec.2.2.2.2.2.1
@[irreducible] def L:=ec.2.2.2.2.2.2.1
def ec1:=ec.2.2.2.2.2.2.2
@[irreducible] def fa:=ec1.1
@[irreducible] def cd:=ec1.2.1
@[irreducible] def g:=ec1.2.2.1
@[irreducible] def m:=ec1.2.2.2.1
@[irreducible] def s:=ec1.2.2.2.2.1
@[irreducible] def Q:=ec1.2.2.2.2.2.1
@[irreducible] def E:=ec1.2.2.2.2.2.2.1
def ec2:=ec1.2.2.2.2.2.2.2
@[irreducible] def r:=ec2.1
@[irreducible] def v:=ec2.2.1
@[irreducible] def dv:=ec2.2.2.1
@[irreducible] def f:=ec2.2.2.2.1
@[irreducible] def x1:=ec2.2.2.2.2.1
@[irreducible] def x2:=ec2.2.2.2.2.2.1
@[irreducible] def x3:=ec2.2.2.2.2.2.2.1
def ec3:=ec2.2.2.2.2.2.2.2
@[irreducible] def x4:=ec3.1
@[irreducible] def tf:=ec3.2.1
@[irreducible] def q1:=ec3.2.2.1
@[irreducible] def q2:=ec3.2.2.2.1
@[irreducible] def q3:=ec3.2.2.2.2.1
@[irreducible] def q4:=ec3.2.2.2.2.2.1
@[irreducible] def o:=ec3.2.2.2.2.2.2.1
@[irreducible] def tl:=ec3.2.2.2.2.2.2.2
theorem ek:@law_in_S w p loose mean mg mb L fa cd g m s Q E r v dv f x1 x2 x3 x4 tf q1 q2 q3 q4 o tl:=by
  intro od T X B hE V hvd r1 r2 r3 r4 hf hf2 F N hret
  dsimp only [lawA,lawEnv,lawOf,List.drop_succ_cons,List.drop_zero,forBody]
  rw [oAt_four] at F
  cases hb:bearsB f (fv x1 x2 x3 x4) 4
  · refine execsG_cons (wpG_of ?_)
    (repeat' (first|(k_unfold;(try dsimp only))|(k_end;wrow_close)|((with_reducible show wpAny _ _ (call (Value.ref _) _) _ _ _);with_reducible (k_here;(try dsimp only [List.nil_append,List.cons_append]);(with_reducible show wpAny _ _ (call (Value.ref 426) _) _ _ _);(rename News _ _ _ _=>lN);k_dflt (refine' bears_kb  (by k_asm) (by k_asm) (by k_asm) (by ((refine news_sub lN ?_);k_allIn)) (by k_asm) (by exact rfl) (by ktr_room) (by ktr_units) (by assumption) (by assumption) ?_);intro h9 tk9 F9 K9;(have N8:=keep0 lN F9 K9);clear K9;(try k_sweep);(try dsimp only)))|walk1|(dsimp only;(with_reducible show wpAny _ _ (call (Value.ref _) _) _ _ _))|(dsimp only;walk1)|(leave1;walk_say "STEP leave1";try dsimp only)|fail "no step"))
    refine execsG_cons (IfG (CompareG (CallG ?_)))
    k_steps
    k_dflt (refine callWithG_K (K:=Mine.hd.heap_39 w.params) (by k_is) ?_)
    k_steps
    rename News _ _ _ _=>lN
    k_dflt (refine' written_nok V ?B ?F ?X ?XB ?TB ?N ?T ?hk ?hd ?hu hvd r1 r2 r3 r4 hf (.inr hb) ?_;(case B=>k_asm);(case F=>k_asm);(case X=>k_asm);(case XB=>k_asm);(case TB=>k_asm);(case N=>((refine news_sub lN ?_);k_allIn));(case T=>k_asm);(case hk=>exact rfl);(case hd=>ktr_room);(case hu=>ktr_units))
    intro h9 tk9 F9 K9
    have N8:=rejoinL lN F9 K9
    clear K9
    (try k_sweep)
    (try dsimp only)
    k_steps
    refine execsG_nil ?_
    dsimp only
    refine execsG_nil ?_
    rename Fr _ _ _ _=>eF
    exact hret (some .none) _ _ (Fr.eqv eF (by
      intro y
      simp only [oAt_cons,oAt_nil]
      by_cases h0:y=Str.ofString "one"
      · subst h0;rfl
      by_cases h1:y=Str.ofString "due"
      · subst h1;rfl
      by_cases h2:y=Str.ofString "row"
      · subst h2;rfl
      by_cases h3:y=Str.ofString "value"
      · subst h3;rfl
      simp only [if_neg h0,if_neg h1,if_neg h2,if_neg h3])) (by assumption)
  · refine execsG_cons (wpG_of ?_)
    (repeat' (first|(k_unfold;(try dsimp only))|(k_end;wrow_close)|((with_reducible show wpAny _ _ (call (Value.ref _) _) _ _ _);with_reducible (first|(k_here;(try dsimp only [List.nil_append,List.cons_append]);(with_reducible show wpAny _ _ (call (Value.ref 400) _) _ _ _);(rename News _ _ _ _=>lN);k_dflt (refine' ones_c  (by k_asm) (by k_asm) (by k_asm) (by ((refine news_sub lN ?_);k_allIn)) (by k_asm) (by exact rfl) (by ktr_room) (by ktr_units) (by assumption) ?_);intro t9 h9 tk9 F9 K9;(have N8:=keep0 lN F9 K9);clear K9;(try k_sweep);(try dsimp only))|(k_here;(try dsimp only [List.nil_append,List.cons_append]);(with_reducible show wpAny _ _ (call (Value.ref 426) _) _ _ _);(rename News _ _ _ _=>lN);k_dflt (refine' bears_kb  (by k_asm) (by k_asm) (by k_asm) (by ((refine news_sub lN ?_);k_allIn)) (by k_asm) (by exact rfl) (by ktr_room) (by ktr_units) (by assumption) (by assumption) ?_);intro h9 tk9 F9 K9;(have N8:=keep0 lN F9 K9);clear K9;(try k_sweep);(try dsimp only))))|walk1|(dsimp only;(with_reducible show wpAny _ _ (call (Value.ref _) _) _ _ _))|(dsimp only;walk1)|(leave1;walk_say "STEP leave1";try dsimp only)|fail "no step"))
    refine execsG_cons (IfG (CompareG (CallG ?_)))
    k_steps
    k_dflt (refine callWithG_K (K:=Mine.hd.heap_39 w.params) (by k_is) ?_)
    k_steps
    rename News _ _ _ _=>lN
    k_dflt (refine' written_okk V ?B ?F ?X ?N ?T ?hk ?hd ?hu hvd r1 r2 r3 r4 hf hf2 hb ?_;(case B=>k_asm);(case F=>k_asm);(case X=>k_asm);(case N=>((refine news_sub lN ?_);k_allIn));(case T=>k_asm);(case hk=>exact rfl);(case hd=>ktr_room);(case hu=>ktr_units))
    intro tp tq t1 p1 p2 p3 p4 h9 tk9 F9 N9 K9
    have N8:=rejoin lN K9 N9 (rest_L lN)
    clear K9 N9
    simp only [List.cons_append,List.nil_append] at N8
    (try k_sweep)
    (try dsimp only)
    (repeat' (first|(k_unfold;(try dsimp only))|(k_end;wrow_close)|((with_reducible show wpAny _ _ (compareOp CmpOp.NotEq (Value.ref _) (Value.ref _)) _ _ _);with_reducible ((k_here;(with_reducible show wpAny _ _ (compareOp CmpOp.NotEq (Value.ref _) (Value.ref _)) _ _ _);k_dflt (refine ne_dataH (by ke_read) (by ke_read) (by ke_shaped) (by ke_shaped) (by ktr_units) ?_);ke_norm)))|walk1|(dsimp only;(with_reducible show wpAny _ _ (call (Value.ref _) _) _ _ _))|(dsimp only;walk1)|(leave1;walk_say "STEP leave1";try dsimp only)|fail "no step"))
    refine execsG_nil ?_
    dsimp only
    refine execsG_nil ?_
    rename Fr _ _ _ _=>eF
    rename News _ _ _ _=>eN
    exact hret (some (.ref _)) _ _ (Fr.eqv eF (by
      intro y
      simp only [oAt_cons,oAt_nil]
      by_cases h0:y=Str.ofString "one"
      · subst h0;rfl
      by_cases h1:y=Str.ofString "due"
      · subst h1;rfl
      by_cases h2:y=Str.ofString "row"
      · subst h2;rfl
      by_cases h3:y=Str.ofString "value"
      · subst h3;rfl
      simp only [if_neg h0,if_neg h1,if_neg h2,if_neg h3])) (news_sub eN (fun q hq=>.tail _ (.tail _ (.tail _ hq))))
end
end law_in_E
theorem law_in {w:World} {p:Program} {loose:List Str} {mean:ExcName→Option Value} {mg mb:Str→Option Value} {L fa:Addr} {cd:Value} {g:Heap} {m:Str→Option Value} {s:Shared} {Q:Flow→Shared→Prop} {E:Value→Shared→Prop} {r v dv:Addr} {f x1 x2 x3 x4:Int} {tf q1 q2 q3 q4:Tok} {o:Option Value} {tl:List (Addr×Obj)}:@law_in_S w p loose mean mg mb L fa cd g m s Q E r v dv f x1 x2 x3 x4 tf q1 q2 q3 q4 o tl:=@Classical.byContradiction _ fun h=>pick_all (P:=law_in_E.ep) (by with_unfolding_all exact fun k=>k @law_in_E.ek) (w,p,loose,mean,mg,mb,L,fa,cd,g,m,s,Q,E,r,v,dv,f,x1,x2,x3,x4,tf,q1,q2,q3,q4,o,tl) h
end
end
local macro_rules | `(tactic| k_all)=>`(tactic| (with_reducible exact Rest.all (neAll_to (by assumption))))
section
set_option Elab.async false
set_option maxRecDepth 100000
set_option maxHeartbeats 4000000
set_option linter.unusedVariables false
set_option pp.deepTerms false
set_option pp.maxSteps 2000
theorem oAt_six (a b c d e f:Str) (v0 v1 v2 v3 v4 v5:Option PySem.Value) (m:Str→Option PySem.Value):oAt [(a,v0),(b,v1),(c,v2),(d,v3),(e,v4),(f,v5)] m=fun y=>if y=a then v0 else if y=b then v1 else if y=c then v2 else if y=d then v3 else if y=e then v4 else if y=f then v5 else m y:=by
  funext y
  rw [oAt_cons,oAt_cons,oAt_cons,oAt_cons,oAt_cons,oAt_cons,oAt_nil]
theorem oAt_five (a b c d e:Str) (v0 v1 v2 v3 v4:Option PySem.Value) (m:Str→Option PySem.Value):oAt [(a,v0),(b,v1),(c,v2),(d,v3),(e,v4)] m=fun y=>if y=a then v0 else if y=b then v1 else if y=c then v2 else if y=d then v3 else if y=e then v4 else m y:=by
  funext y
  rw [oAt_cons,oAt_cons,oAt_cons,oAt_cons,oAt_cons,oAt_nil]
theorem oAt_eight (a b c d e f g h:Str) (v0 v1 v2 v3 v4 v5 v6 v7:Option PySem.Value) (m:Str→Option PySem.Value):oAt [(a,v0),(b,v1),(c,v2),(d,v3),(e,v4),(f,v5),(g,v6),(h,v7)] m=fun y=>if y=a then v0 else if y=b then v1 else if y=c then v2 else if y=d then v3 else if y=e then v4 else if y=f then v5 else if y=g then v6 else if y=h then v7 else m y:=by
  funext y
  rw [oAt_cons,oAt_cons,oAt_cons,oAt_cons,oAt_cons,oAt_cons,oAt_cons,oAt_cons,oAt_nil]
theorem oAt_seven (a b c d e f g:Str) (v0 v1 v2 v3 v4 v5 v6:Option PySem.Value) (m:Str→Option PySem.Value):oAt [(a,v0),(b,v1),(c,v2),(d,v3),(e,v4),(f,v5),(g,v6)] m=fun y=>if y=a then v0 else if y=b then v1 else if y=c then v2 else if y=d then v3 else if y=e then v4 else if y=f then v5 else if y=g then v6 else m y:=by
  funext y
  rw [oAt_cons,oAt_cons,oAt_cons,oAt_cons,oAt_cons,oAt_cons,oAt_cons,oAt_nil]
section
variable {w:World} {q:Program} {A:Around} {s:Shared} {Q E:PySem.Value→Shared→Prop}
theorem ne_bool_same {c:Bool} (h:Q (.bool false) s):wpAny (model q w) A (compareOp .NotEq (.bool c) (.bool c)) Q E s:=ne_bool (by rw [bne_self_eq_false];exact h)
end
section
set_option maxHeartbeats 4000000
abbrev law_rest_S {w:World} {p:Program} {loose:List Str} {mean:ExcName→Option Value} {mg mb:Str→Option Value} {L fa:Addr} {cd:Value} {g:Heap} {m:Str→Option Value} {s:Shared} {Q:Flow→Shared→Prop} {E:Value→Shared→Prop} {r v dv ix dx:Addr} {x1 x2 x3 x4 xa ya xo yo fo:Int} {tfo q1 q2 q3 q4 t0 t1 t2 t3:Tok} {nn:Nat} {bk:Bool} {tl:List (Addr×Obj)}:Prop:=∀ {ls:Addr} {od:Obj} {oi:Obj} (T:Top p loose mean mg mb g) (X:(Mine.hd.heap_39 w.params).In g) (B:Below callerA g [] g) (hE:PassesOwn (model PySem.Challenge.rw_nu0167_01.row.prog w) (lawA L fa cd) (lawEnv L fa cd) E) (V:ValIs w x1 x2 x3 x4 od) (I:InfoIs w xa ya xo yo oi) (hvd:@Ne Nat v dv) (r1:-32768≤x1∧x1≤32767) (r2:-32768≤x2∧x2≤32767) (r3:-32768≤x3∧x3≤32767) (r4:-32768≤x4∧x4≤32767) (n1:@Ne Nat ix dx) (n2:@Ne Nat dx v) (n3:@Ne Nat dx dv) (n4:@Ne Nat ix v) (n5:@Ne Nat ix dv) (n6:@Ne Nat dx r) (n7:@Ne Nat dx ls) (n8:NeAll dx tl) (F:Fr g L s.heap (oAt [(Str.ofString "row",some (.ref r)),(Str.ofString "value",some (.ref v)),(Str.ofString "info",some (.ref ix)),(Str.ofString "is_backward",some (.bool bk)),(Str.ofString "form",some (.int fo tfo)),(Str.ofString "sums",some (.ref ls))] m)) (N:News g L s.heap ((r,rowT x1 x2 x3 x4 q1 q2 q3 q4)::(v,instObj 94 dv)::(dv,od)::(ix,instObj 169 dx)::(dx,oi)::(ls,W.listOf #[.int xo t0,.int yo t1,.int xa t2,.int ya t3] nn)::tl)) (hret:∀ oi' ls' nn' t0' t1' t2' t3' h' tk',InfoIs w (xa+x3) ya (xo+x1) (yo+x2) oi'→@LT.lt Nat _ dx ls'→AllLt ls' tl→Fr g L h' (oAt [(Str.ofString "row",some (.ref r)),(Str.ofString "value",some (.ref v)),(Str.ofString "info",some (.ref ix)),(Str.ofString "is_backward",some (.bool bk)),(Str.ofString "form",some (.int fo tfo)),(Str.ofString "sums",some (.ref ls'))] m)→News g L h' ((r,rowT x1 x2 x3 x4 q1 q2 q3 q4)::(v,instObj 94 dv)::(dv,od)::(ix,instObj 169 dx)::(dx,oi')::(ls',W.listOf #[.int (xo+x1) t0',.int (yo+x2) t1',.int (xa+x3) t2',.int ya t3'] nn')::tl)→Q .next {s with heap:=h',toks:=tk'}),
    wpG (model PySem.Challenge.rw_nu0167_01.row.prog w) (lawA L fa cd) (execs ((forBody ((lawOf Mine.hd).body.drop 11)).drop 1) (lawEnv L fa cd)) Q E s
namespace law_rest_E
noncomputable section
def ep:=U fun w=>U fun p=>U fun loose=>U fun mean=>U fun mg=>U fun mb=>U fun L=>U fun fa=>U fun cd=>U fun g=>U fun m=>U fun s=>U fun Q=>U fun E=>U fun r=>U fun v=>U fun dv=>U fun ix=>U fun dx=>U fun x1=>U fun x2=>U fun x3=>U fun x4=>U fun xa=>U fun ya=>U fun xo=>U fun yo=>U fun fo=>U fun tfo=>U fun q1=>U fun q2=>U fun q3=>U fun q4=>U fun t0=>U fun t1=>U fun t2=>U fun t3=>U fun nn=>U fun bk=>fun tl=>¬ @law_rest_S w p loose mean mg mb L fa cd g m s Q E r v dv ix dx x1 x2 x3 x4 xa ya xo yo fo tfo q1 q2 q3 q4 t0 t1 t2 t3 nn bk tl
def ec:=pick ep (sW,df,[],df,df,df,0,0,df,{},df,{},df,df,0,0,0,0,0,0,0,0,0,0,0,0,0,0,0,0,0,0,0,0,0,0,0,0,false,[])
@[irreducible] def w:=ec.1
@[irreducible] def p:=ec.2.1
@[irreducible] def loose:=ec.2.2.1
@[irreducible] def mean:=ec.2.2.2.1
@[irreducible] def mg:=ec.2.2.2.2.1
@[irreducible] def mb:=ec.2.2.2.2.2.1
@[irreducible] def L:=ec.2.2.2.2.2.2.1
def ec1:=ec.2.2.2.2.2.2.2
@[irreducible] def fa:=ec1.1
@[irreducible] def cd:=ec1.2.1
@[irreducible] def g:=ec1.2.2.1
@[irreducible] def m:=ec1.2.2.2.1
@[irreducible] def s:=ec1.2.2.2.2.1
@[irreducible] def Q:=ec1.2.2.2.2.2.1
@[irreducible] def E:=ec1.2.2.2.2.2.2.1
def ec2:=ec1.2.2.2.2.2.2.2
@[irreducible] def r:=ec2.1
@[irreducible] def v:=ec2.2.1
@[irreducible] def dv:=ec2.2.2.1
@[irreducible] def ix:=ec2.2.2.2.1
@[irreducible] def dx:=ec2.2.2.2.2.1
@[irreducible] def x1:=ec2.2.2.2.2.2.1
@[irreducible] def x2:=ec2.2.2.2.2.2.2.1
def ec3:=ec2.2.2.2.2.2.2.2
@[irreducible] def x3:=ec3.1
@[irreducible] def x4:=ec3.2.1
@[irreducible] def xa:=ec3.2.2.1
@[irreducible] def ya:=ec3.2.2.2.1
@[irreducible] def xo:=ec3.2.2.2.2.1
@[irreducible] def yo:=ec3.2.2.2.2.2.1
@[irreducible] def fo:=ec3.2.2.2.2.2.2.1
def ec4:=ec3.2.2.2.2.2.2.2
@[irreducible] def tfo:=ec4.1
@[irreducible] def q1:=ec4.2.1
@[irreducible] def q2:=ec4.2.2.1
@[irreducible] def q3:=ec4.2.2.2.1
@[irreducible] def q4:=ec4.2.2.2.2.1
@[irreducible] def t0:=ec4.2.2.2.2.2.1
@[irreducible] def t1:=ec4.2.2.2.2.2.2.1
def ec5:=ec4.2.2.2.2.2.2.2
@[irreducible] def t2:=ec5.1
@[irreducible] def t3:=ec5.2.1
@[irreducible] def nn:=ec5.2.2.1
@[irreducible] def bk:=ec5.2.2.2.1
@[irreducible] def tl:=ec5.2.2.2.2
theorem ek:@law_rest_S w p loose mean mg mb L fa cd g m s Q E r v dv ix dx x1 x2 x3 x4 xa ya xo yo fo tfo q1 q2 q3 q4 t0 t1 t2 t3 nn bk tl:=by
  intro ls od oi T X B hE V I hvd r1 r2 r3 r4 n1 n2 n3 n4 n5 n6 n7 n8 F N hret
  dsimp only [lawA,lawEnv,lawOf,List.drop_succ_cons,List.drop_zero,forBody]
  rw [oAt_six] at F
  have hm9:0≤fo.fmod 240:=Int.fmod_nonneg_of_pos fo (by decide)
  have V':=V
  obtain ⟨k1,k2,k3,k4,u1,u2,u3,u4,hod⟩:=V'
  subst hod
  refine execsG_cons (IfG (OrG (CompareG (CallG ?_))))
  k_steps
  k_dflt (refine callWithG_K (K:=Mine.hd.heap_39 w.params) (by k_is) ?_)
  k_steps
  rename News _ _ _ _=>lN
  k_dflt (refine' written_nok V ?B ?F ?X ?XB ?TB ?N ?T ?hk ?hd ?hu hvd r1 r2 r3 r4 (by omega) (.inl (by omega)) ?_;(case B=>k_asm);(case F=>k_asm);(case X=>k_asm);(case XB=>k_asm);(case TB=>k_asm);(case N=>((refine news_sub lN ?_);k_allIn));(case T=>k_asm);(case hk=>exact rfl);(case hd=>ktr_room);(case hu=>ktr_units))
  intro h9 tk9 F9 K9
  have N8:=rejoinL lN F9 K9
  clear K9
  (try k_sweep)
  (try dsimp only)
  k_steps
  refine wpAny_allTrue_Or_cons ?_
  (repeat' (first|(k_unfold;(try dsimp only))|(k_end;wrow_close)|((with_reducible show wpAny _ _ (compareOp ..) _ _ _);(with_reducible (with_reducible refine ne_bool_same ?_)))|((with_reducible show wpAny _ _ (compareOp CmpOp.Eq (Value.ref _) (Value.ref _)) _ _ _);with_reducible ((k_here;(with_reducible show wpAny _ _ (compareOp CmpOp.Eq (Value.ref _) (Value.ref _)) _ _ _);k_dflt (refine eq_dataH (by ke_read) (by ke_read) (by ke_shaped) (by ke_shaped) (by ktr_units) ?_);ke_norm)))|((with_reducible show wpAny _ _ (call (Value.ref _) _) _ _ _);with_reducible (k_here;(try dsimp only [List.nil_append,List.cons_append]);(with_reducible show wpAny _ _ (call (Value.ref 91) _) _ _ _);(rename News _ _ _ _=>lN);k_dflt (refine' nothing_k (by assumption) (by k_asm) (by k_asm) (by k_asm) (by ((refine news_sub lN ?_);k_allIn)) (by k_asm) (by exact rfl) (by ktr_room) (by ktr_units)  ?_);intro h9 tk9 F9 K9;(have N8:=keep0 lN F9 K9);clear K9;(try k_sweep);(try dsimp only)))|walk1|(dsimp only;(with_reducible show wpAny _ _ (call (Value.ref _) _) _ _ _))|(dsimp only;walk1)|(leave1;walk_say "STEP leave1";try dsimp only)|fail "no step"))
  refine wpAny_allTrue_Or_cons ?_
  (repeat' (first|(k_unfold;(try dsimp only))|(k_end;wrow_close)|((with_reducible show wpAny _ _ (compareOp CmpOp.NotEq (Value.ref _) (Value.ref _)) _ _ _);with_reducible ((k_here;(with_reducible show wpAny _ _ (compareOp CmpOp.NotEq (Value.ref _) (Value.ref _)) _ _ _);k_dflt (refine ne_dataH (by ke_read) (by ke_read) (by ke_shaped) (by ke_shaped) (by ktr_units) ?_);ke_norm)))|((with_reducible show wpAny _ _ (call (Value.ref _) _) _ _ _);with_reducible (k_here;(try dsimp only [List.nil_append,List.cons_append]);(with_reducible show wpAny _ _ (call (Value.ref 84) _) _ _ _);(rename News _ _ _ _=>lN);k_dflt (refine' told_k (by assumption) (by k_asm) (by k_asm) (by k_asm) (by ((refine news_sub lN ?_);k_allIn)) (by k_asm) (by exact rfl) (by ktr_room) (by ktr_units)  ?_);intro tp9 t91 t92 t93 t94 h9 tk9 F9 N9 K9 O9;(k_dflt (have N8:=rejoin lN K9 N9 (.all fun _ _ h=>nomatch h)));clear K9 N9;(simp only [List.cons_append,List.nil_append] at N8);(try k_sweep);(try dsimp only)))|walk1|(dsimp only;(with_reducible show wpAny _ _ (call (Value.ref _) _) _ _ _))|(dsimp only;walk1)|(leave1;walk_say "STEP leave1";try dsimp only)|fail "no step"))
  refine wpAny_allTrue_Or_nil ?_
  (try dsimp only)
  k_steps
  refine execsG_nil ?_
  dsimp only
  refine execsG_leaf ?_
  (repeat' (first|(k_unfold;(try dsimp only))|(k_end;wrow_close)|((with_reducible show wpAny _ _ (call (Value.ref _) _) _ _ _);with_reducible (k_here;(try dsimp only [List.nil_append,List.cons_append]);(with_reducible show wpAny _ _ (call (Value.ref 138) _) _ _ _);(rename News _ _ _ _=>lN);(k_dflt (refine' add_k V I (by k_asm) (by k_asm) (by k_asm) (by ((refine news_sub lN ?_);k_allIn)) (by k_asm) (by exact rfl) (by ktr_room) (by ktr_units) n1 n2 n3 n4 n5 ?_);intro oi9 h9 tk9 I9 F9 N9 K9;(have N8:=rejoin lN K9 N9 (by k_dflt k_all));clear K9 N9;(simp only [List.cons_append,List.nil_append] at N8);(try k_sweep);(try dsimp only))))|walk1|(dsimp only;(with_reducible show wpAny _ _ (call (Value.ref _) _) _ _ _))|(dsimp only;walk1)|(leave1;walk_say "STEP leave1";try dsimp only)|fail "no step"))
  refine execsG_leaf ?_
  k_steps
  (try refine execsG_nil ?_)
  rename Fr _ _ _ _=>eF
  rename News _ _ _ _=>eN
  obtain ⟨la,_,_,_,_,_,_,lb⟩:=(by assumption:@LT.lt Nat _ dx _∧_∧_∧_∧_∧_∧_∧AllLt _ tl)
  exact hret _ _ _ _ _ _ _ _ _ I9 la lb (Fr.eqv eF (by
      intro y
      simp only [oAt_cons,oAt_nil]
      by_cases h0:y=Str.ofString "row"
      · subst h0;rfl
      by_cases h1:y=Str.ofString "value"
      · subst h1;rfl
      by_cases h2:y=Str.ofString "info"
      · subst h2;rfl
      by_cases h3:y=Str.ofString "is_backward"
      · subst h3;rfl
      by_cases h4:y=Str.ofString "form"
      · subst h4;rfl
      by_cases h5:y=Str.ofString "sums"
      · subst h5;rfl
      simp only [if_neg h0,if_neg h1,if_neg h2,if_neg h3,if_neg h4,if_neg h5])) (news_sub eN (by k_allIn))
end
end law_rest_E
theorem law_rest {w:World} {p:Program} {loose:List Str} {mean:ExcName→Option Value} {mg mb:Str→Option Value} {L fa:Addr} {cd:Value} {g:Heap} {m:Str→Option Value} {s:Shared} {Q:Flow→Shared→Prop} {E:Value→Shared→Prop} {r v dv ix dx:Addr} {x1 x2 x3 x4 xa ya xo yo fo:Int} {tfo q1 q2 q3 q4 t0 t1 t2 t3:Tok} {nn:Nat} {bk:Bool} {tl:List (Addr×Obj)}:@law_rest_S w p loose mean mg mb L fa cd g m s Q E r v dv ix dx x1 x2 x3 x4 xa ya xo yo fo tfo q1 q2 q3 q4 t0 t1 t2 t3 nn bk tl:=@Classical.byContradiction _ fun h=>pick_all (P:=law_rest_E.ep) (by with_unfolding_all exact fun k=>k @law_rest_E.ek) (w,p,loose,mean,mg,mb,L,fa,cd,g,m,s,Q,E,r,v,dv,ix,dx,x1,x2,x3,x4,xa,ya,xo,yo,fo,tfo,q1,q2,q3,q4,t0,t1,t2,t3,nn,bk,tl) h
end
end
section
set_option Elab.async false
set_option maxRecDepth 100000
set_option maxHeartbeats 4000000
set_option linter.unusedVariables false
set_option pp.deepTerms false
set_option pp.maxSteps 2000
theorem GTurn.of {h₀:Heap} {L I:Addr} {oI:Obj} {m₀ m':Str→Option PySem.Value} {J:OedJ} {s₁:Shared} {Q:Flow→Shared→Prop} {h':Heap} {tk':Nat} {nx':List (Addr×Obj)} {ps':List (Str×Option PySem.Value)} (F:Fr h₀ L h' m') (N:News h₀ L h' ((I,oI)::nx')) (hJ:J ps' nx') (ha:NeAll I nx') (hm:∀ y,m' y=oAt ps' m₀ y) :
    GTurn h₀ L m₀ [(I,oI)] [I] J s₁ Q .next {s₁ with heap:=h',toks:=tk'} :=
  GTurn.next1 F N (.head _) hJ (fun _ hp=>.tail _ hp) ha hm
section
section
variable {w:World} {p:Program} {loose:List Str} {mean:ExcName→Option Value} {mg mb:Str→Option Value} {L fa:Addr} {cd:Value} {g:Heap} {m:Str→Option Value} {s:Shared} {Q:Flow→Shared→Prop} {E:Value→Shared→Prop}
def InJ (r v dv ix dx ls:Addr) (od oi:Obj) (x1 x2 x3 x4 xa ya xo yo fo:Int) (tfo q1 q2 q3 q4 t0 t1 t2 t3:Tok) (nn:Nat) (bk:Bool) (tl:List (Addr×Obj)) (i:Nat) (ps:List (Str×Option Value)) (nx:List (Addr×Obj)):Prop :=
  ∃ o1 o2,ps=[(Str.ofString "one",o1),(Str.ofString "due",o2),(Str.ofString "row",some (.ref r)),(Str.ofString "value",some (.ref v)),(Str.ofString "info",some (.ref ix)),(Str.ofString "is_backward",some (.bool bk)),(Str.ofString "form",some (.int fo tfo)),(Str.ofString "sums",some (.ref ls))]∧nx=(r,rowT x1 x2 x3 x4 q1 q2 q3 q4)::(v,instObj 94 dv)::(dv,od)::(ix,instObj 169 dx)::(dx,oi)::(ls,W.listOf #[.int xo t0,.int yo t1,.int xa t2,.int ya t3] nn)::tl
end
set_option maxHeartbeats 4000000
abbrev law_turn_S {w:World} {p:Program} {loose:List Str} {mean:ExcName→Option Value} {mg mb:Str→Option Value} {L fa:Addr} {cd:Value} {g:Heap} {m:Str→Option Value} {s:Shared} {Q:Flow→Shared→Prop} {E:Value→Shared→Prop} {r v dv ix dx ls:Addr} {x1 x2 x3 x4 xa ya xo yo fo:Int} {tfo q1 q2 q3 q4 t0 t1 t2 t3:Tok} {nn:Nat} {bk:Bool} {o1 o2:Option Value}:Prop:=∀ {od:Obj} {oi:Obj} {tl:List (Addr×Obj)} (T:Top p loose mean mg mb g) (X:(Mine.hd.heap_39 w.params).In g) (B:Below callerA g [] g) (hE:PassesOwn (model PySem.Challenge.rw_nu0167_01.row.prog w) (lawA L fa cd) (lawEnv L fa cd) E) (V:ValIs w x1 x2 x3 x4 od) (I:InfoIs w xa ya xo yo oi) (hvd:@Ne Nat v dv) (r1:-32768≤x1∧x1≤32767) (r2:-32768≤x2∧x2≤32767) (r3:-32768≤x3∧x3≤32767) (r4:-32768≤x4∧x4≤32767) (n1:@Ne Nat ix dx) (n2:@Ne Nat dx v) (n3:@Ne Nat dx dv) (n4:@Ne Nat ix v) (n5:@Ne Nat ix dv) (n6:@Ne Nat dx r) (n7:@Ne Nat dx ls) (n8:NeAll dx tl) (F:Fr g L s.heap (oAt [(Str.ofString "one",o1),(Str.ofString "due",o2),(Str.ofString "row",some (.ref r)),(Str.ofString "value",some (.ref v)),(Str.ofString "info",some (.ref ix)),(Str.ofString "is_backward",some (.bool bk)),(Str.ofString "form",some (.int fo tfo)),(Str.ofString "sums",some (.ref ls))] m)) (N:News g L s.heap ((r,rowT x1 x2 x3 x4 q1 q2 q3 q4)::(v,instObj 94 dv)::(dv,od)::(ix,instObj 169 dx)::(dx,oi)::(ls,W.listOf #[.int xo t0,.int yo t1,.int xa t2,.int ya t3] nn)::tl)) (hret:∀ oi' ls' nn' t0' t1' t2' t3' o1' o2' h' tk',InfoIs w (xa+x3) ya (xo+x1) (yo+x2) oi'→@LT.lt Nat _ dx ls'→AllLt ls' tl→Fr g L h' (oAt [(Str.ofString "one",o1'),(Str.ofString "due",o2'),(Str.ofString "row",some (.ref r)),(Str.ofString "value",some (.ref v)),(Str.ofString "info",some (.ref ix)),(Str.ofString "is_backward",some (.bool bk)),(Str.ofString "form",some (.int fo tfo)),(Str.ofString "sums",some (.ref ls'))] m)→News g L h' ((r,rowT x1 x2 x3 x4 q1 q2 q3 q4)::(v,instObj 94 dv)::(dv,od)::(ix,instObj 169 dx)::(dx,oi')::(ls',W.listOf #[.int (xo+x1) t0',.int (yo+x2) t1',.int (xa+x3) t2',.int ya t3'] nn')::tl)→Q .next {s with heap:=h',toks:=tk'}),
    wpG (model PySem.Challenge.rw_nu0167_01.row.prog w) (lawA L fa cd) (execs ((forBody ((lawOf Mine.hd).body.drop 11)).drop 0) (lawEnv L fa cd)) Q E s
namespace law_turn_E
noncomputable section
def ep:=U fun w=>U fun p=>U fun loose=>U fun mean=>U fun mg=>U fun mb=>U fun L=>U fun fa=>U fun cd=>U fun g=>U fun m=>U fun s=>U fun Q=>U fun E=>U fun r=>U fun v=>U fun dv=>U fun ix=>U fun dx=>U fun ls=>U fun x1=>U fun x2=>U fun x3=>U fun x4=>U fun xa=>U fun ya=>U fun xo=>U fun yo=>U fun fo=>U fun tfo=>U fun q1=>U fun q2=>U fun q3=>U fun q4=>U fun t0=>U fun t1=>U fun t2=>U fun t3=>U fun nn=>U fun bk=>U fun o1=>fun o2=>¬ @law_turn_S w p loose mean mg mb L fa cd g m s Q E r v dv ix dx ls x1 x2 x3 x4 xa ya xo yo fo tfo q1 q2 q3 q4 t0 t1 t2 t3 nn bk o1 o2
def ec:=pick ep (sW,df,[],df,df,df,0,0,df,{},df,{},df,df,0,0,0,0,0,0,0,0,0,0,0,0,0,0,0,0,0,0,0,0,0,0,0,0,0,false,none,none)
@[irreducible] def w:=ec.1
@[irreducible] def p:=ec.2.1
@[irreducible] def loose:=ec.2.2.1
@[irreducible] def mean:=ec.2.2.2.1
@[irreducible] def mg:=ec.2.2.2.2.1
@[irreducible] def mb:=ec.2.2.2.2.2.1
@[irreducible] def L:=ec.2.2.2.2.2.2.1
def ec1:=ec.2.2.2.2.2.2.2
@[irreducible] def fa:=ec1.1
@[irreducible] def cd:=ec1.2.1
@[irreducible] def g:=ec1.2.2.1
@[irreducible] def m:=ec1.2.2.2.1
@[irreducible] def s:=ec1.2.2.2.2.1
@[irreducible] def Q:=ec1.2.2.2.2.2.1
@[irreducible] def E:=ec1.2.2.2.2.2.2.1
def ec2:=ec1.2.2.2.2.2.2.2
@[irreducible] def r:=ec2.1
@[irreducible] def v:=ec2.2.1
@[irreducible] def dv:=ec2.2.2.1
@[irreducible] def ix:=ec2.2.2.2.1
@[irreducible] def dx:=ec2.2.2.2.2.1
@[irreducible] def ls:=ec2.2.2.2.2.2.1
@[irreducible] def x1:=ec2.2.2.2.2.2.2.1
def ec3:=ec2.2.2.2.2.2.2.2
@[irreducible] def x2:=ec3.1
@[irreducible] def x3:=ec3.2.1
@[irreducible] def x4:=ec3.2.2.1
@[irreducible] def xa:=ec3.2.2.2.1
@[irreducible] def ya:=ec3.2.2.2.2.1
@[irreducible] def xo:=ec3.2.2.2.2.2.1
@[irreducible] def yo:=ec3.2.2.2.2.2.2.1
def ec4:=ec3.2.2.2.2.2.2.2
@[irreducible] def fo:=ec4.1
@[irreducible] def tfo:=ec4.2.1
@[irreducible] def q1:=ec4.2.2.1
@[irreducible] def q2:=ec4.2.2.2.1
@[irreducible] def q3:=ec4.2.2.2.2.1
@[irreducible] def q4:=ec4.2.2.2.2.2.1
@[irreducible] def t0:=ec4.2.2.2.2.2.2.1
def ec5:=ec4.2.2.2.2.2.2.2
@[irreducible] def t1:=ec5.1
@[irreducible] def t2:=ec5.2.1
@[irreducible] def t3:=ec5.2.2.1
@[irreducible] def nn:=ec5.2.2.2.1
@[irreducible] def bk:=ec5.2.2.2.2.1
@[irreducible] def o1:=ec5.2.2.2.2.2.1
@[irreducible] def o2:=ec5.2.2.2.2.2.2
theorem ek:@law_turn_S w p loose mean mg mb L fa cd g m s Q E r v dv ix dx ls x1 x2 x3 x4 xa ya xo yo fo tfo q1 q2 q3 q4 t0 t1 t2 t3 nn bk o1 o2:=by
  intro od oi tl T X B hE V I hvd r1 r2 r3 r4 n1 n2 n3 n4 n5 n6 n7 n8 F N hret
  dsimp only [lawA,lawEnv,lawOf,List.drop_succ_cons,List.drop_zero,forBody]
  rw [oAt_eight] at F
  refine execsG_cons (ForG ?_)
  (repeat' (first|(k_unfold;(try dsimp only))|(k_end;wrow_close)|((with_reducible show wpAny _ _ (call (Value.type "range") _) _ _ _);(with_reducible ((rename Fr _ _ _ _=>F');(rename News _ _ _ _=>N');first|(with_unfolding_all refine range1_rows F' N' ?_;intro _ _ _ _ _ _ _ _ _)|(with_unfolding_all refine range2_rows F' N' ?_;intro _ _ _ _ _ _ _ _ _))))|walk1|(dsimp only;walk1)|(dsimp only;walk1)|(leave1;walk_say "STEP leave1";try dsimp only)|fail "no step"))
  rename IsRange _ _ _ _ _ _ _ _=>rg
  rename Fr _ _ _ _=>lF
  rename News _ _ _ _=>lN
  refine rangeG (n:=16) (InJ r v dv ix dx ls od oi x1 x2 x3 x4 xa ya xo yo fo tfo q1 q2 q3 q4 t0 t1 t2 t3 nn bk tl) rfl rg (by decide +kernel) (by decide +kernel) lF lN [Str.ofString "one",Str.ofString "due",Str.ofString "row",Str.ofString "value",Str.ofString "info",Str.ofString "is_backward",Str.ofString "form",Str.ofString "sums"] ⟨o1,o2,rfl,rfl⟩ (by k_allIn) (by passes_own) ?turn ?done
  case done =>
    intro ps nx h tk hJ F1 N1
    obtain ⟨o1',o2',rfl,rfl⟩:=hJ
    dsimp only
    dsimp only [envOfC] at F1 N1
    clear lF lN
    have F2:Fr g L h (oAt [(Str.ofString "row",some (.ref r)),(Str.ofString "value",some (.ref v)),(Str.ofString "info",some (.ref ix)),(Str.ofString "is_backward",some (.bool bk)),(Str.ofString "form",some (.int fo tfo)),(Str.ofString "sums",some (.ref ls))] _):=Fr.as F1 [Str.ofString "row",Str.ofString "value",Str.ofString "info",Str.ofString "is_backward",Str.ofString "form",Str.ofString "sums"]
    have key:=fun Q hq=>law_rest (Q:=Q) (s:={s with heap:=h,toks:=tk}) T X B hE V I hvd r1 r2 r3 r4 n1 n2 n3 n4 n5 n6 n7 n8 F2 N1 hq
    dsimp only [lawA,lawEnv,lawOf,List.drop_succ_cons,List.drop_zero,forBody] at key
    refine key _ fun oi' ls' nn' t0' t1' t2' t3' h' tk' I' la lb F' N'=>hret oi' ls' nn' t0' t1' t2' t3' o1' o2' h' tk' I' la lb (Fr.eqv F' (by
      intro y
      simp only [oAt_cons,oAt_nil]
      by_cases h0:y=Str.ofString "one"
      · subst h0;rfl
      by_cases h1:y=Str.ofString "due"
      · subst h1;rfl
      by_cases h2:y=Str.ofString "row"
      · subst h2;rfl
      by_cases h3:y=Str.ofString "value"
      · subst h3;rfl
      by_cases h4:y=Str.ofString "info"
      · subst h4;rfl
      by_cases h5:y=Str.ofString "is_backward"
      · subst h5;rfl
      by_cases h6:y=Str.ofString "form"
      · subst h6;rfl
      by_cases h7:y=Str.ofString "sums"
      · subst h7;rfl
      simp only [if_neg h0,if_neg h1,if_neg h2,if_neg h3,if_neg h4,if_neg h5,if_neg h6,if_neg h7])) N'
  case turn =>
    intro i t ps nx I oI h tk hi ne1 hJ F1 N1
    obtain ⟨o1',o2',rfl,rfl⟩:=hJ
    rw [oAt_eight] at F1
    dsimp only [envOfC] at F1 N1
    clear lF lN
    k_steps
    rename Fr _ _ _ _=>eF
    rename News _ _ _ _=>eN
    have F2:Fr g L _ (oAt [(Str.ofString "one",some (.int (0+(i:Int)) t)),(Str.ofString "due",o2'),(Str.ofString "row",some (.ref r)),(Str.ofString "value",some (.ref v))] _):=Fr.as eF [Str.ofString "one",Str.ofString "due",Str.ofString "row",Str.ofString "value"]
    have N2:News g L _ ((r,rowT x1 x2 x3 x4 q1 q2 q3 q4)::(v,instObj 94 dv)::(dv,od)::(I,oI)::(ix,instObj 169 dx)::(dx,oi)::(ls,W.listOf #[.int xo t0,.int yo t1,.int xa t2,.int ya t3] nn)::tl):=news_sub eN (by k_allIn)
    have key:=fun Q tk9 hq=>law_in (Q:=Q) (s:={s with heap:=_,toks:=tk9}) T X B hE V hvd r1 r2 r3 r4 (f:=0+(i:Int)) (by omega) (by omega) F2 N2 hq
    dsimp only [lawA,lawEnv,lawOf,List.drop_succ_cons,List.drop_zero,forBody] at key
    refine key _ _ fun o' h' tk' F' N'=>?_
    refine' GTurn.of ?FA ?NA ?hJA ?haA ?hmA
    case hJA=>exact ⟨some (.int (0+(i:Int)) t),o',rfl,rfl⟩
    case FA=>exact F'
    case NA=>exact news_sub N' (by k_allIn)
    case haA=>exact ne1
    case hmA=>exact (by
      intro y
      simp only [oAt_cons,oAt_nil]
      by_cases h0:y=Str.ofString "one"
      · subst h0;rfl
      by_cases h1:y=Str.ofString "due"
      · subst h1;rfl
      by_cases h2:y=Str.ofString "row"
      · subst h2;rfl
      by_cases h3:y=Str.ofString "value"
      · subst h3;rfl
      by_cases h4:y=Str.ofString "info"
      · subst h4;rfl
      by_cases h5:y=Str.ofString "is_backward"
      · subst h5;rfl
      by_cases h6:y=Str.ofString "form"
      · subst h6;rfl
      by_cases h7:y=Str.ofString "sums"
      · subst h7;rfl
      simp only [if_neg h0,if_neg h1,if_neg h2,if_neg h3,if_neg h4,if_neg h5,if_neg h6,if_neg h7])
end
end law_turn_E
theorem law_turn {w:World} {p:Program} {loose:List Str} {mean:ExcName→Option Value} {mg mb:Str→Option Value} {L fa:Addr} {cd:Value} {g:Heap} {m:Str→Option Value} {s:Shared} {Q:Flow→Shared→Prop} {E:Value→Shared→Prop} {r v dv ix dx ls:Addr} {x1 x2 x3 x4 xa ya xo yo fo:Int} {tfo q1 q2 q3 q4 t0 t1 t2 t3:Tok} {nn:Nat} {bk:Bool} {o1 o2:Option Value}:@law_turn_S w p loose mean mg mb L fa cd g m s Q E r v dv ix dx ls x1 x2 x3 x4 xa ya xo yo fo tfo q1 q2 q3 q4 t0 t1 t2 t3 nn bk o1 o2:=@Classical.byContradiction _ fun h=>pick_all (P:=law_turn_E.ep) (by with_unfolding_all exact fun k=>k @law_turn_E.ek) (w,p,loose,mean,mg,mb,L,fa,cd,g,m,s,Q,E,r,v,dv,ix,dx,ls,x1,x2,x3,x4,xa,ya,xo,yo,fo,tfo,q1,q2,q3,q4,t0,t1,t2,t3,nn,bk,o1,o2) h
end
end
section
set_option Elab.async false
set_option maxRecDepth 100000
set_option maxHeartbeats 4000000
set_option linter.unusedVariables false
set_option pp.deepTerms false
set_option pp.maxSteps 2000
local macro_rules | `(tactic| k_allIn)=>`(tactic| first|exact List.forall_mem_nil _|(refine List.forall_mem_cons.mpr ⟨by k_memK, ?_⟩;k_allIn)|(intro p9 hp9;(repeat (first|exact hp9|exact List.mem_append_left _ hp9|refine List.Mem.tail _ ?_))))
def Hold (P:Prop):Prop:=P
theorem held {P:Prop} (h:Hold P):P:=h
structure RV where
  r:Addr
  q1:Tok
  q2:Tok
  q3:Tok
  q4:Tok
  v:VR
def zrefs (ZS:List RV):List PySem.Value:=ZS.map fun z=>.ref z.r
def zvals (ZS:List RV):List PySem.Value:=ZS.map fun z=>.ref z.v.a
abbrev RV.obj (z:RV):Obj:=rowT z.v.x1 z.v.x2 z.v.x3 z.v.x4 z.q1 z.q2 z.q3 z.q4
def Small (x:Int):Prop:=-32768≤x∧x≤32767
def ZIn (w:World) (ZS:List RV) (tl:List (Addr×Obj)):Prop:=∀ z∈ZS,(z.r,z.obj)∈tl∧(z.v.a,instObj 94 z.v.d)∈tl∧(z.v.d,z.v.o)∈tl∧ValIs w z.v.x1 z.v.x2 z.v.x3 z.v.x4 z.v.o∧@Ne Nat z.v.a z.v.d∧Small z.v.x1∧Small z.v.x2∧Small z.v.x3∧Small z.v.x4
theorem zz_at {ZS:List RV} {i:Nat} {x y:PySem.Value} (hx:(zrefs ZS)[i]? = some x) (hy:(zvals ZS)[i]? = some y):∃ z,z∈ZS∧x=.ref z.r∧y=.ref z.v.a:=by
  unfold zrefs at hx
  unfold zvals at hy
  rw [List.getElem?_map] at hx hy
  obtain ⟨z,hz,e⟩:=Option.map_eq_some_iff.mp hx
  obtain ⟨z',hz',e'⟩:=Option.map_eq_some_iff.mp hy
  have hq:z'=z:=Option.some.inj (hz'.symm.trans hz)
  exact ⟨z,List.mem_of_getElem? hz,e.symm,by rw [← e',hq]⟩
theorem neAll_all {a:Addr} {r:List (Addr×Obj)} (k:∀ q∈r,a≠q.1):NeAll a r:=by
  induction r with
  | nil=>exact True.intro
  | cons q r ih=>exact ⟨fun e=>k q (.head _) e.symm,ih fun p hp=>k p (.tail _ hp)⟩
theorem neAll_app {a:Addr} {l r:List (Addr×Obj)} (h:NeAll a l) (k:∀ q∈r,a≠q.1):NeAll a (l++r):=by
  induction l with
  | nil=>exact neAll_all k
  | cons q l ih=>exact ⟨h.1,ih h.2⟩
theorem allLt_mem {d:Addr} {l:List (Addr×Obj)} (h:AllLt d l) (p:Addr×Obj) (hp:p∈l):@LT.lt Nat _ p.1 d:=by
  induction l with
  | nil=>exact nomatch hp
  | cons q l ih =>
    rcases List.mem_cons.mp hp with e|hp
    · rw [e];exact h.1
    · exact ih h.2 hp
theorem neAll_mem {a:Addr} {l:List (Addr×Obj)} (h:NeAll a l) {p:Addr×Obj} (hp:p∈l):@Ne Nat a p.1:=fun e=>neAll_to h p hp (by
  have e:p.1=a:=e.symm
  rw [e];exact .head _)
theorem GTurn.ofZ {h₀:Heap} {L:Addr} {its:List (Addr×Obj)} {m₀ m':Str→Option PySem.Value} {J:OedJ} {s₁:Shared} {Q:Flow→Shared→Prop} {h':Heap} {tk':Nat} {big nx':List (Addr×Obj)} {ps':List (Str×Option PySem.Value)} (F:Fr h₀ L h' m') (N:News h₀ L h' big) (hI:∀ p∈its,p∈big) (hJ:J ps' nx') (hn:∀ p∈nx',p∈big) (ha:∀ p∈nx',∀ q∈its,p.1≠q.1) (hm:∀ y,m' y=oAt ps' m₀ y) :
    GTurn h₀ L m₀ its (its.map (·.1)) J s₁ Q .next {s₁ with heap:=h',toks:=tk'} :=
  ⟨h',tk',m',big,nx',ps',rfl,F,N,hI,hn,fun p hp hq=>by
    obtain ⟨q,hq,e⟩:=List.mem_map.mp hq
    exact ha p hp q hq e.symm,hm,hJ⟩
section
section
variable {w:World} {p:Program} {loose:List Str} {mean:ExcName→Option Value} {mg mb:Str→Option Value} {L fa:Addr} {cd:Value} {g:Heap} {m:Str→Option Value} {s:Shared} {Q:Flow→Shared→Prop} {E:Value→Shared→Prop}
def ZJ (w:World) (L:Addr) (oc:Obj) (lr lv ix dx:Addr) (ZS:List RV) (c1 c2:Nat) (fo:Int) (tfo:Tok) (bk:Bool) (tl:List (Addr×Obj)) (i:Nat) (ps:List (Str×Option Value)) (nx:List (Addr×Obj)):Prop :=
  ∃ o1 o2 o3 o4 oi ls nn t0 t1 t2 t3 xa ya xo yo,InfoIs w xa ya xo yo oi∧@Ne Nat dx ls∧ps=[(Str.ofString "one",o1),(Str.ofString "due",o2),(Str.ofString "row",o3),(Str.ofString "value",o4),(Str.ofString "info",some (.ref ix)),(Str.ofString "is_backward",some (.bool bk)),(Str.ofString "form",some (.int fo tfo)),(Str.ofString "sums",some (.ref ls))]∧nx=(L+1+1,oc)::(lr,W.listOf (zrefs ZS).toArray c1)::(lv,W.listOf (zvals ZS).toArray c2)::(ix,instObj 169 dx)::(dx,oi)::(ls,W.listOf #[.int xo t0,.int yo t1,.int xa t2,.int ya t3] nn)::tl
end
set_option maxHeartbeats 4000000
abbrev law_t11_S {w:World} {p:Program} {loose:List Str} {mean:ExcName→Option Value} {mg mb:Str→Option Value} {L fa:Addr} {cd:Value} {g:Heap} {m:Str→Option Value} {s:Shared} {Q:Flow→Shared→Prop} {E:Value→Shared→Prop} {lr lv ix dx ls:Addr} {oc:Obj} {ZS:List RV} {c1 c2:Nat} {xa ya xo yo fo:Int} {tfo t0 t1 t2 t3:Tok} {nn:Nat} {bk:Bool}:Prop:=∀ {oi:Obj} {tl:List (Addr×Obj)} (T:Top p loose mean mg mb g) (X:(Mine.hd.heap_39 w.params).In g) (B:Below callerA g [] g) (hE:PassesOwn (model PySem.Challenge.rw_nu0167_01.row.prog w) (lawA L fa cd) (lawEnv L fa cd) E) (hend:∀ h' tk',(∀ b o,g.get? b=some o→h'.get? b=some o)→Q (.ret (.bool true)) {s with heap:=h',toks:=tk'}) (I:InfoIs w xa ya xo yo oi) (Z:ZIn w ZS tl) (hoc:oc.data=.cell (some (.ref lr))) (n1:@Ne Nat ix dx) (n7:@Ne Nat dx ls) (n8:NeAll dx ((L+1+1,oc)::(lr,W.listOf (zrefs ZS).toArray c1)::(lv,W.listOf (zvals ZS).toArray c2)::tl)) (n9:NeAll ix tl) (F:Fr g L s.heap (oAt [(Str.ofString "values",some (.ref lv)),(Str.ofString "info",some (.ref ix)),(Str.ofString "is_backward",some (.bool bk)),(Str.ofString "form",some (.int fo tfo)),(Str.ofString "sums",some (.ref ls))] m)) (N:News g L s.heap ((L+1+1,oc)::(lr,W.listOf (zrefs ZS).toArray c1)::(lv,W.listOf (zvals ZS).toArray c2)::(ix,instObj 169 dx)::(dx,oi)::(ls,W.listOf #[.int xo t0,.int yo t1,.int xa t2,.int ya t3] nn)::tl)),
    wpG (model PySem.Challenge.rw_nu0167_01.row.prog w) (lawA L fa cd) (execs ((lawOf Mine.hd).body.drop 11) (lawEnv L fa cd)) Q E s
namespace law_t11_E
noncomputable section
def ep:=U fun w=>U fun p=>U fun loose=>U fun mean=>U fun mg=>U fun mb=>U fun L=>U fun fa=>U fun cd=>U fun g=>U fun m=>U fun s=>U fun Q=>U fun E=>U fun lr=>U fun lv=>U fun ix=>U fun dx=>U fun ls=>U fun oc=>U fun ZS=>U fun c1=>U fun c2=>U fun xa=>U fun ya=>U fun xo=>U fun yo=>U fun fo=>U fun tfo=>U fun t0=>U fun t1=>U fun t2=>U fun t3=>U fun nn=>fun bk=>¬ @law_t11_S w p loose mean mg mb L fa cd g m s Q E lr lv ix dx ls oc ZS c1 c2 xa ya xo yo fo tfo t0 t1 t2 t3 nn bk
def ec:=pick ep (sW,df,[],df,df,df,0,0,df,{},df,{},df,df,0,0,0,0,0,df,[],0,0,0,0,0,0,0,0,0,0,0,0,0,false)
@[irreducible] def w:=ec.1
@[irreducible] def p:=ec.2.1
@[irreducible] def loose:=ec.2.2.1
@[irreducible] def mean:=ec.2.2.2.1
@[irreducible] def mg:=ec.2.2.2.2.1
@[irreducible] def mb:=ec.2.2.2.2.2.1
@[irreducible] def L:=ec.2.2.2.2.2.2.1
def ec1:=ec.2.2.2.2.2.2.2
@[irreducible] def fa:=ec1.1
@[irreducible] def cd:=ec1.2.1
@[irreducible] def g:=ec1.2.2.1
@[irreducible] def m:=ec1.2.2.2.1
@[irreducible] def s:=ec1.2.2.2.2.1
@[irreducible] def Q:=ec1.2.2.2.2.2.1
@[irreducible] def E:=ec1.2.2.2.2.2.2.1
def ec2:=ec1.2.2.2.2.2.2.2
@[irreducible] def lr:=ec2.1
@[irreducible] def lv:=ec2.2.1
@[irreducible] def ix:=ec2.2.2.1
@[irreducible] def dx:=ec2.2.2.2.1
@[irreducible] def ls:=ec2.2.2.2.2.1
@[irreducible] def oc:=ec2.2.2.2.2.2.1
@[irreducible] def ZS:=ec2.2.2.2.2.2.2.1
def ec3:=ec2.2.2.2.2.2.2.2
@[irreducible] def c1:=ec3.1
@[irreducible] def c2:=ec3.2.1
@[irreducible] def xa:=ec3.2.2.1
@[irreducible] def ya:=ec3.2.2.2.1
@[irreducible] def xo:=ec3.2.2.2.2.1
@[irreducible] def yo:=ec3.2.2.2.2.2.1
@[irreducible] def fo:=ec3.2.2.2.2.2.2.1
def ec4:=ec3.2.2.2.2.2.2.2
@[irreducible] def tfo:=ec4.1
@[irreducible] def t0:=ec4.2.1
@[irreducible] def t1:=ec4.2.2.1
@[irreducible] def t2:=ec4.2.2.2.1
@[irreducible] def t3:=ec4.2.2.2.2.1
@[irreducible] def nn:=ec4.2.2.2.2.2.1
@[irreducible] def bk:=ec4.2.2.2.2.2.2
theorem ek:@law_t11_S w p loose mean mg mb L fa cd g m s Q E lr lv ix dx ls oc ZS c1 c2 xa ya xo yo fo tfo t0 t1 t2 t3 nn bk:=by
  intro oi tl T X B hE hend I Z hoc n1 n7 n8 n9 F N
  dsimp only [lawA,lawEnv,lawOf,List.drop_succ_cons,List.drop_zero]
  rw [oAt_five] at F
  refine execsG_cons (ForG ?_)
  (repeat' (first|(k_unfold;(try dsimp only))|(k_end;wrow_close)|((with_reducible show wpAny _ _ (call (Value.type "zip") _) _ _ _);(with_reducible (((rename Fr _ _ _ _=>lF);(rename News _ _ _ _=>lN);k_dflt (refine zipG (xs:=zrefs ZS) (ys:=zvals ZS) (ZJ w L oc lr lv ix dx ZS c1 c2 fo tfo bk tl) rfl lF lN rfl rfl rfl rfl [Str.ofString "one",Str.ofString "due",Str.ofString "row",Str.ofString "value",Str.ofString "info",Str.ofString "is_backward",Str.ofString "form",Str.ofString "sums"] ⟨_,_,_,_,_,_,_,_,_,_,_,_,_,_,_,I,n7,rfl,rfl⟩ (by k_allIn) (fun i ps nx hJ=>by obtain ⟨_,_,_,_,_,_,_,_,_,_,_,_,_,_,_,_,_,_,rfl⟩:=hJ;exact ⟨.tail _ (.head _),.tail _ (.tail _ (.head _))⟩) (by passes_own) (held ?turn) (held ?done))))))|walk1|(dsimp only;walk1)|(dsimp only;walk1)|(leave1;walk_say "STEP leave1";try dsimp only)|fail "no step"))
  case done =>
    unfold Hold
    intro ps nx h tk hJ F1 N1
    obtain ⟨o1,o2,o3,o4,oi',ls',nn',t0',t1',t2',t3',xa',ya',xo',yo',I',n7',rfl,rfl⟩:=hJ
    dsimp only
    dsimp only [envOfC] at F1 N1
    clear lF lN
    have F2:Fr g L h (oAt [(Str.ofString "info",some (.ref ix)),(Str.ofString "sums",some (.ref ls'))] _):=Fr.as F1 [Str.ofString "info",Str.ofString "sums"]
    have N2:News g L h ((ix,instObj 169 dx)::(dx,oi')::(ls',W.listOf #[.int xo' t0',.int yo' t1',.int xa' t2',.int ya' t3'] nn')::tl):=news_sub N1 (by k_allIn)
    have key:=law_t12 (s:={s with heap:=h,toks:=tk}) T X B hE hend F2 N2 I'
    dsimp only [lawA,lawEnv,lawOf,List.drop_succ_cons,List.drop_zero] at key
    exact key
  case turn =>
    unfold Hold
    intro i Tt x y ps nx its h tk hx hy hT hd hJ F1 N1
    obtain ⟨o1,o2,o3,o4,oi',ls',nn',t0',t1',t2',t3',xa',ya',xo',yo',I',n7',rfl,rfl⟩:=hJ
    obtain ⟨z,hz,rfl,rfl⟩:=zz_at hx hy
    obtain ⟨M1,M2,M3,V,hvd,r1,r2,r3,r4⟩:=Z z hz
    simp only [List.cons_append] at N1
    rw [oAt_eight] at F1
    dsimp only [envOfC] at F1 N1
    clear lF lN
    k_steps
    rename Fr _ _ _ _=>eF
    rename News _ _ _ _=>eN
    have F2:Fr g L _ (oAt [(Str.ofString "one",o1),(Str.ofString "due",o2),(Str.ofString "row",some (.ref z.r)),(Str.ofString "value",some (.ref z.v.a)),(Str.ofString "info",some (.ref ix)),(Str.ofString "is_backward",some (.bool bk)),(Str.ofString "form",some (.int fo tfo)),(Str.ofString "sums",some (.ref ls'))] _):=Fr.as eF [Str.ofString "one",Str.ofString "due",Str.ofString "row",Str.ofString "value",Str.ofString "info",Str.ofString "is_backward",Str.ofString "form",Str.ofString "sums"]
    have N2:News g L _ ((z.r,rowT z.v.x1 z.v.x2 z.v.x3 z.v.x4 z.q1 z.q2 z.q3 z.q4)::(z.v.a,instObj 94 z.v.d)::(z.v.d,z.v.o)::(ix,instObj 169 dx)::(dx,oi')::(ls',W.listOf #[.int xo' t0',.int yo' t1',.int xa' t2',.int ya' t3'] nn')::(L+1+1,oc)::(lr,W.listOf (zrefs ZS).toArray c1)::(lv,W.listOf (zvals ZS).toArray c2)::(tl++its)):=news_sub eN (by
      have up:∀ p∈tl,p∈(L+1+1,oc)::(lr,W.listOf (zrefs ZS).toArray c1)::(lv,W.listOf (zvals ZS).toArray c2)::(ix,instObj 169 dx)::(dx,oi')::(ls',W.listOf #[.int xo' t0',.int yo' t1',.int xa' t2',.int ya' t3'] nn')::(tl++its):=fun p hp=>.tail _ (.tail _ (.tail _ (.tail _ (.tail _ (.tail _ (List.mem_append_left _ hp))))))
      refine List.forall_mem_cons.mpr ⟨up _ M1,List.forall_mem_cons.mpr ⟨up _ M2,List.forall_mem_cons.mpr ⟨up _ M3, ?_⟩⟩⟩
      k_allIn)
    have n8':NeAll dx ((L+1+1,oc)::(lr,W.listOf (zrefs ZS).toArray c1)::(lv,W.listOf (zvals ZS).toArray c2)::(tl++its)):=⟨n8.1,n8.2.1,n8.2.2.1,neAll_app n8.2.2.2 (fun q hq=>hd (dx,oi') (by k_memK) q hq)⟩
    have key:=fun Q tk9 hq=>law_turn (Q:=Q) (s:={s with heap:=_,toks:=tk9}) T X B hE V I' hvd r1 r2 r3 r4 n1 (neAll_mem n8.2.2.2 M2) (neAll_mem n8.2.2.2 M3) (neAll_mem n9 M2) (neAll_mem n9 M3) (neAll_mem n8.2.2.2 M1) n7' n8' F2 N2 hq
    dsimp only [lawA,lawEnv,lawOf,List.drop_succ_cons,List.drop_zero,forBody] at key
    refine key _ _ fun oi2 ls2 nn2 t02 t12 t22 t32 o12 o22 h2 tk2 I2 la lb F3 N3=>?_
    refine' GTurn.ofZ F3 N3 ?hI ?hJ ?hn ?ha ?hm
    case hJ=>exact ⟨o12,o22,some (.ref z.r),some (.ref z.v.a),oi2,ls2,nn2,t02,t12,t22,t32,_,_,_,_,I2,Nat.ne_of_lt la,rfl,rfl⟩
    case hI=>exact fun p hp=>.tail _ (.tail _ (.tail _ (.tail _ (.tail _ (.tail _ (.tail _ (.tail _ (.tail _ (List.mem_append_right _ hp)))))))))
    case hn=>k_allIn
    case ha =>
      refine List.forall_mem_cons.mpr ⟨hd _ (by k_memK),List.forall_mem_cons.mpr ⟨hd (lr,_) (by k_memK),List.forall_mem_cons.mpr ⟨hd (lv,_) (by k_memK),List.forall_mem_cons.mpr ⟨hd (ix,_) (by k_memK),List.forall_mem_cons.mpr ⟨hd (dx,oi') (by k_memK),List.forall_mem_cons.mpr ⟨fun q hq e=>?_, ?_⟩⟩⟩⟩⟩⟩
      · have:=allLt_mem lb q (.tail _ (.tail _ (.tail _ (List.mem_append_right _ hq))))
        dsimp only at e
        rw [← e] at this
        exact Nat.lt_irrefl _ this
      · exact fun p hp=>hd p (.tail _ (.tail _ (.tail _ (.tail _ (.tail _ (.tail _ hp))))))
    case hm=>exact (by
      intro y
      simp only [oAt_cons,oAt_nil]
      by_cases h0:y=Str.ofString "one"
      · subst h0;rfl
      by_cases h1:y=Str.ofString "due"
      · subst h1;rfl
      by_cases h2:y=Str.ofString "row"
      · subst h2;rfl
      by_cases h3:y=Str.ofString "value"
      · subst h3;rfl
      by_cases h4:y=Str.ofString "info"
      · subst h4;rfl
      by_cases h5:y=Str.ofString "is_backward"
      · subst h5;rfl
      by_cases h6:y=Str.ofString "form"
      · subst h6;rfl
      by_cases h7:y=Str.ofString "sums"
      · subst h7;rfl
      simp only [if_neg h0,if_neg h1,if_neg h2,if_neg h3,if_neg h4,if_neg h5,if_neg h6,if_neg h7])
end
end law_t11_E
theorem law_t11 {w:World} {p:Program} {loose:List Str} {mean:ExcName→Option Value} {mg mb:Str→Option Value} {L fa:Addr} {cd:Value} {g:Heap} {m:Str→Option Value} {s:Shared} {Q:Flow→Shared→Prop} {E:Value→Shared→Prop} {lr lv ix dx ls:Addr} {oc:Obj} {ZS:List RV} {c1 c2:Nat} {xa ya xo yo fo:Int} {tfo t0 t1 t2 t3:Tok} {nn:Nat} {bk:Bool}:@law_t11_S w p loose mean mg mb L fa cd g m s Q E lr lv ix dx ls oc ZS c1 c2 xa ya xo yo fo tfo t0 t1 t2 t3 nn bk:=@Classical.byContradiction _ fun h=>pick_all (P:=law_t11_E.ep) (by with_unfolding_all exact fun k=>k @law_t11_E.ek) (w,p,loose,mean,mg,mb,L,fa,cd,g,m,s,Q,E,lr,lv,ix,dx,ls,oc,ZS,c1,c2,xa,ya,xo,yo,fo,tfo,t0,t1,t2,t3,nn,bk) h
end
end
section
set_option Elab.async false
set_option maxRecDepth 100000
set_option maxHeartbeats 4000000
set_option linter.unusedVariables false
set_option pp.deepTerms false
set_option pp.maxSteps 2000
theorem reord7 {g h:Heap} {L:Addr} {a b c1 c2 c3 c4 c5:Addr×Obj} {T:List (Addr×Obj)} (N:News g L h (a::b::c1::c2::c3::c4::c5::T)):News g L h (c1::c2::c3::c4::c5::b::T):=news_sub N (by k_allIn)
theorem neAll_ne {a:Addr} {l:List (Addr×Obj)} (h:NeAll a l):∀ p∈l,p.1≠a:=fun _ hp e=>neAll_mem h hp e.symm
local macro_rules | `(tactic| k_all)=>`(tactic| exact neAll_ne (by with_reducible assumption))
section
set_option maxHeartbeats 4000000
abbrev law_t9_S {w:World} {p:Program} {loose:List Str} {mean:ExcName→Option Value} {mg mb:Str→Option Value} {L fa:Addr} {cd:Value} {g:Heap} {m:Str→Option Value} {s:Shared} {Q:Flow→Shared→Prop} {E:Value→Shared→Prop} {lr lv ix dx:Addr} {oc:Obj} {ZS:List RV} {c1 c2:Nat} {xa ya xo yo fo:Int} {tfo:Tok} {bk:Bool}:Prop:=∀ {oi:Obj} {tl:List (Addr×Obj)} (T:Top p loose mean mg mb g) (X:(Mine.hd.heap_39 w.params).In g) (B:Below callerA g [] g) (hE:PassesOwn (model PySem.Challenge.rw_nu0167_01.row.prog w) (lawA L fa cd) (lawEnv L fa cd) E) (hend:∀ h' tk',(∀ b o,g.get? b=some o→h'.get? b=some o)→Q (.ret (.bool true)) {s with heap:=h',toks:=tk'}) (I:InfoIs w xa ya xo yo oi) (Z:ZIn w ZS tl) (hoc:oc.data=.cell (some (.ref lr))) (n1:@Ne Nat ix dx) (n8:NeAll dx ((L+1+1,oc)::(lr,W.listOf (zrefs ZS).toArray c1)::(lv,W.listOf (zvals ZS).toArray c2)::tl)) (n9:NeAll ix tl) (F:Fr g L s.heap (oAt [(Str.ofString "values",some (.ref lv)),(Str.ofString "info",some (.ref ix)),(Str.ofString "is_backward",some (.bool bk)),(Str.ofString "form",some (.int fo tfo))] m)) (N:News g L s.heap ((L+1+1,oc)::(lr,W.listOf (zrefs ZS).toArray c1)::(lv,W.listOf (zvals ZS).toArray c2)::(ix,instObj 169 dx)::(dx,oi)::tl)),
    wpG (model PySem.Challenge.rw_nu0167_01.row.prog w) (lawA L fa cd) (execs ((lawOf Mine.hd).body.drop 9) (lawEnv L fa cd)) Q E s
namespace law_t9_E
noncomputable section
def ep:=U fun w=>U fun p=>U fun loose=>U fun mean=>U fun mg=>U fun mb=>U fun L=>U fun fa=>U fun cd=>U fun g=>U fun m=>U fun s=>U fun Q=>U fun E=>U fun lr=>U fun lv=>U fun ix=>U fun dx=>U fun oc=>U fun ZS=>U fun c1=>U fun c2=>U fun xa=>U fun ya=>U fun xo=>U fun yo=>U fun fo=>U fun tfo=>fun bk=>¬ @law_t9_S w p loose mean mg mb L fa cd g m s Q E lr lv ix dx oc ZS c1 c2 xa ya xo yo fo tfo bk
def ec:=pick ep (sW,df,[],df,df,df,0,0,df,{},df,{},df,df,0,0,0,0,df,[],0,0,0,0,0,0,0,0,false)
@[irreducible] def w:=ec.1
@[irreducible] def p:=ec.2.1
@[irreducible] def loose:=ec.2.2.1
@[irreducible] def mean:=ec.2.2.2.1
@[irreducible] def mg:=ec.2.2.2.2.1
@[irreducible] def mb:=ec.2.2.2.2.2.1
@[irreducible] def L:=ec.2.2.2.2.2.2.1
def ec1:=ec.2.2.2.2.2.2.2
@[irreducible] def fa:=ec1.1
@[irreducible] def cd:=ec1.2.1
@[irreducible] def g:=ec1.2.2.1
@[irreducible] def m:=ec1.2.2.2.1
@[irreducible] def s:=ec1.2.2.2.2.1
@[irreducible] def Q:=ec1.2.2.2.2.2.1
@[irreducible] def E:=ec1.2.2.2.2.2.2.1
def ec2:=ec1.2.2.2.2.2.2.2
@[irreducible] def lr:=ec2.1
@[irreducible] def lv:=ec2.2.1
@[irreducible] def ix:=ec2.2.2.1
@[irreducible] def dx:=ec2.2.2.2.1
@[irreducible] def oc:=ec2.2.2.2.2.1
@[irreducible] def ZS:=ec2.2.2.2.2.2.1
@[irreducible] def c1:=ec2.2.2.2.2.2.2.1
def ec3:=ec2.2.2.2.2.2.2.2
@[irreducible] def c2:=ec3.1
@[irreducible] def xa:=ec3.2.1
@[irreducible] def ya:=ec3.2.2.1
@[irreducible] def xo:=ec3.2.2.2.1
@[irreducible] def yo:=ec3.2.2.2.2.1
@[irreducible] def fo:=ec3.2.2.2.2.2.1
@[irreducible] def tfo:=ec3.2.2.2.2.2.2.1
@[irreducible] def bk:=ec3.2.2.2.2.2.2.2
theorem ek:@law_t9_S w p loose mean mg mb L fa cd g m s Q E lr lv ix dx oc ZS c1 c2 xa ya xo yo fo tfo bk:=by
  intro oi tl T X B hE hend I Z hoc n1 n8 n9 F N
  dsimp only [lawA,lawEnv,lawOf,List.drop_succ_cons,List.drop_zero]
  rw [oAt_four] at F
  have e1:@Ne Nat (L+1+1) dx:=n8.1
  have e2:@Ne Nat lr dx:=n8.2.1
  have e3:@Ne Nat lv dx:=n8.2.2.1
  have e4:NeAll dx tl:=n8.2.2.2
  obtain ⟨k0,k1,k2,k3,k4,k5,k6,k7,k8,k9,k10,k11,k12,k13,k14,v0,v1,v2,v3,v5,v6,v7,v8,v9,v10,v11,v12,v13,v14,hoi⟩:=I
  subst hoi
  refine execsG_cons (wpG_of ?_)
  k_steps
  refine execsG_cons (wpG_of ?_)
  k_steps
  dsimp only
  rename Fr _ _ _ _=>eF
  rename News _ _ _ _=>eN
  have F2:Fr g L _ (oAt [(Str.ofString "values",some (.ref lv)),(Str.ofString "info",some (.ref ix)),(Str.ofString "is_backward",some (.bool bk)),(Str.ofString "form",some (.int fo tfo)),(Str.ofString "sums",some (.ref _))] _):=Fr.as eF [Str.ofString "values",Str.ofString "info",Str.ofString "is_backward",Str.ofString "form",Str.ofString "sums"]
  have N2:=reord7 eN
  obtain ⟨_,_,_,_,la,_⟩:=(by assumption:@LT.lt Nat _ (L+1+1) _∧@LT.lt Nat _ lr _∧_∧_∧_∧_)
  have key:=fun tk9=>law_t11 (xa:=100) (ya:=2) (xo:=9) (yo:=-4) (s:={s with heap:=_,toks:=tk9}) T X B hE hend ⟨_,_,_,_,_,_,_,_,_,_,_,_,_,_,_,_,_,_,_,_,_,_,_,_,_,_,_,_,_,rfl⟩ Z hoc n1 (Nat.ne_of_lt la) n8 n9 F2 N2
  dsimp only [lawA,lawEnv,lawOf,List.drop_succ_cons,List.drop_zero] at key
  exact key _
end
end law_t9_E
theorem law_t9 {w:World} {p:Program} {loose:List Str} {mean:ExcName→Option Value} {mg mb:Str→Option Value} {L fa:Addr} {cd:Value} {g:Heap} {m:Str→Option Value} {s:Shared} {Q:Flow→Shared→Prop} {E:Value→Shared→Prop} {lr lv ix dx:Addr} {oc:Obj} {ZS:List RV} {c1 c2:Nat} {xa ya xo yo fo:Int} {tfo:Tok} {bk:Bool}:@law_t9_S w p loose mean mg mb L fa cd g m s Q E lr lv ix dx oc ZS c1 c2 xa ya xo yo fo tfo bk:=@Classical.byContradiction _ fun h=>pick_all (P:=law_t9_E.ep) (by with_unfolding_all exact fun k=>k @law_t9_E.ek) (w,p,loose,mean,mg,mb,L,fa,cd,g,m,s,Q,E,lr,lv,ix,dx,oc,ZS,c1,c2,xa,ya,xo,yo,fo,tfo,bk) h
end
end
section
set_option Elab.async false
set_option maxRecDepth 100000
set_option maxHeartbeats 4000000
set_option linter.unusedVariables false
set_option pp.deepTerms false
set_option pp.maxSteps 2000
theorem reord9 {g h:Heap} {L:Addr} {a c1 c2 c3 c4 c5 c6 c7 c8:Addr×Obj} {T:List (Addr×Obj)} (N:News g L h (a::c1::c2::c3::c4::c5::c6::c7::c8::T)):News g L h (c6::c7::c8::c2::c3::c4::c1::c5::T):=news_sub N (by k_allIn)
theorem ZIn.mono {w:World} {ZS:List RV} {l r:List (Addr×Obj)} (Z:ZIn w ZS l) (h:∀ p∈l,p∈r):ZIn w ZS r:=fun z hz=>by
  obtain ⟨a,b,c,d⟩:=Z z hz
  exact ⟨h _ a,h _ b,h _ c,d⟩
section
variable {w:World} {p:Program} {loose:List Str} {mean:ExcName→Option Value} {mg mb:Str→Option Value} {dp un:Nat} {gd:Option (List Code)} {cn:Str} {cs:Scope} {a:Addr} {ccd:Value} {cl:List (Str×Addr)} {outer:List Env} {A₀:Around} {base h₀:Heap} {L:Addr} {m:Str→Option Value} {s:Shared} {Q E:Value→Shared→Prop}
theorem draw_k {pn cp:Addr} {sp ac kk:Int} {pt1 pt2 pt3:Tok} {pnn pc0:Nat} {cells:List PySem.Value} {ns:List Int} (B:Below A₀ base outer h₀) (F:Fr h₀ L s.heap m) (X:(hd.heap_39 w.params).In h₀) (N:News h₀ L s.heap [(pn,W.listOf #[.ref cp,.int sp pt1,.int ac pt2,.int kk pt3] pnn),(cp,W.listOf cells.toArray pc0)]) (T:Top p loose mean mg mb h₀) (hk:cs.kind=.function) (hd:dp+4<recursionLimit) (hu:un+60<cLine) (hne:@Ne Nat pn cp) (hi:IntsAre cells ns) (hl:cells.length≤63) (h1:0≤sp) (h1':sp≤10000) (h2:0≤ac) (h3:0≤kk) (h3':kk<1009) {many:Int} {tm:Tok} (hm:0<many) (hm':many≤1000)
    (hret:∀ (d:Int) t (sp' ac':Int) (pt1' pt2':Tok) pnn' h' tk',0≤d→d<many→0≤sp'→sp'≤sp+1→0≤ac'→Fr h₀ L h' m→News h₀ L h' [(pn,W.listOf #[.ref cp,.int sp' pt1',.int ac' pt2',.int kk pt3] pnn')]→KeepBut [pn] s.heap h'→Q (.int d t) {s with heap:=h',toks:=tk'}) :
    wpAny (model PySem.Challenge.rw_nu0167_01.row.prog w) (ktrTop dp un gd cn cs L a ccd cl outer) (call (.ref 388) [.ref pn,.int many tm]) Q E s :=
  draw_c B F X N T hk hd hu hne hi hl h1 h1' h2 h3 h3' hm hm' fun d t sp' ac' t1' t2' nn' h' tk' a1 a2 a3 a4 a5 F' N' K'=>hret d t sp' ac' t1' t2' nn' h' tk' a1 a2 a3 a4 a5 F' (news_sub N' fun p hp=>by rw [List.mem_singleton.mp hp];exact .head _) fun c o hc hn=>by
    by_cases hq:c=cp
    · subst hq
      have z:=(N _ (.tail _ (.head _))).1
      rw [hc] at z
      cases z
      exact (N' _ (.tail _ (.head _))).1
    · exact K' c o hc fun hm=>by
        rcases List.mem_cons.mp hm with e|hm
        · exact hn (List.mem_singleton.mpr e)
        · exact hq (List.mem_singleton.mp hm)
end
section
set_option maxHeartbeats 4000000
abbrev law_t8_S {w:World} {p:Program} {loose:List Str} {mean:ExcName→Option Value} {mg mb:Str→Option Value} {L fa:Addr} {cd:Value} {g:Heap} {m:Str→Option Value} {s:Shared} {Q:Flow→Shared→Prop} {E:Value→Shared→Prop} {lr lv:Addr} {oc op:Obj} {ZS:List RV} {c1 c2:Nat} {fo:Int} {tfo:Tok} {pn cp:Addr} {sp ac kk:Int} {pt1 pt2 pt3:Tok} {pnn pc0:Nat} {cells:List PySem.Value} {ns:List Int}:Prop:=∀ {tl:List (Addr×Obj)} (T:Top p loose mean mg mb g) (X:(Mine.hd.heap_39 w.params).In g) (B:Below callerA g [] g) (hE:PassesOwn (model PySem.Challenge.rw_nu0167_01.row.prog w) (lawA L fa cd) (lawEnv L fa cd) E) (hend:∀ h' tk',(∀ b o,g.get? b=some o→h'.get? b=some o)→Q (.ret (.bool true)) {s with heap:=h',toks:=tk'}) (Z:ZIn w ZS tl) (hoc:oc.data=.cell (some (.ref lr))) (hop:op.data=.cell (some (.ref pn))) (hi:IntsAre cells ns) (hl:cells.length≤63) (h1:0≤sp) (h1':sp≤9000) (h2:0≤ac) (h3:0≤kk) (h3':kk<1009) (np:NeAll pn ((L+1,op)::(cp,W.listOf cells.toArray pc0)::(L+1+1,oc)::(lr,W.listOf (zrefs ZS).toArray c1)::(lv,W.listOf (zvals ZS).toArray c2)::tl)) (F:Fr g L s.heap (oAt [(Str.ofString "values",some (.ref lv)),(Str.ofString "form",some (.int fo tfo))] m)) (N:News g L s.heap ((L+1,op)::(pn,W.listOf #[.ref cp,.int sp pt1,.int ac pt2,.int kk pt3] pnn)::(cp,W.listOf cells.toArray pc0)::(L+1+1,oc)::(lr,W.listOf (zrefs ZS).toArray c1)::(lv,W.listOf (zvals ZS).toArray c2)::tl)),
    wpG (model PySem.Challenge.rw_nu0167_01.row.prog w) (lawA L fa cd) (execs ((lawOf Mine.hd).body.drop 8) (lawEnv L fa cd)) Q E s
namespace law_t8_E
noncomputable section
def ep:=U fun w=>U fun p=>U fun loose=>U fun mean=>U fun mg=>U fun mb=>U fun L=>U fun fa=>U fun cd=>U fun g=>U fun m=>U fun s=>U fun Q=>U fun E=>U fun lr=>U fun lv=>U fun oc=>U fun op=>U fun ZS=>U fun c1=>U fun c2=>U fun fo=>U fun tfo=>U fun pn=>U fun cp=>U fun sp=>U fun ac=>U fun kk=>U fun pt1=>U fun pt2=>U fun pt3=>U fun pnn=>U fun pc0=>U fun cells=>fun ns=>¬ @law_t8_S w p loose mean mg mb L fa cd g m s Q E lr lv oc op ZS c1 c2 fo tfo pn cp sp ac kk pt1 pt2 pt3 pnn pc0 cells ns
def ec:=pick ep (sW,df,[],df,df,df,0,0,df,{},df,{},df,df,0,0,df,df,[],0,0,0,0,0,0,0,0,0,0,0,0,0,0,[],[])
@[irreducible] def w:=ec.1
@[irreducible] def p:=ec.2.1
@[irreducible] def loose:=ec.2.2.1
@[irreducible] def mean:=ec.2.2.2.1
@[irreducible] def mg:=ec.2.2.2.2.1
@[irreducible] def mb:=ec.2.2.2.2.2.1
@[irreducible] def L:=ec.2.2.2.2.2.2.1
def ec1:=ec.2.2.2.2.2.2.2
@[irreducible] def fa:=ec1.1
@[irreducible] def cd:=ec1.2.1
@[irreducible] def g:=ec1.2.2.1
@[irreducible] def m:=ec1.2.2.2.1
@[irreducible] def s:=ec1.2.2.2.2.1
@[irreducible] def Q:=ec1.2.2.2.2.2.1
@[irreducible] def E:=ec1.2.2.2.2.2.2.1
def ec2:=ec1.2.2.2.2.2.2.2
@[irreducible] def lr:=ec2.1
@[irreducible] def lv:=ec2.2.1
@[irreducible] def oc:=ec2.2.2.1
@[irreducible] def op:=ec2.2.2.2.1
@[irreducible] def ZS:=ec2.2.2.2.2.1
@[irreducible] def c1:=ec2.2.2.2.2.2.1
@[irreducible] def c2:=ec2.2.2.2.2.2.2.1
def ec3:=ec2.2.2.2.2.2.2.2
@[irreducible] def fo:=ec3.1
@[irreducible] def tfo:=ec3.2.1
@[irreducible] def pn:=ec3.2.2.1
@[irreducible] def cp:=ec3.2.2.2.1
@[irreducible] def sp:=ec3.2.2.2.2.1
@[irreducible] def ac:=ec3.2.2.2.2.2.1
@[irreducible] def kk:=ec3.2.2.2.2.2.2.1
def ec4:=ec3.2.2.2.2.2.2.2
@[irreducible] def pt1:=ec4.1
@[irreducible] def pt2:=ec4.2.1
@[irreducible] def pt3:=ec4.2.2.1
@[irreducible] def pnn:=ec4.2.2.2.1
@[irreducible] def pc0:=ec4.2.2.2.2.1
@[irreducible] def cells:=ec4.2.2.2.2.2.1
@[irreducible] def ns:=ec4.2.2.2.2.2.2
theorem ek:@law_t8_S w p loose mean mg mb L fa cd g m s Q E lr lv oc op ZS c1 c2 fo tfo pn cp sp ac kk pt1 pt2 pt3 pnn pc0 cells ns:=by
  intro tl T X B hE hend Z hoc hop hi hl h1 h1' h2 h3 h3' np F N
  dsimp only [lawA,lawEnv,lawOf,List.drop_succ_cons,List.drop_zero]
  rw [oAt_two] at F
  have np':=np
  simp only [NeAll] at np'
  obtain ⟨p1,p2,p3,p4,p5,p6⟩:=np'
  refine execsG_cons (wpG_of ?_)
  (repeat' (first|(k_unfold;(try dsimp only))|(k_end;wrow_close)|((with_reducible show wpAny _ _ (call (Value.ref _) _) _ _ _);with_reducible (first|(k_here;(try dsimp only [List.nil_append,List.cons_append]);(with_reducible show wpAny _ _ (call (Value.ref 169) _) _ _ _);(rename News _ _ _ _=>lN);k_dflt (refine' info_c (by k_asm) (by k_asm) (by k_asm) (by exact News.nil) (by k_asm) (by exact rfl) (by ktr_room) (by ktr_units) ?_);intro ix dx oi h9 tk9 I9 F9 N9 K9 W91 W92 n19;(have E91:=neFresh lN W91);(have E92:=neFresh lN W92);(have E93:=E91);(have E94:=E92);(simp only [NeAll] at E93 E94);(obtain ⟨a91,a92,a93,a94,a95,a96,a97⟩:=E93);(obtain ⟨b91,b92,b93,b94,b95,b96,b97⟩:=E94);(k_dflt (have N8:=rejoin lN K9 N9 (.all fun _ _ h=>nomatch h)));clear K9 N9;(simp only [List.cons_append,List.nil_append] at N8);(try k_sweep);(try dsimp only))|(k_here;(try dsimp only [List.nil_append,List.cons_append]);(with_reducible show wpAny _ _ (call (Value.ref 388) _) _ _ _);(rename News _ _ _ _=>lN);k_dflt (refine' draw_k (by k_asm) (by k_asm) (by k_asm) (by ((refine news_sub lN ?_);k_allIn)) (by k_asm) (by exact rfl) (by ktr_room) (by ktr_units) (by k_ne) hi hl (by omega) (by omega) (by omega) h3 h3' (by omega) (by omega) ?_);intro d9 t9 sp9 ac9 pt91 pt92 pnn9 h9 tk9 D91 D92 D93 D94 D95 F9 N9 K9;(have N8:=rejoin lN K9 N9 (by k_dflt k_all));clear K9 N9;(simp only [List.cons_append,List.nil_append] at N8);(try k_sweep);(try dsimp only))))|walk1|(dsimp only;(with_reducible show wpAny _ _ (call (Value.ref _) _) _ _ _))|(dsimp only;walk1)|(leave1;walk_say "STEP leave1";try dsimp only)|fail "no step"))
  dsimp only
  rename Fr _ _ _ _=>eF
  rename News _ _ _ _=>eN
  have F2:Fr g L _ (oAt [(Str.ofString "values",some (.ref lv)),(Str.ofString "info",some (.ref ix)),(Str.ofString "is_backward",some (.bool (d9 == 1))),(Str.ofString "form",some (.int fo tfo))] _):=Fr.as eF [Str.ofString "values",Str.ofString "info",Str.ofString "is_backward",Str.ofString "form"]
  have N2:=reord9 eN
  have key:=fun tk9=>law_t9 (s:={s with heap:=_,toks:=tk9}) T X B hE hend I9 (Z.mono fun _ hp=>.tail _ (.tail _ (.tail _ hp))) hoc n19 ⟨b94,b95,b96,b91,b92,b93,b97⟩ ⟨a91,a92,a93,a97⟩ F2 N2
  dsimp only [lawA,lawEnv,lawOf,List.drop_succ_cons,List.drop_zero] at key
  exact key _
end
end law_t8_E
theorem law_t8 {w:World} {p:Program} {loose:List Str} {mean:ExcName→Option Value} {mg mb:Str→Option Value} {L fa:Addr} {cd:Value} {g:Heap} {m:Str→Option Value} {s:Shared} {Q:Flow→Shared→Prop} {E:Value→Shared→Prop} {lr lv:Addr} {oc op:Obj} {ZS:List RV} {c1 c2:Nat} {fo:Int} {tfo:Tok} {pn cp:Addr} {sp ac kk:Int} {pt1 pt2 pt3:Tok} {pnn pc0:Nat} {cells:List PySem.Value} {ns:List Int}:@law_t8_S w p loose mean mg mb L fa cd g m s Q E lr lv oc op ZS c1 c2 fo tfo pn cp sp ac kk pt1 pt2 pt3 pnn pc0 cells ns:=@Classical.byContradiction _ fun h=>pick_all (P:=law_t8_E.ep) (by with_unfolding_all exact fun k=>k @law_t8_E.ek) (w,p,loose,mean,mg,mb,L,fa,cd,g,m,s,Q,E,lr,lv,oc,op,ZS,c1,c2,fo,tfo,pn,cp,sp,ac,kk,pt1,pt2,pt3,pnn,pc0,cells,ns) h
end
end
section
set_option Elab.async false
set_option linter.unusedVariables false
theorem orF_tb (g:Nat→Int) (m:Nat):∀ k i,(orF g m k).testBit i=(m.testBit i || (decide (i<k) && !decide (g i=0)))
  | 0,i=>by simp [orF]
  | k+1,i=>by
    show (orF g m k ||| if g k=0 then 0 else 2 ^ k).testBit i=_
    rw [Nat.testBit_or,orF_tb g m k i]
    by_cases hg:g k=0
    · rw [if_pos hg,Nat.zero_testBit]
      by_cases hi:i=k
      · subst hi;simp [hg]
      · have e:decide (i<k+1)=decide (i<k):=by
          apply decide_eq_decide.mpr;omega
        rw [e,Bool.or_false]
    · rw [if_neg hg,Nat.testBit_two_pow]
      by_cases hi:i=k
      · subst hi;simp [hg]
      · have e:decide (i<k+1)=decide (i<k):=by
          apply decide_eq_decide.mpr;omega
        have e2:decide (k=i)=false:=decide_eq_false fun h=>hi h.symm
        rw [e,e2,Bool.or_false]
theorem fmL_tb (i:Nat):∀ (VS:List VR) (m:Nat),(fmL m VS).testBit i=(m.testBit i || (decide (i<4) && VS.any fun v=>!decide (v.g i=0)))
  | [],m=>by simp [fmL]
  | v::r,m=>by
    show (fmL (orF v.g m 4) r).testBit i=_
    rw [fmL_tb i r,orF_tb,List.any_cons,Bool.or_assoc,← Bool.and_or_distrib_left]
theorem fmL_lt (VS:List VR):fmL 0 VS<16:=by
  refine Nat.lt_pow_two_of_testBit (n:=4) _ fun i hi=>?_
  rw [fmL_tb,decide_eq_false (by omega:¬ i<4)]
  simp
theorem bit_tb (n i:Nat):bit (n:Int) i=n.testBit i:=by
  unfold bit
  rw [Nat.testBit_eq_decide_div_mod_eq]
  refine decide_eq_decide.mpr ?_
  have e:((n:Int) / 2 ^ i % 2)=((n / 2 ^ i % 2:Nat):Int):=by
    rw [Int.natCast_emod,Int.natCast_ediv,Int.natCast_pow]
    rfl
  rw [e]
  omega
def supB (fm k:Nat):Bool:=(List.range 4).all fun i=>bit (k:Int) i || !fm.testBit i
theorem sup_all {VS:List VR} {k:Nat}:(VS.all fun v=>bearsB (k:Int) v.g 4)=supB (fmL 0 VS) k:=by
  rw [Bool.eq_iff_iff]
  unfold supB
  rw [List.all_eq_true,List.all_eq_true]
  constructor
  · intro h i hi
    have hi4:=List.mem_range.mp hi
    rw [fmL_tb,Nat.zero_testBit,Bool.false_or,decide_eq_true hi4,Bool.true_and]
    cases hb:bit (k:Int) i
    · rw [Bool.false_or,Bool.not_eq_true',List.any_eq_false]
      intro v hv
      rcases bearsB_iff.mp (h v hv) i hi4 with q|q
      · rw [hb] at q;cases q
      · simp [q]
    · rfl
  · intro h v hv
    refine bearsB_iff.mpr fun i hi=>?_
    have z:=h i (List.mem_range.mpr hi)
    rw [fmL_tb,Nat.zero_testBit,Bool.false_or,decide_eq_true hi,Bool.true_and] at z
    cases hb:bit (k:Int) i
    · rw [hb,Bool.false_or,Bool.not_eq_true',List.any_eq_false] at z
      have:=z v hv
      right
      by_cases hq:v.g i=0
      · exact hq
      · exact absurd (by simp [hq]) this
    · exact .inl rfl
def whole (fm:Nat):List Nat:=(List.range 16).filter (supB fm)
def pairAt (l:List Nat) (i:Nat):Int×Int:=((ones (l.getD i 0:Int):Int),(l.getD i 0:Int))
theorem whole_min:∀ fm:Fin 16,(whole fm.1)[argBest (fun i j=>lexB (pairAt (whole fm.1) i) (pairAt (whole fm.1) j)) ((whole fm.1).length - 1)]? = some fm.1:=by decide +kernel
end
section
set_option Elab.async false
set_option maxRecDepth 100000
set_option maxHeartbeats 4000000
set_option linter.unusedVariables false
set_option pp.deepTerms false
set_option pp.maxSteps 2000
theorem keep_own {g h h':Heap} {L:Addr} {own:List (Addr×Obj)} (N:News g L h own) (N':News g L h' own) (K:KeepBut (own.map (·.1)) h h'):KeepBut [] h h':=keep_same K fun b hb o ho=>by
  obtain ⟨p,hp,e⟩:=List.mem_map.mp hb
  subst e
  have z:=(N p hp).1
  rw [ho] at z
  cases z
  exact (N' p hp).1
theorem ZIn.vled {w:World} {tl:List (Addr×Obj)}:∀ {ZS:List RV},ZIn w ZS tl→∀ p∈Mine.vled (ZS.map (·.v)),p∈tl
  | [],_,_,h=>nomatch h
  | z::r,Z,p,hp=>by
    rcases List.mem_cons.mp hp with rfl|hp
    · exact (Z z (.head _)).2.1
    rcases List.mem_cons.mp hp with rfl|hp
    · exact (Z z (.head _)).2.2.1
    exact ZIn.vled (fun q hq=>Z q (.tail _ hq)) p hp
theorem zvals_eq (ZS:List RV):zvals ZS=vrefs (ZS.map (·.v)):=by
  unfold zvals vrefs
  rw [List.map_map]
  rfl
section
variable {w:World} {p:Program} {loose:List Str} {mean:ExcName→Option Value} {mg mb:Str→Option Value} {dp un:Nat} {gd:Option (List Code)} {cn:Str} {cs:Scope} {a:Addr} {ccd:Value} {cl:List (Str×Addr)} {outer:List Env} {A₀:Around} {base h₀:Heap} {L:Addr} {m:Str→Option Value} {s:Shared} {Q E:Value→Shared→Prop}
theorem form_k {lv:Addr} {VS:List VR} {c:Nat} (B:Below A₀ base outer h₀) (F:Fr h₀ L s.heap m) (X:(hd.heap_39 w.params).In h₀) (N:News h₀ L s.heap ((lv,W.listOf (vrefs VS).toArray c)::vled VS)) (T:Top p loose mean mg mb h₀) (hk:cs.kind=.function) (hd:dp+8<recursionLimit) (hu:un+100<cLine) (hV:∀ v∈VS,ValIs w v.x1 v.x2 v.x3 v.x4 v.o)
    (hret:∀ t h' tk',Fr h₀ L h' m→KeepBut [] s.heap h'→Q (.int (fmL 0 VS:Nat) t) {s with heap:=h',toks:=tk'}) :
    wpG (model PySem.Challenge.rw_nu0167_01.row.prog w) (ktrTop dp un (some []) cn cs L a ccd cl outer) (call (.ref 131) [.ref lv]) Q E s :=
  form_of_c B F X N T hk hd hu hV fun t h' tk' F' N' K'=>hret t h' tk' F' (keep_own N N' K')
end
end
section
set_option Elab.async false
set_option maxRecDepth 100000
set_option maxHeartbeats 4000000
set_option linter.unusedVariables false
set_option pp.deepTerms false
set_option pp.maxSteps 2000
theorem oAt_three (a b c:Str) (v0 v1 v2:Option PySem.Value) (m:Str→Option PySem.Value):oAt [(a,v0),(b,v1),(c,v2)] m=fun y=>if y=a then v0 else if y=b then v1 else if y=c then v2 else m y:=by
  funext y
  rw [oAt_cons,oAt_cons,oAt_cons,oAt_nil]
def WholeIs (fm:Nat) (os:List Value):Prop:=os.length=(whole fm).length∧∀ i v,os[i]? = some v→∃ t:Tok,v=PySem.Value.int ((whole fm).getD i 0:Nat) t
def PaJ (fm:Nat) (big:List (Addr×Obj)) (i:Nat) (ys:List PySem.Value) (nx:List (Addr×Obj)):Prop :=
  ys.length=i∧(∀ p∈big,p∈nx)∧∀ j v,ys[j]? = some v→∃ a t u,v=PySem.Value.ref a∧(a,tupOf #[.int (pairAt (whole fm) j).1 t,.int (pairAt (whole fm) j).2 u])∈nx
theorem news_tail {g h:Heap} {L:Addr} {a:Addr×Obj} {l:List (Addr×Obj)} (N:News g L h (a::l)):News g L h l:=fun p hp=>N p (.tail _ hp)
theorem News.tup {g h:Heap} {L a:Addr} {big:List (Addr×Obj)} {xs:Array PySem.Value} (N:News g L h big) (hm:(a,tupOf xs)∈big):h.IsTuple a xs:=⟨_,(N _ hm).1,rfl,_,rfl⟩
theorem compEnd1 {h₀:Heap} {L I C D:Addr} {m:Str→Option PySem.Value} {s₁:Shared} {oI oC oD:Obj} {S:List (Addr×Obj)→Prop} {rest:PySem.Value→List (Addr×Obj)→Prop} {y:PySem.Value} {h':Heap} {tk:Nat} {q:Addr×Obj} {nx:List (Addr×Obj)} (F:Fr h₀ L h' m) (N:News h₀ L h' (q::(I,oI)::(C,oC)::(D,oD)::nx)) (off:LCg.Off3 I C D (q::nx)) (hS:S (q::nx)) (r:rest y (q::nx)) :
    LCg.CompEnd h₀ L m s₁ I oI C oC D oD S rest y {s₁ with heap:=h',toks:=tk}:=LCg.CompEnd.intro F N (q::nx) (by k_allIn) off hS r
section
set_option maxHeartbeats 4000000
abbrev law_t7_S {w:World} {p:Program} {loose:List Str} {mean:ExcName→Option Value} {mg mb:Str→Option Value} {L fa:Addr} {cd:Value} {g:Heap} {m:Str→Option Value} {s:Shared} {Q:Flow→Shared→Prop} {E:Value→Shared→Prop} {lr lv lw:Addr} {oc op:Obj} {ZS:List RV} {c1 c2 cw:Nat} {os:List Value} {fo:Int} {tfo:Tok} {pn cp:Addr} {sp ac kk:Int} {pt1 pt2 pt3:Tok} {pnn pc0:Nat} {cells:List PySem.Value} {ns:List Int}:Prop:=∀ {tl:List (Addr×Obj)} (T:Top p loose mean mg mb g) (X:(Mine.hd.heap_39 w.params).In g) (B:Below callerA g [] g) (hE:PassesOwn (model PySem.Challenge.rw_nu0167_01.row.prog w) (lawA L fa cd) (lawEnv L fa cd) E) (hend:∀ h' tk',(∀ b o,g.get? b=some o→h'.get? b=some o)→Q (.ret (.bool true)) {s with heap:=h',toks:=tk'}) (Z:ZIn w ZS tl) (hoc:oc.data=.cell (some (.ref lr))) (hop:op.data=.cell (some (.ref pn))) (hi:IntsAre cells ns) (hl:cells.length≤63) (h1:0≤sp) (h1':sp≤9000) (h2:0≤ac) (h3:0≤kk) (h3':kk<1009) (np:NeAll pn ((L+1,op)::(cp,W.listOf cells.toArray pc0)::(L+1+1,oc)::(lr,W.listOf (zrefs ZS).toArray c1)::(lv,W.listOf (zvals ZS).toArray c2)::tl)) (hsz:os.toArray.size≤sizeLine) (hw:WholeIs (fmL 0 (ZS.map (·.v))) os) (F:Fr g L s.heap (oAt [(Str.ofString "values",some (.ref lv)),(Str.ofString "form",some (.int fo tfo)),(Str.ofString "whole",some (.ref lw))] m)) (N:News g L s.heap ((lw,W.listOf os.toArray cw)::(L+1,op)::(pn,W.listOf #[.ref cp,.int sp pt1,.int ac pt2,.int kk pt3] pnn)::(cp,W.listOf cells.toArray pc0)::(L+1+1,oc)::(lr,W.listOf (zrefs ZS).toArray c1)::(lv,W.listOf (zvals ZS).toArray c2)::tl)),
    wpG (model PySem.Challenge.rw_nu0167_01.row.prog w) (lawA L fa cd) (execs ((lawOf Mine.hd).body.drop 7) (lawEnv L fa cd)) Q E s
namespace law_t7_E
noncomputable section
def ep:=U fun w=>U fun p=>U fun loose=>U fun mean=>U fun mg=>U fun mb=>U fun L=>U fun fa=>U fun cd=>U fun g=>U fun m=>U fun s=>U fun Q=>U fun E=>U fun lr=>U fun lv=>U fun lw=>U fun oc=>U fun op=>U fun ZS=>U fun c1=>U fun c2=>U fun cw=>U fun os=>U fun fo=>U fun tfo=>U fun pn=>U fun cp=>U fun sp=>U fun ac=>U fun kk=>U fun pt1=>U fun pt2=>U fun pt3=>U fun pnn=>U fun pc0=>U fun cells=>fun ns=>¬ @law_t7_S w p loose mean mg mb L fa cd g m s Q E lr lv lw oc op ZS c1 c2 cw os fo tfo pn cp sp ac kk pt1 pt2 pt3 pnn pc0 cells ns
def ec:=pick ep (sW,df,[],df,df,df,0,0,df,{},df,{},df,df,0,0,0,df,df,[],0,0,0,[],0,0,0,0,0,0,0,0,0,0,0,0,[],[])
@[irreducible] def w:=ec.1
@[irreducible] def p:=ec.2.1
@[irreducible] def loose:=ec.2.2.1
@[irreducible] def mean:=ec.2.2.2.1
@[irreducible] def mg:=ec.2.2.2.2.1
@[irreducible] def mb:=ec.2.2.2.2.2.1
@[irreducible] def L:=ec.2.2.2.2.2.2.1
def ec1:=ec.2.2.2.2.2.2.2
@[irreducible] def fa:=ec1.1
@[irreducible] def cd:=ec1.2.1
@[irreducible] def g:=ec1.2.2.1
@[irreducible] def m:=ec1.2.2.2.1
@[irreducible] def s:=ec1.2.2.2.2.1
@[irreducible] def Q:=ec1.2.2.2.2.2.1
@[irreducible] def E:=ec1.2.2.2.2.2.2.1
def ec2:=ec1.2.2.2.2.2.2.2
@[irreducible] def lr:=ec2.1
@[irreducible] def lv:=ec2.2.1
@[irreducible] def lw:=ec2.2.2.1
@[irreducible] def oc:=ec2.2.2.2.1
@[irreducible] def op:=ec2.2.2.2.2.1
@[irreducible] def ZS:=ec2.2.2.2.2.2.1
@[irreducible] def c1:=ec2.2.2.2.2.2.2.1
def ec3:=ec2.2.2.2.2.2.2.2
@[irreducible] def c2:=ec3.1
@[irreducible] def cw:=ec3.2.1
@[irreducible] def os:=ec3.2.2.1
@[irreducible] def fo:=ec3.2.2.2.1
@[irreducible] def tfo:=ec3.2.2.2.2.1
@[irreducible] def pn:=ec3.2.2.2.2.2.1
@[irreducible] def cp:=ec3.2.2.2.2.2.2.1
def ec4:=ec3.2.2.2.2.2.2.2
@[irreducible] def sp:=ec4.1
@[irreducible] def ac:=ec4.2.1
@[irreducible] def kk:=ec4.2.2.1
@[irreducible] def pt1:=ec4.2.2.2.1
@[irreducible] def pt2:=ec4.2.2.2.2.1
@[irreducible] def pt3:=ec4.2.2.2.2.2.1
@[irreducible] def pnn:=ec4.2.2.2.2.2.2.1
def ec5:=ec4.2.2.2.2.2.2.2
@[irreducible] def pc0:=ec5.1
@[irreducible] def cells:=ec5.2.1
@[irreducible] def ns:=ec5.2.2
theorem ek:@law_t7_S w p loose mean mg mb L fa cd g m s Q E lr lv lw oc op ZS c1 c2 cw os fo tfo pn cp sp ac kk pt1 pt2 pt3 pnn pc0 cells ns:=by
  intro tl T X B hE hend Z hoc hop hi hl h1 h1' h2 h3 h3' np hsz hw F N
  dsimp only [lawA,lawEnv,lawOf,List.drop_succ_cons,List.drop_zero]
  rw [oAt_three] at F
  refine execsG_cons (IfG (CompareG (CallG ?_)))
  k_steps
  k_dflt (refine callWithG_K (K:=Mine.hd.heap_39 w.params) (by k_is) ?_)
  k_steps
  rename News _ _ _ _=>lN
  have N2:News g L _ ((lv,W.listOf (vrefs (ZS.map (·.v))).toArray c2)::vled (ZS.map (·.v))):=news_sub lN (by
    rw [← zvals_eq]
    exact List.forall_mem_cons.mpr ⟨by k_memK,fun p hp=>.tail _ (.tail _ (.tail _ (.tail _ (.tail _ (.tail _ (.tail _ (Z.vled p hp)))))))⟩)
  k_dflt (refine' form_k ?B ?F ?X N2 ?T ?hk ?hd ?hu ?hV ?_;(case B=>k_asm);(case F=>k_asm);(case X=>k_asm);(case T=>k_asm);(case hk=>exact rfl);(case hd=>ktr_room);(case hu=>ktr_units);(case hV=>(intro v hv;obtain ⟨z,hz,rfl⟩:=List.mem_map.mp hv;exact (Z z hz).2.2.2.1)))
  intro t9 h9 tk9 F9 K9
  have N8:=keep0 lN F9 K9
  clear K9 N2
  (try k_sweep)
  (try dsimp only)
  (repeat' (first|(k_unfold;(try dsimp only))|(k_end;wrow_close)|((with_reducible show LCg.CompSrc ..);(with_reducible (((rename News _ _ _ _=>nS);k_dflt (refine LCg.CompSrc.ledger (by rfl) (by k_asm) nS (by k_mem) hsz ?_;intro g9);k_dflt (refine comp_ind (PaJ (fmL 0 (ZS.map (·.v))) _) ?fin9 ?step9 _ 0 [] _ (Nat.zero_add _) ⟨rfl,fun _ hp=>hp,fun _ _ h=>nomatch h⟩);(all_goals (refine held ?_))))))|((with_reducible show wpAny _ _ (eval (Expr.ListComp ..) _) _ _ _);(with_reducible (k_here;k_dflt (refine LCg.ListComp_U (F₀:=by k_asm) (by with_unfolding_all rfl) (by decide) (by rfl) (by decide) (by rfl) ?_))))|walk1|(dsimp only;(with_reducible show wpAny _ _ (call (Value.ref _) _) _ _ _))|(dsimp only;walk1)|(leave1;walk_say "STEP leave1";try dsimp only)|fail "no step"))
  case step9 =>
    unfold Hold
    intro i ys nx v I oI C oC D m2 h tk E' hi hJ hP hC hx F N off ne
    obtain ⟨t,rfl⟩:=hw.2 i v (by rw [List.getElem?_toArray] at hP;exact hP)
    have hf9:(0:Int)≤((whole (fmL 0 (ZS.map (·.v)))).getD i 0:Nat):=Int.natCast_nonneg _
    (repeat' (first|(k_unfold;(try dsimp only))|(k_end;wrow_close)|((with_reducible show wpAny _ _ (call (Value.ref _) _) _ _ _);with_reducible (k_here;(try dsimp only [List.nil_append,List.cons_append]);(with_reducible show wpAny _ _ (call (Value.ref 400) _) _ _ _);(rename News _ _ _ _=>lN);k_dflt (refine' ones_c  (by k_asm) (by k_asm) (by k_asm) (by ((refine news_sub lN ?_);k_allIn)) (by k_asm) (by exact rfl) (by ktr_room) (by ktr_units) (by assumption) ?_);intro t9 h9 tk9 F9 K9;(have N8:=keep0 lN F9 K9);clear K9;(try k_sweep);(try dsimp only)))|walk1|(dsimp only;(with_reducible show wpAny _ _ (call (Value.ref _) _) _ _ _))|(dsimp only;walk1)|(leave1;walk_say "STEP leave1";try dsimp only)|fail "no step"))
    rename News _ _ _ _=>nT
    obtain ⟨lI,lC,lD,lX⟩:=(by assumption:@LT.lt Nat _ I _∧@LT.lt Nat _ C _∧@LT.lt Nat _ D _∧AllLt _ nx)
    refine compEnd1 (by assumption) nT ?off9 ?src9 ?rest9
    case off9=>exact ⟨⟨Ne.symm (Nat.ne_of_lt lI),Ne.symm (Nat.ne_of_lt lC),Ne.symm (Nat.ne_of_lt lD)⟩,off⟩
    case src9=>exact Or.inr ⟨_,.tail _ (hJ.2.1 _ (.head _)),rfl,_,rfl⟩
    case rest9 =>
      obtain ⟨j1,j2,j3⟩:=hJ
      refine ⟨by rw [List.length_append,j1];rfl,fun p hp=>.tail _ (j2 p hp),fun j v hv=>?_⟩
      by_cases hj:j<ys.length
      · rw [List.getElem?_append_left hj] at hv
        obtain ⟨a,t',u',e,hm⟩:=j3 j v hv
        exact ⟨a,t',u',e,.tail _ hm⟩
      · rw [List.getElem?_append_right (by omega)] at hv
        have hj0:j=i:=by
          obtain ⟨q,_⟩:=List.getElem?_eq_some_iff.mp hv
          simp only [List.length_cons,List.length_nil] at q
          omega
        subst hj0
        rw [j1,Nat.sub_self] at hv
        cases hv
        exact ⟨_,_,_,rfl,.head _⟩
  case fin9 =>
    unfold Hold
    intro ys nx hJ
    unfold LCg.FinE
    intro D h tk F N o1
    obtain ⟨j1,j2,j3⟩:=hJ
    (try dsimp only)
    k_steps
    have hfm:fmL 0 (ZS.map (·.v))<16:=fmL_lt _
    have hwm:=whole_min ⟨_,hfm⟩
    dsimp only at hwm
    have hlen:ys.length=(whole (fmL 0 (ZS.map (·.v)))).length:=by rw [j1,List.size_toArray];exact hw.1
    refine min_pairs (vs:=ys) (ps:=pairAt (whole (fmL 0 (ZS.map (·.v))))) rfl (by ktr_units) (by assumption) (by assumption) (News.isList (by assumption) (by k_mem)) ?hne ?hp ?hgo
    case hne =>
      rw [hlen]
      refine Nat.pos_of_ne_zero fun h0=>?_
      rw [List.length_eq_zero_iff.mp h0] at hwm
      cases hwm
    case hp =>
      intro i v hv
      obtain ⟨a,t',u',e,hm⟩:=j3 i v hv
      exact ⟨a,t',u',e,News.tup (by assumption) (.tail _ hm)⟩
    case hgo =>
      intro v h' tk' hv F' N' hk
      obtain ⟨a,t',u',e,hm⟩:=j3 _ v hv
      subst e
      rw [hlen] at hm
      have e2:(pairAt (whole (fmL 0 (ZS.map (·.v)))) (argBest (fun i j=>lexB (pairAt (whole (fmL 0 (ZS.map (·.v)))) i) (pairAt (whole (fmL 0 (ZS.map (·.v)))) j)) ((whole (fmL 0 (ZS.map (·.v)))).length - 1))).2=((fmL 0 (ZS.map (·.v)):Nat):Int):=by
        unfold pairAt at hwm ⊢
        dsimp only at hwm ⊢
        rw [List.getD_eq_getElem?_getD,hwm]
        rfl
      rw [e2] at hm
      have N2:News g L h' ((a,tupOf #[.int (pairAt (whole (fmL 0 (ZS.map (·.v)))) (argBest (fun i j=>lexB (pairAt (whole (fmL 0 (ZS.map (·.v)))) i) (pairAt (whole (fmL 0 (ZS.map (·.v)))) j)) ((whole (fmL 0 (ZS.map (·.v)))).length - 1))).1 t',.int ((fmL 0 (ZS.map (·.v)):Nat):Int) u'])::(L+1,op)::(pn,W.listOf #[.ref cp,.int sp pt1,.int ac pt2,.int kk pt3] pnn)::(cp,W.listOf cells.toArray pc0)::(L+1+1,oc)::(lr,W.listOf (zrefs ZS).toArray c1)::(lv,W.listOf (zvals ZS).toArray c2)::tl):=fun p hp=>N' p (by
        rcases List.mem_cons.mp hp with rfl|hp
        · exact .tail _ hm
        · exact .tail _ (j2 p (.tail _ hp)))
      clear N' j3 hv hk
      k_steps
      all_goals (first|(exfalso;omega)|refine execsG_nil ?_)
      dsimp only
      rename Fr _ _ _ _=>eF
      rename News _ _ _ _=>eN
      have F3:Fr g L _ (oAt [(Str.ofString "values",some (.ref lv)),(Str.ofString "form",some (.int fo tfo))] _):=Fr.as eF [Str.ofString "values",Str.ofString "form"]
      have N3:=news_tail eN
      have key:=fun tk9=>law_t8 (s:={s with heap:=_,toks:=tk9}) T X B hE hend Z hoc hop hi hl h1 h1' h2 h3 h3' np F3 N3
      dsimp only [lawA,lawEnv,lawOf,List.drop_succ_cons,List.drop_zero] at key
      exact key _
end
end law_t7_E
theorem law_t7 {w:World} {p:Program} {loose:List Str} {mean:ExcName→Option Value} {mg mb:Str→Option Value} {L fa:Addr} {cd:Value} {g:Heap} {m:Str→Option Value} {s:Shared} {Q:Flow→Shared→Prop} {E:Value→Shared→Prop} {lr lv lw:Addr} {oc op:Obj} {ZS:List RV} {c1 c2 cw:Nat} {os:List Value} {fo:Int} {tfo:Tok} {pn cp:Addr} {sp ac kk:Int} {pt1 pt2 pt3:Tok} {pnn pc0:Nat} {cells:List PySem.Value} {ns:List Int}:@law_t7_S w p loose mean mg mb L fa cd g m s Q E lr lv lw oc op ZS c1 c2 cw os fo tfo pn cp sp ac kk pt1 pt2 pt3 pnn pc0 cells ns:=@Classical.byContradiction _ fun h=>pick_all (P:=law_t7_E.ep) (by with_unfolding_all exact fun k=>k @law_t7_E.ek) (w,p,loose,mean,mg,mb,L,fa,cd,g,m,s,Q,E,lr,lv,lw,oc,op,ZS,c1,c2,cw,os,fo,tfo,pn,cp,sp,ac,kk,pt1,pt2,pt3,pnn,pc0,cells,ns) h
end
end
section
set_option Elab.async false
set_option maxRecDepth 100000
set_option linter.unusedVariables false
set_option maxHeartbeats 4000000
section
section
variable {prog:Program} {w:World} {A:Around} {E:Value→Shared→Prop} {s:Shared} {h₀:Heap} {L:Addr} {m:Str→Option Value} {env:Env} {elt ct:Expr} {x:Str} {scope:Scope} {cl:List (Str×Addr)} {n:Nat}
theorem newCompEnv_cell {M:Model} {globals:Addr} {qual:Str} {outer:Env} {Q:Env→Shared→Prop}
    (hc:∀ n,cellsFrom n scope.names cl=(x,n)::cl) (hp:∀ h:Heap,pushCells h scope.names=h.push {cls:=.type "cell",data:=.cell none})
    (hQ:Q {scope:=scope,locals:=s.heap.objs.size,globals:=globals,cells:=(x,s.heap.objs.size+1)::cl,qual:=qual,func:=none,code:=outer.code,frame:=outer.frame,builtins:=outer.builtins}
      {s with heap:=(s.heap.push {cls:=.type "dict",data:=.dict #[]}).push {cls:=.type "cell",data:=.cell none}}) :
    wpAny M A (newFunctionEnv scope globals cl [] qual none .none (some outer)) Q E s:=by
  simp only [newFunctionEnv,Option.isSome_some,if_true]
  refine wpAny_bind (wpAny_alloc ?_)
  refine wpAny_bind (wpAny_layCells _ (fun name kind cells=>by cases hkc:kind == NameKind.cell <;> simp [hkc]) _ _ _ _ ?_)
  rw [hc,hp]
  rw [show ({s with heap:=s.heap.push {cls:=.type "dict",data:=.dict #[]}}:Shared).heap.objs.size=s.heap.objs.size+1 from Heap.size_push ..]
  rw [List.forIn_nil]
  exact wpAny_bind (wpAny_pure (wpAny_pure hQ))
def TurnC (h₀:Heap) (L:Addr) (m:Str→Option Value) (s₁:Shared) (big:List (Addr×Obj)) (K:Value→Prop) (y:Value) (s':Shared):Prop :=
  ∃ h' tk,s'={s₁ with heap:=h',toks:=tk}∧Fr h₀ L h' m∧News h₀ L h' big∧K y
theorem TurnC.mk {s₁:Shared} {big all:List (Addr×Obj)} {K:Value→Prop} {y:Value} {h':Heap} {tk:Nat} (F:Fr h₀ L h' m) (N:News h₀ L h' all) (hs:∀ p∈big,p∈all) (k:K y) :
    TurnC h₀ L m s₁ big K y {s₁ with heap:=h',toks:=tk}:=⟨h',tk,rfl,F,fun p hp=>N p (hs p hp),k⟩
def StepC (prog:Program) (w:World) (A:Around) (h₀:Heap) (L:Addr) (m:Str→Option Value) (env:Env) (ct elt:Expr) (x:Str) (scope:Scope) (cl:List (Str×Addr)) (s:Shared) (a:Int) (n:Nat) (J:Nat→List Value→Prop) (news:List (Addr×Obj)):Prop :=
  ∀ i ys t I oI C oC c oc D h tk (E':Value→Shared→Prop),i<n→J i ys→oc.data=.cell (some (.int (a+(i:Int)) t))→Fr h₀ L h m→News h₀ L h ((I,oI)::(C,oC)::(c,oc)::(D,LCg.lst ys)::news) →
      wpAny (model prog w) A (isTrue ct (compEnvC scope ((x,c)::cl) C env) (eval ct (compEnvC scope ((x,c)::cl) C env))) (fun ok s'=>if ok=true then
        wpAny (model prog w) A (eval elt (compEnvC scope ((x,c)::cl) C env)) (TurnC h₀ L m {s with heap:=h,toks:=tk} ((I,oI)::(C,oC)::(c,oc)::(D,LCg.lst ys)::news) (fun y=>J (i+1) (ys++[y]))) E' s'
        else TurnC h₀ L m {s with heap:=h,toks:=tk} ((I,oI)::(C,oC)::(c,oc)::(D,LCg.lst ys)::news) (fun _=>J (i+1) ys) Value.none s') E' {s with heap:=h,toks:=tk}
end
abbrev block_C_S {prog:Program} {w:World} {A:Around} {E:Value→Shared→Prop} {h₀:Heap} {L:Addr} {m:Str→Option Value} {env:Env} {elt ct:Expr} {x:Str} {scope:Scope} {cl:List (Str×Addr)} {n:Nat} {iter:Expr} {px pos:Pos} {s₂:Shared} {I:Addr} {a:Int} {J:Nat→List Value→Prop} {news:List (Addr×Obj)} {RR:Value→Addr→Result→Shared→Prop}:Prop:=∀ (hh:A.handled=none) (hsz:n≤sizeLine) (hc:∀ n,cellsFrom n scope.names cl=(x,n)::cl) (hp:∀ h:Heap,pushCells h scope.names=h.push {cls:=.type "cell",data:=.cell none}) (hkind:scope.kind=.function) (hx:(relabel scope env).names.lookup x=some .cell) (hst:IsRangeIter s₂.heap I a n 1) (F:Fr h₀ L s₂.heap m) (N:News h₀ L s₂.heap news) (hIL:L≠I) (hI₀:h₀.get? I=none) (off:∀ p∈news,p.1≠I) (hJ:∀ ys i,J i ys→ys.length≤i) (h0:J 0 []) (R:StepC prog w A h₀ L m env ct elt x scope cl s₂ a n J news) (hRR:∀ D C h tk m' ys,Fr h₀ L h m→News h₀ L h ((D,LCg.lst ys)::news)→LCg.Off1 D news→h.Ns C m'→h₀.get? C=none→h₀.get? D=none→C≠L→D≠L→C≠D→(∀ p∈news,p.1≠C)→J n ys→RR (.ref D) C (.ok .next) {s₂ with heap:=h,toks:=tk}),
    wpAny (model prog w) A (newList []) (fun acc s₃=>wpAny (model prog w) A (newFunctionEnv scope env.globals cl [] env.qual none .none (some env)) (fun cenv s₄ =>
      codeAny (model prog w) A (.compStart (.ListComp elt [⟨.Name x px,iter,[ct],0⟩] scope pos) 0 (.ref I) acc {cenv with scope:=relabel scope env}) (RR acc cenv.locals) s₄) E s₃) E s₂
namespace block_C_E
noncomputable section
def ep:=U fun prog=>U fun w=>U fun A=>U fun E=>U fun h₀=>U fun L=>U fun m=>U fun env=>U fun elt=>U fun ct=>U fun x=>U fun scope=>U fun cl=>U fun n=>U fun iter=>U fun px=>U fun pos=>U fun s₂=>U fun I=>U fun a=>U fun J=>U fun news=>fun RR=>¬ @block_C_S prog w A E h₀ L m env elt ct x scope cl n iter px pos s₂ I a J news RR
def ec:=pick ep (df,sW,callerA,df,{},0,df,df,df,df,df,df,[],0,df,df,df,{},0,0,df,[],df)
@[irreducible] def prog:=ec.1
@[irreducible] def w:=ec.2.1
@[irreducible] def A:=ec.2.2.1
@[irreducible] def E:=ec.2.2.2.1
@[irreducible] def h₀:=ec.2.2.2.2.1
@[irreducible] def L:=ec.2.2.2.2.2.1
@[irreducible] def m:=ec.2.2.2.2.2.2.1
def ec1:=ec.2.2.2.2.2.2.2
@[irreducible] def env:=ec1.1
@[irreducible] def elt:=ec1.2.1
@[irreducible] def ct:=ec1.2.2.1
@[irreducible] def x:=ec1.2.2.2.1
@[irreducible] def scope:=ec1.2.2.2.2.1
@[irreducible] def cl:=ec1.2.2.2.2.2.1
@[irreducible] def n:=ec1.2.2.2.2.2.2.1
def ec2:=ec1.2.2.2.2.2.2.2
@[irreducible] def iter:=ec2.1
@[irreducible] def px:=ec2.2.1
@[irreducible] def pos:=ec2.2.2.1
@[irreducible] def s₂:=ec2.2.2.2.1
@[irreducible] def I:=ec2.2.2.2.2.1
@[irreducible] def a:=ec2.2.2.2.2.2.1
@[irreducible] def J:=ec2.2.2.2.2.2.2.1
def ec3:=ec2.2.2.2.2.2.2.2
@[irreducible] def news:=ec3.1
@[irreducible] def RR:=ec3.2
theorem ek:@block_C_S prog w A E h₀ L m env elt ct x scope cl n iter px pos s₂ I a J news RR:=by
  intro hh hsz hc hp hkind hx hst F N hIL hI₀ off hJ h0 R hRR
  have W:=LCg.range_walks (prog:=prog) (w:=w) (A:=A) (I:=I) hh a n
  refine wpAny_newObj_type (newCompEnv_cell hc hp ?_)
  dsimp only
  generalize hH2:s₂.heap.push {cls:=.type "list",dict:=none,data:=.seq ([]:List Value).toArray}=H2
  have hC:H2.objs.size=s₂.heap.objs.size+1:=by rw [← hH2,Heap.size_push]
  have hDC:s₂.heap.objs.size≠H2.objs.size:=by rw [hC];exact Nat.ne_of_lt (Nat.lt_succ_self _)
  have below:∀ b,b<s₂.heap.objs.size→b≠H2.objs.size∧b≠s₂.heap.objs.size∧b≠H2.objs.size+1:=fun b hb=>⟨by rw [hC];exact Nat.ne_of_lt (Nat.lt_succ_of_lt hb),Nat.ne_of_lt hb,by rw [hC];exact Nat.ne_of_lt (Nat.lt_succ_of_lt (Nat.lt_succ_of_lt hb))⟩
  have hDc:s₂.heap.objs.size≠H2.objs.size+1:=by rw [hC];exact Nat.ne_of_lt (Nat.lt_succ_of_lt (Nat.lt_succ_self _))
  have hCc:H2.objs.size≠H2.objs.size+1:=Nat.ne_of_lt (Nat.lt_succ_self _)
  have hIlt:I<s₂.heap.objs.size:=Heap.lt_size hst
  have hLlt:L<s₂.heap.objs.size:=F.ns.lt
  generalize hH3:H2.push {cls:=.type "dict",data:=.dict #[]}=H3
  have hs3:H3.objs.size=H2.objs.size+1:=by rw [← hH3,Heap.size_push]
  generalize hH4:H3.push {cls:=.type "cell",data:=.cell none}=h₁
  have old:∀ b o,s₂.heap.get? b=some o→h₁.get? b=some o:=fun b o e=>hH4 ▸ Heap.get?_push_of_some _ (hH3 ▸ Heap.get?_push_of_some _ (hH2 ▸ Heap.get?_push_of_some _ e))
  have hacc:h₁.get? s₂.heap.objs.size=some (LCg.lst []):=hH4 ▸ Heap.get?_push_of_some _ (hH3 ▸ Heap.get?_push_of_some _ (hH2 ▸ Heap.get?_push_size _ rfl))
  have hns₁:h₁.Ns H2.objs.size (fun _=>none):=(hH3 ▸ Heap.Ns.new H2 (.type "dict"):H3.Ns H2.objs.size (fun _=>none)).keeps fun b o e=>hH4 ▸ Heap.get?_push_of_some _ e
  have hcell₁:h₁.get? (H2.objs.size+1)=some {cls:=.type "cell",data:=.cell none}:=by
    rw [← hs3,← hH4];exact Heap.get?_push_size _ rfl
  have hst₁:IsRangeIter h₁ I (a+((0:Nat):Int)*1) ((n:Int) - ((0:Nat):Int)) 1:=by
    have:h₁.get? I=some _:=old _ _ hst
    show h₁.get? I=some _
    simpa using this
  have fresh₀:∀ b,s₂.heap.objs.size≤b→h₀.get? b=none:=fun b hb=>by
    cases e:h₀.get? b with
    | none=>rfl
    | some o'=>exact absurd (Heap.lt_size (F.keep b o' e)) (Nat.not_lt.mpr hb)
  have hD₀:=fresh₀ _ (Nat.le_refl _)
  have hC₀:h₀.get? H2.objs.size=none:=fresh₀ _ (by rw [hC];exact Nat.le_succ _)
  have hc₀:h₀.get? (H2.objs.size+1)=none:=fresh₀ _ (by rw [hC];exact Nat.le_succ_of_le (Nat.le_succ _))
  have hDL:s₂.heap.objs.size≠L:=Ne.symm (below L hLlt).2.1
  have hCL:H2.objs.size≠L:=Ne.symm (below L hLlt).1
  have hcL:H2.objs.size+1≠L:=Ne.symm (below L hLlt).2.2
  have hCI:I≠H2.objs.size:=(below I hIlt).1
  have hDI:I≠s₂.heap.objs.size:=(below I hIlt).2.1
  have hcI:I≠H2.objs.size+1:=(below I hIlt).2.2
  have offN:∀ p∈news,p.1≠H2.objs.size∧p.1≠s₂.heap.objs.size∧p.1≠H2.objs.size+1:=fun p hp=>below _ (Heap.lt_size (N p hp).1)
  have hk:(compEnvC scope ((x,H2.objs.size+1)::cl) H2.objs.size env).kindOf x=some .cell:=hx
  have hlk:(compEnvC scope ((x,H2.objs.size+1)::cl) H2.objs.size env).cells.lookup x=some (H2.objs.size+1):=by simp [compEnvC]
  have loop:∀ s₃:Shared,s₃={s₂ with heap:=h₁} →
      codeAny (model prog w) A (.compLoop (.ListComp elt [⟨.Name x px,iter,[ct],0⟩] scope pos) 0 (.ref I) (.ref s₂.heap.objs.size) (compEnvC scope ((x,H2.objs.size+1)::cl) H2.objs.size env))
        (RR (.ref s₂.heap.objs.size) H2.objs.size) s₃:=by
    rintro s₃ rfl
    refine codeAny_compLoop_tests
      (fun k s'=>∃ h' tk i ys v₀ m',s'={s₂ with heap:=h',toks:=tk}∧i≤n∧k=n+1 - i∧J i ys∧IsRangeIter h' I (a+(i:Nat)*1) ((n:Int) - (i:Nat)) 1∧Fr h₀ L h' m∧h'.Ns H2.objs.size m'∧h'.IsCell (H2.objs.size+1) v₀ ∧
        News h₀ L h' ((s₂.heap.objs.size,LCg.lst ys)::news)) ?_ (n+1)
      ⟨h₁,_,0,[],_,_,rfl,Nat.zero_le _,rfl,h0,hst₁,F.keeps old,hns₁,⟨_,hcell₁,rfl⟩,fun p hp=>?_⟩
    · rintro k s' ⟨h',tk,i,ys,v₀,m',rfl,hi,rfl,hj,hst',F',hn',hc',N'⟩
      by_cases hlt:i<n
      · refine W.item i _ _ _ hlt hst' fun v h₂ tk₂ hPv hst₂ hk₂=>?_
        obtain ⟨t,rfl⟩:=hPv
        have hc₂:h₂.IsCell (H2.objs.size+1) v₀:=by
          obtain ⟨o,e,d⟩:=hc'
          exact ⟨o,hk₂ _ o (by simpa using Ne.symm hcI) e,d⟩
        refine wpAny_assign_Name (wpAny_storeName_cell (by simp [compEnvC,relabel,hkind]) hk hlk hc₂ fun h₃ hv₃ hs₃=>?_)
        refine wpAny_tests_one ?_
        have hst₃:IsRangeIter h₃ I (a+((i+1:Nat):Int)*1) ((n:Int) - ((i+1:Nat):Int)) 1:=W.frame _ _ _ hst₂ fun b hb o e=>hs₃.extBut b o (fun q=>by rw [List.mem_singleton.mp hb] at q;exact hcI q) e
        have hn₂:h₂.Ns H2.objs.size m':=hn'.at' fun o e=>hk₂ _ o (by simpa using Ne.symm hCI) e
        have hn₃:h₃.Ns H2.objs.size m':=hn₂.sameBut hs₃ hCc
        obtain ⟨oI,heI⟩:∃ o,h₃.get? I=some o:=⟨_,hst₃⟩
        obtain ⟨oC,heC,hoC⟩:=LCg.ns_obj hn₃
        obtain ⟨oc,hec,hoc⟩:=hv₃
        have F₃:Fr h₀ L h₃ m:=(LCg.fr_but F' hk₂ hIL hI₀).change hs₃ hcL hc₀
        have N₂:News h₀ L h₂ ((s₂.heap.objs.size,LCg.lst ys)::news):=LCg.news_but N' hk₂ fun p hp=>by
          rcases List.mem_cons.mp hp with rfl|hp
          · exact Ne.symm hDI
          · exact off p hp
        have N₃:News h₀ L h₃ ((I,oI)::(H2.objs.size,oC)::(H2.objs.size+1,oc)::(s₂.heap.objs.size,LCg.lst ys)::news):=fun p hp=>by
          rcases List.mem_cons.mp hp with rfl|hp
          · exact ⟨heI,Ne.symm hIL,hI₀⟩
          rcases List.mem_cons.mp hp with rfl|hp
          · exact ⟨heC,hCL,hC₀⟩
          rcases List.mem_cons.mp hp with rfl|hp
          · exact ⟨hec,hcL,hc₀⟩
          have z:=N₂ p hp
          refine ⟨hs₃.extBut _ _ ?_ z.1,z.2⟩
          rcases List.mem_cons.mp hp with rfl|hp
          · exact hDc
          · exact (offN p hp).2.2
        refine wpAny_mono (R i ys t I oI H2.objs.size oC (H2.objs.size+1) oc s₂.heap.objs.size h₃ _ _ hlt hj hoc F₃ N₃) (fun ok s₄ h₄=>?_) fun _ _ e=>e
        have fin:∀ h₄:Heap,Fr h₀ L h₄ m→News h₀ L h₄ ((I,oI)::(H2.objs.size,oC)::(H2.objs.size+1,oc)::(s₂.heap.objs.size,LCg.lst ys)::news) →
            IsRangeIter h₄ I (a+((i+1:Nat):Int)*1) ((n:Int) - ((i+1:Nat):Int)) 1∧h₄.Ns H2.objs.size m'∧h₄.IsCell (H2.objs.size+1) (some (.int (a+(i:Int)) t))∧News h₀ L h₄ ((s₂.heap.objs.size,LCg.lst ys)::news):=fun h₄ F₄ N₄=>by
          have zI:=(N₄ (I,oI) List.mem_cons_self).1
          refine ⟨?_,hoC.ns (N₄ _ (.tail _ (.head _))).1,⟨_,(N₄ _ (.tail _ (.tail _ (.head _)))).1,hoc⟩,fun p hp=>N₄ p (.tail _ (.tail _ (.tail _ hp)))⟩
          have q:h₃.get? I=some _:=hst₃
          show h₄.get? I=some _
          rw [zI,← heI];exact q
        cases ok with
        | true =>
          simp only [if_true] at h₄ ⊢
          refine wpAny_mono h₄ (fun y s₅ h₅=>?_) fun _ _ e=>e
          obtain ⟨h₄,tk₄,rfl,F₄,N₄,j₄⟩:=h₅
          obtain ⟨a1,a2,a3,a4⟩:=fin h₄ F₄ N₄
          refine append_at (hsz:=by show ys.toArray.size≤sizeLine;rw [List.size_toArray];exact Nat.le_trans (Nat.le_trans (hJ _ _ hj) hi) hsz) (a4 _ (.head _)).1 fun h₅ hs₅ hD₅=>?_
          refine ⟨n+1 - (i+1),by omega,h₅,tk₄,i+1,ys++[y],_,_,rfl,hlt,rfl,j₄,W.frame _ _ _ a1 fun b hb o e=>hs₅.extBut b o (fun q=>by rw [List.mem_singleton.mp hb] at q;exact hDI q) e,F₄.change hs₅ hDL hD₀,
            a2.sameBut hs₅ (Ne.symm hDC),a3.sameBut hs₅ (Ne.symm hDc),fun p hp=>?_⟩
          rcases List.mem_cons.mp hp with rfl|hp
          · exact ⟨hD₅.trans (congrArg some (LCg.lst_snoc ys y)),hDL,hD₀⟩
          · exact ⟨hs₅.extBut _ _ (offN p hp).2.1 (a4 p (.tail _ hp)).1,(a4 p (.tail _ hp)).2⟩
        | false =>
          simp only [Bool.false_eq_true,if_false] at h₄ ⊢
          obtain ⟨h₄,tk₄,rfl,F₄,N₄,j₄⟩:=h₄
          obtain ⟨a1,a2,a3,a4⟩:=fin h₄ F₄ N₄
          exact ⟨n+1 - (i+1),by omega,h₄,tk₄,i+1,ys,_,_,rfl,hlt,rfl,j₄,a1,F₄,a2,a3,a4⟩
      · obtain rfl:i=n:=Nat.le_antisymm hi (Nat.not_lt.mp hlt)
        refine W.done _ _ _ hst' fun h₂ tk₂ hk₂=>?_
        have o1:∀ {l:List (Addr×Obj)},(∀ p∈l,p.1≠s₂.heap.objs.size)→LCg.Off1 s₂.heap.objs.size l:=by
          intro l
          induction l with
          | nil=>intro _;trivial
          | cons p r ih=>intro h;exact ⟨h p (.head _),ih fun q hq=>h q (.tail _ hq)⟩
        exact hRR _ _ h₂ tk₂ _ ys (LCg.fr_but F' hk₂ hIL hI₀) (LCg.news_but N' hk₂ fun p hp=>by
          rcases List.mem_cons.mp hp with rfl|hp
          · exact Ne.symm hDI
          · exact off p hp) (o1 fun p hp=>(offN p hp).2.1) (hn'.at' fun o e=>hk₂ _ o (by simpa using Ne.symm hCI) e) hC₀ hD₀ hCL hDL (Ne.symm hDC) (fun p hp=>(offN p hp).1) hj
    · rcases List.mem_cons.mp hp with rfl|hp
      · exact ⟨hacc,hDL,hD₀⟩
      · exact ⟨old _ _ (N p hp).1,(N p hp).2⟩
  exact codeAny_compStart_list (loop _ rfl) (W.self 0 _ _ _ hst₁ (loop _ rfl))
end
end block_C_E
theorem block_C {prog:Program} {w:World} {A:Around} {E:Value→Shared→Prop} {h₀:Heap} {L:Addr} {m:Str→Option Value} {env:Env} {elt ct:Expr} {x:Str} {scope:Scope} {cl:List (Str×Addr)} {n:Nat} {iter:Expr} {px pos:Pos} {s₂:Shared} {I:Addr} {a:Int} {J:Nat→List Value→Prop} {news:List (Addr×Obj)} {RR:Value→Addr→Result→Shared→Prop}:@block_C_S prog w A E h₀ L m env elt ct x scope cl n iter px pos s₂ I a J news RR:=@Classical.byContradiction _ fun h=>pick_all (P:=block_C_E.ep) (by with_unfolding_all exact fun k=>k @block_C_E.ek) (prog,w,A,E,h₀,L,m,env,elt,ct,x,scope,cl,n,iter,px,pos,s₂,I,a,J,news,RR) h
section
variable {prog:Program} {w:World} {A:Around} {E:Value→Shared→Prop} {s:Shared} {h₀:Heap} {L:Addr} {m:Str→Option Value} {env:Env} {elt ct:Expr} {x:Str} {scope:Scope} {cl:List (Str×Addr)} {n:Nat}
def SrcC (prog:Program) (w:World) (A:Around) (h₀:Heap) (L:Addr) (m:Str→Option Value) (env:Env) (ct elt:Expr) (x:Str) (scope:Scope) (cl:List (Str×Addr)) (n:Nat) (a:Int) (J:Nat→List Value→Prop) (y:Str) (Q:Flow→Shared→Prop) (xv:Value) (s₁:Shared):Prop :=
  ∃ r b t u v news,xv=.ref r∧A.handled=none∧Fr h₀ L s₁.heap m∧News h₀ L s₁.heap news∧IsRange s₁.heap r a b 1 t u v∧Builtin.Range.small a b 1=true∧Builtin.Range.rangeSize a b 1=((n:Nat):Int)∧n≤sizeLine ∧
      ∀ g,StepC prog w A h₀ L m env ct elt x scope cl {s₁ with heap:=g} a n J news∧(∀ ys D h tk,J n ys→Fr h₀ L h (fun z=>if z=y then some (.ref D) else m z)→News h₀ L h ((D,LCg.lst ys)::news)→LCg.Off1 D news→Q .next {s₁ with heap:=h,toks:=tk})
theorem SrcC.mk {a b:Int} {J:Nat→List Value→Prop} {y:Str} {Q:Flow→Shared→Prop} {r:Addr} {t u v:Tok} {news:List (Addr×Obj)} (hh:A.handled=none) (F:Fr h₀ L s.heap m) (N:News h₀ L s.heap news) (hr:IsRange s.heap r a b 1 t u v) (hsm:Builtin.Range.small a b 1=true) (hn:Builtin.Range.rangeSize a b 1=((n:Nat):Int)) (hsz:n≤sizeLine)
    (step:∀ g,StepC prog w A h₀ L m env ct elt x scope cl {s with heap:=g} a n J news)
    (fin:∀ ys D h tk,J n ys→Fr h₀ L h (fun z=>if z=y then some (.ref D) else m z)→News h₀ L h ((D,LCg.lst ys)::news)→LCg.Off1 D news→Q .next {s with heap:=h,toks:=tk}) :
    SrcC prog w A h₀ L m env ct elt x scope cl n a J y Q (.ref r) s:=⟨r,b,t,u,v,news,rfl,hh,F,N,hr,hsm,hn,hsz,fun g=>⟨step g,fin⟩⟩
theorem Assign_ListComp_C {iter:Expr} {y:Str} {px py:Pos} {pos spos:Pos} {Q:Flow→Shared→Prop} {a:Int} {J:Nat→List Value→Prop} (F₀:Fr h₀ L s.heap m) (hLe:env.locals=L)
    (hsw:swapsWith (.ListComp elt [⟨.Name x px,iter,[ct],0⟩] scope pos) (some (.Name y py)) spos.line env=pure true)
    (hclos:closureFor scope env=pure cl) (hc:∀ n,cellsFrom n scope.names cl=(x,n)::cl) (hpc:∀ h:Heap,pushCells h scope.names=h.push {cls:=.type "cell",data:=.cell none}) (hkind:scope.kind=.function)
    (hnames:∀ z∈scope.names,z.2=.local→scope.names.lookup z.1=some .local) (hx:(relabel scope env).names.lookup x=some .cell)
    (hy:env.kindOf y=some .local) (hp:(env.scope.kind == .class || (env.scope.kind == .module && env.locals != env.globals))=false)
    (hJ:∀ ys i,J i ys→ys.length≤i) (h0:J 0 [])
    (h:wpAny (model prog w) A (eval iter env) (SrcC prog w A h₀ L m env ct elt x scope cl n a J y Q) E s)
    (hs:∀ x,foldedSetIterable iter env x=pure x:=by intro _;rfl) :
    wpAny (model prog w) A (exec (.Assign [.Name y py] (.ListComp elt [⟨.Name x px,iter,[ct],0⟩] scope pos) spos) env) Q E s:=by
  subst hLe
  rw [exec_Assign_Name_used _ _ _ _ hsw]
  refine wpAny_bind (wpAny_standAt (wpAny_bind ?_))
  show wpAny _ A (do let _ ← comprehension (.ListComp elt [⟨.Name x px,iter,[ct],0⟩] scope pos) scope env _ (newList []) false (eval iter env) (some (assign (.Name y py) env))) _ _ s
  refine wpAny_bind (wpAny_mono (wpAny_comprehension_free (use:=some (assign (.Name y py) env)) (Q:=fun _ s'=>Q .next s') rfl hs hclos hkind hnames
    (wpAny_mono h (fun xv s₁ h₁=>?_) fun _ _ e=>e)) (fun _ s' hq=>wpAny_pure (wpAny_pure hq)) fun _ _ e=>e)
  obtain ⟨r,b,t,u,v,news,rfl,hh,F,N,hr,hsm,hn,hsz,R⟩:=h₁
  refine wpAny_pyIter_range hr hsm ?_
  refine block_C hh hsz hc hpc hkind hx (by show IsRangeIter _ _ _ _ _;rw [hn];simpa using Heap.get?_push_size _ rfl)
    (F.keeps fun _ _ e=>Heap.get?_push_of_some _ e) (N.grown fun _ _ e=>Heap.get?_push_of_some _ e) (Nat.ne_of_lt F.ns.lt) (next_is_new F) (fun p hp=>Nat.ne_of_lt (Heap.lt_size (N p hp).1)) hJ h0 (R _).1 ?_
  intro D C h' tk m' ys F' N' o1 hn hC₀ hD₀ hCL hDL hCD offC fin
  show wpAny _ A (assign (.Name y py) env (.ref D)) _ _ _
  refine wpAny_assign_Name (wpAny_storeName_local hy F'.ns (fun h₂ hn₂ hs₂=>?_) hp)
  have hL₀:h₀.get? env.locals=none:=Heap.get?_none_of_le F'.above
  have F₂:Fr h₀ env.locals h₂ (fun z=>if z=y then some (.ref D) else m z):=⟨hn₂,fun b o e=>hs₂.extBut b o (fun q=>by rw [q,hL₀] at e;cases e) (F'.keep b o e),F'.above⟩
  refine ⟨m',hn.sameBut hs₂ hCL,fun h'' hs''=>(R s₁.heap).2 ys D h'' _ fin (F₂.change hs'' hCL hC₀) (fun p hp=>?_) o1⟩
  have z:h₂.get? p.1=some p.2:=hs₂.extBut _ _ (N' p hp).2.1 (N' p hp).1
  refine ⟨hs''.extBut _ _ ?_ z,(N' p hp).2⟩
  rcases List.mem_cons.mp hp with rfl|hp
  · exact Ne.symm hCD
  · exact offC p hp
end
end
end
section
set_option Elab.async false
set_option maxRecDepth 100000
set_option maxHeartbeats 4000000
set_option linter.unusedVariables false
set_option pp.deepTerms false
set_option pp.maxSteps 2000
def WJ (fm:Nat) (i:Nat) (ys:List PySem.Value):Prop:=ys.length=((List.range i).filter (supB fm)).length∧∀ j v,ys[j]? = some v→∃ t:Tok,v=PySem.Value.int (((List.range i).filter (supB fm)).getD j 0:Nat) t
theorem WJ.len {fm i:Nat} {ys:List PySem.Value} (h:WJ fm i ys):ys.length≤i:=by
  rw [h.1]
  exact Nat.le_trans (List.length_filter_le _ _) (Nat.le_of_eq List.length_range)
theorem WJ.zero {fm:Nat}:WJ fm 0 []:=⟨rfl,fun j v h=>nomatch h⟩
theorem WJ.yes {fm i:Nat} {ys:List PySem.Value} {t:Tok} (h:WJ fm i ys) (hs:supB fm i=true):WJ fm (i+1) (ys++[.int (0+(i:Int)) t]):=by
  obtain ⟨h1,h2⟩:=h
  have e:(List.range (i+1)).filter (supB fm)=(List.range i).filter (supB fm)++[i]:=by
    rw [List.range_succ,List.filter_append,List.filter_cons_of_pos (by exact hs),List.filter_nil]
  refine ⟨by rw [e,List.length_append,List.length_append,h1];rfl,fun j v hv=>?_⟩
  rw [e,List.getD_eq_getElem?_getD]
  by_cases hj:j<ys.length
  · rw [List.getElem?_append_left hj] at hv
    rw [List.getElem?_append_left (by omega),← List.getD_eq_getElem?_getD]
    exact h2 j v hv
  · rw [List.getElem?_append_right (by omega)] at hv
    have hj0:j=ys.length:=by
      obtain ⟨q,_⟩:=List.getElem?_eq_some_iff.mp hv
      simp only [List.length_cons,List.length_nil] at q
      omega
    subst hj0
    rw [Nat.sub_self] at hv
    cases hv
    rw [List.getElem?_append_right (by omega),h1,Nat.sub_self]
    exact ⟨t,by simp⟩
theorem WJ.no {fm i:Nat} {ys:List PySem.Value} (h:WJ fm i ys) (hs:supB fm i=false):WJ fm (i+1) ys:=by
  have e:(List.range (i+1)).filter (supB fm)=(List.range i).filter (supB fm):=by
    rw [List.range_succ,List.filter_append,List.filter_cons_of_neg (by simp [hs]),List.filter_nil,List.append_nil]
  unfold WJ
  rw [e]
  exact h
def RwsJ (ZS:List RV) (o:Nat) (big:List (Addr×Obj)) (i:Nat) (ys:List PySem.Value) (nx:List (Addr×Obj)):Prop :=
  nx=big∧(∀ v∈ys,∃ z∈ZS,v=.ref z.r)∧(ys=[]↔((ZS.take i).all fun z=>bearsB (o:Int) z.v.g 4)=true)
theorem RwsJ.zero {ZS:List RV} {o:Nat} {big:List (Addr×Obj)}:RwsJ ZS o big 0 [] big:=⟨rfl,(fun v hv=>nomatch hv),by simp⟩
theorem zrefs_at {ZS:List RV} {i:Nat} {v:PySem.Value} (h:(zrefs ZS)[i]? = some v):∃ z,ZS[i]? = some z∧z∈ZS∧v=.ref z.r:=by
  unfold zrefs at h
  rw [List.getElem?_map] at h
  obtain ⟨z,hz,e⟩:=Option.map_eq_some_iff.mp h
  exact ⟨z,hz,List.mem_of_getElem? hz,e.symm⟩
theorem take_snoc {ZS:List RV} {i:Nat} {z:RV} (h:ZS[i]? = some z):ZS.take (i+1)=ZS.take i++[z]:=by
  rw [List.take_succ,h];rfl
theorem RwsJ.yes {ZS:List RV} {o i:Nat} {big nx:List (Addr×Obj)} {ys:List PySem.Value} {z:RV} (h:RwsJ ZS o big i ys nx) (hz:ZS[i]? = some z) (hb:bearsB (o:Int) z.v.g 4=false):RwsJ ZS o big (i+1) (ys++[.ref z.r]) nx:=by
  obtain ⟨h1,h2,h3⟩:=h
  refine ⟨h1,fun v hv=>?_, ?_⟩
  · rcases List.mem_append.mp hv with hv|hv
    · exact h2 v hv
    · exact ⟨z,List.mem_of_getElem? hz,List.mem_singleton.mp hv⟩
  · rw [take_snoc hz]
    simp [hb]
theorem RwsJ.no {ZS:List RV} {o i:Nat} {big nx:List (Addr×Obj)} {ys:List PySem.Value} {z:RV} (h:RwsJ ZS o big i ys nx) (hz:ZS[i]? = some z) (hb:bearsB (o:Int) z.v.g 4=true):RwsJ ZS o big (i+1) ys nx:=by
  obtain ⟨h1,h2,h3⟩:=h
  refine ⟨h1,h2, ?_⟩
  rw [take_snoc hz,h3]
  simp [hb]
theorem reads_rows {h:Heap}:∀ {ys:List PySem.Value},(∀ v∈ys,∃ (a:Addr) (x1 x2 x3 x4:Int) (q1 q2 q3 q4:Tok),v=.ref a∧h.IsTuple a #[.int x1 q1,.int x2 q2,.int x3 q3,.int x4 q4]) →
    ∃ ds as,ReadsAll h ys ds as∧PyData.canLayAll0 ds=true∧PyData.depthAll ds≤2∧(ds=[]↔ys=[])
  | [],_=>⟨[],[],.nil,by simp [PyData.canLayAll0],by simp [PyData.depthAll],by simp⟩
  | v::r,hv=>by
    obtain ⟨a,x1,x2,x3,x4,q1,q2,q3,q4,rfl,o,ho,hc,n,hd⟩:=hv v (.head _)
    obtain ⟨ds,as,R,h1,h2,_⟩:=reads_rows fun v hv'=>hv v (.tail _ hv')
    refine ⟨.tuple [.int x1,.int x2,.int x3,.int x4]::ds,_,.cons (.tuple ho hc hd (.cons (.int _ _) (.cons (.int _ _) (.cons (.int _ _) (.cons (.int _ _) .nil))))) R, ?_, ?_,by simp⟩
    · simp [PyData.canLayAll0,PyData.canLay0,h1]
    · simp only [PyData.depthAll,PyData.depth]
      omega
section
variable {M:Model} {prog:Program} {w:World} {A:Around} {E:Value→Shared→Prop} {s:Shared}
theorem eq_rows {a b:Addr} {ys:List PySem.Value} {bo:Bool} {Q:Value→Shared→Prop} (hl:s.heap.IsList a ys.toArray) (hr:∀ v∈ys,∃ (a:Addr) (x1 x2 x3 x4:Int) (q1 q2 q3 q4:Tok),v=.ref a∧s.heap.IsTuple a #[.int x1 q1,.int x2 q2,.int x3 q3,.int x4 q4]) (hl':s.heap.IsList b #[]) (hu:A.units+64<cLine) (hb:ys=[]↔bo=true)
    (h:Q (.bool bo) s):wpAny (model prog w) A (compareOp .Eq (.ref a) (.ref b)) Q E s:=by
  obtain ⟨ds,as,R,h1,h2,h3⟩:=reads_rows hr
  obtain ⟨o,ho,hc,n,hd⟩:=hl
  obtain ⟨o',ho',hc',n',hd'⟩:=hl'
  have hsh:SeqAt.shaped (.list ds)=true:=by
    unfold SeqAt.shaped
    rw [Bool.and_eq_true,decide_eq_true_iff]
    refine ⟨by simp [PyData.canLay0,h1], ?_⟩
    simp only [PyData.depth]
    omega
  refine eq_dataH (.list ho hc hd R) (.list ho' hc' hd' .nil) hsh (by decide) hu ?_
  have e:PyData.eqv (.list ds) (.list [])=bo:=by
    cases ds with
    | nil =>
      rw [hb.mp (h3.mp rfl)]
      simp [PyData.eqv,PyData.eqvAll]
    | cons d r =>
      cases bo with
      | true=>exact absurd (h3.mpr (hb.mpr rfl)) (by simp)
      | false=>simp [PyData.eqv,PyData.eqvAll]
  rw [e]
  exact h
end
section
variable {w:World} {p:Program} {loose:List Str} {mean:ExcName→Option Value} {mg mb:Str→Option Value} {dp un:Nat} {gd:Option (List Code)} {cn:Str} {cs:Scope} {a:Addr} {ccd:Value} {cl:List (Str×Addr)} {outer:List Env} {A₀:Around} {base h₀:Heap} {L:Addr} {m:Str→Option Value} {s:Shared} {Q E:Value→Shared→Prop}
theorem bears_b {r:Addr} {x1 x2 x3 x4:Int} {q1 q2 q3 q4 tf:Tok} {f:Int} {b:Bool} (B:Below A₀ base outer h₀) (F:Fr h₀ L s.heap m) (X:(hd.heap_39 w.params).In h₀) (N:News h₀ L s.heap [(r,rowT x1 x2 x3 x4 q1 q2 q3 q4)]) (T:Top p loose mean mg mb h₀) (hk:cs.kind=.function) (hd:dp+4<recursionLimit) (hu:un+200<cLine) (hf:0≤f) (hb:bearsB f (fv x1 x2 x3 x4) 4=b)
    (hret:∀ h' tk',Fr h₀ L h' m→KeepBut [] s.heap h'→Q (.bool b) {s with heap:=h',toks:=tk'}) :
    wpAny (model PySem.Challenge.rw_nu0167_01.row.prog w) (ktrTop dp un gd cn cs L a ccd cl outer) (call (.ref 426) [.int f tf,.ref r]) Q E s :=
  bears_k B F X N T hk hd hu hf fun h' tk' F' K'=>hb ▸ hret h' tk' F' K'
end
section
set_option maxHeartbeats 4000000
abbrev law_t6_S {w:World} {p:Program} {loose:List Str} {mean:ExcName→Option Value} {mg mb:Str→Option Value} {L fa:Addr} {cd:Value} {g:Heap} {m:Str→Option Value} {s:Shared} {Q:Flow→Shared→Prop} {E:Value→Shared→Prop} {lr lv:Addr} {oc op:Obj} {ZS:List RV} {c1 c2:Nat} {fo:Int} {tfo:Tok} {tl:List (Addr×Obj)} {pn cp:Addr} {sp ac kk:Int} {pt1 pt2 pt3:Tok} {pnn pc0:Nat} {cells:List PySem.Value} {ns:List Int}:Prop:=∀ (T:Top p loose mean mg mb g) (X:(Mine.hd.heap_39 w.params).In g) (B:Below callerA g [] g) (hE:PassesOwn (model PySem.Challenge.rw_nu0167_01.row.prog w) (lawA L fa cd) (lawEnv L fa cd) E) (hend:∀ h' tk',(∀ b o,g.get? b=some o→h'.get? b=some o)→Q (.ret (.bool true)) {s with heap:=h',toks:=tk'}) (Z:ZIn w ZS tl) (hoc:oc.data=.cell (some (.ref lr))) (hZ:ZS.length≤5) (hop:op.data=.cell (some (.ref pn))) (hi:IntsAre cells ns) (hl:cells.length≤63) (h1:0≤sp) (h1':sp≤9000) (h2:0≤ac) (h3:0≤kk) (h3':kk<1009) (np:NeAll pn ((L+1,op)::(cp,W.listOf cells.toArray pc0)::(L+1+1,oc)::(lr,W.listOf (zrefs ZS).toArray c1)::(lv,W.listOf (zvals ZS).toArray c2)::tl)) (F:Fr g L s.heap (oAt [(Str.ofString "values",some (.ref lv)),(Str.ofString "form",some (.int fo tfo))] m)) (N:News g L s.heap ((L+1,op)::(pn,W.listOf #[.ref cp,.int sp pt1,.int ac pt2,.int kk pt3] pnn)::(cp,W.listOf cells.toArray pc0)::(L+1+1,oc)::(lr,W.listOf (zrefs ZS).toArray c1)::(lv,W.listOf (zvals ZS).toArray c2)::tl)),
    wpG (model PySem.Challenge.rw_nu0167_01.row.prog w) (lawA L fa cd) (execs ((lawOf Mine.hd).body.drop 6) (lawEnv L fa cd)) Q E s
namespace law_t6_E
noncomputable section
def ep:=U fun w=>U fun p=>U fun loose=>U fun mean=>U fun mg=>U fun mb=>U fun L=>U fun fa=>U fun cd=>U fun g=>U fun m=>U fun s=>U fun Q=>U fun E=>U fun lr=>U fun lv=>U fun oc=>U fun op=>U fun ZS=>U fun c1=>U fun c2=>U fun fo=>U fun tfo=>U fun tl=>U fun pn=>U fun cp=>U fun sp=>U fun ac=>U fun kk=>U fun pt1=>U fun pt2=>U fun pt3=>U fun pnn=>U fun pc0=>U fun cells=>fun ns=>¬ @law_t6_S w p loose mean mg mb L fa cd g m s Q E lr lv oc op ZS c1 c2 fo tfo tl pn cp sp ac kk pt1 pt2 pt3 pnn pc0 cells ns
def ec:=pick ep (sW,df,[],df,df,df,0,0,df,{},df,{},df,df,0,0,df,df,[],0,0,0,0,[],0,0,0,0,0,0,0,0,0,0,[],[])
@[irreducible] def w:=ec.1
@[irreducible] def p:=ec.2.1
@[irreducible] def loose:=ec.2.2.1
@[irreducible] def mean:=ec.2.2.2.1
@[irreducible] def mg:=ec.2.2.2.2.1
@[irreducible] def mb:=ec.2.2.2.2.2.1
@[irreducible] def L:=ec.2.2.2.2.2.2.1
def ec1:=ec.2.2.2.2.2.2.2
@[irreducible] def fa:=ec1.1
@[irreducible] def cd:=ec1.2.1
@[irreducible] def g:=ec1.2.2.1
@[irreducible] def m:=ec1.2.2.2.1
@[irreducible] def s:=ec1.2.2.2.2.1
@[irreducible] def Q:=ec1.2.2.2.2.2.1
@[irreducible] def E:=ec1.2.2.2.2.2.2.1
def ec2:=ec1.2.2.2.2.2.2.2
@[irreducible] def lr:=ec2.1
@[irreducible] def lv:=ec2.2.1
@[irreducible] def oc:=ec2.2.2.1
@[irreducible] def op:=ec2.2.2.2.1
@[irreducible] def ZS:=ec2.2.2.2.2.1
@[irreducible] def c1:=ec2.2.2.2.2.2.1
@[irreducible] def c2:=ec2.2.2.2.2.2.2.1
def ec3:=ec2.2.2.2.2.2.2.2
@[irreducible] def fo:=ec3.1
@[irreducible] def tfo:=ec3.2.1
@[irreducible] def tl:=ec3.2.2.1
@[irreducible] def pn:=ec3.2.2.2.1
@[irreducible] def cp:=ec3.2.2.2.2.1
@[irreducible] def sp:=ec3.2.2.2.2.2.1
@[irreducible] def ac:=ec3.2.2.2.2.2.2.1
def ec4:=ec3.2.2.2.2.2.2.2
@[irreducible] def kk:=ec4.1
@[irreducible] def pt1:=ec4.2.1
@[irreducible] def pt2:=ec4.2.2.1
@[irreducible] def pt3:=ec4.2.2.2.1
@[irreducible] def pnn:=ec4.2.2.2.2.1
@[irreducible] def pc0:=ec4.2.2.2.2.2.1
@[irreducible] def cells:=ec4.2.2.2.2.2.2.1
@[irreducible] def ns:=ec4.2.2.2.2.2.2.2
theorem ek:@law_t6_S w p loose mean mg mb L fa cd g m s Q E lr lv oc op ZS c1 c2 fo tfo tl pn cp sp ac kk pt1 pt2 pt3 pnn pc0 cells ns:=by
  intro T X B hE hend Z hoc hZ hop hi hl h1 h1' h2 h3 h3' np F N
  dsimp only [lawA,lawEnv,lawOf,List.drop_succ_cons,List.drop_zero]
  rw [oAt_two] at F
  have hsz:(zrefs ZS).toArray.size≤sizeLine:=by
    rw [List.size_toArray]
    unfold zrefs
    rw [List.length_map]
    exact Nat.le_trans hZ (by decide)
  refine execsG_cons (wpG_of ?_)
  k_dflt (refine Assign_ListComp_C (J:=WJ (fmL 0 (ZS.map (·.v)))) (n:=16) (a:=0) (F₀:=by k_asm) (by rfl) (by with_unfolding_all rfl) (by with_unfolding_all rfl) (fun _=>rfl) (fun _=>rfl) (by rfl) (by decide) (by rfl) (by rfl) (by rfl) (fun _ _ h=>WJ.len h) WJ.zero ?_)
  (repeat' (first|(k_unfold;(try dsimp only))|(k_end;wrow_close)|((with_reducible show SrcC ..);(with_reducible (k_here;(rename News _ _ _ _=>nS);k_dflt (refine SrcC.mk (by rfl) (by k_asm) nS (by assumption) (by decide) (by rfl) (by decide) (fun g9=>held ?step9) (held ?fin9)))))|walk1|(dsimp only;(with_reducible show wpAny _ _ (call (Value.ref _) _) _ _ _))|(dsimp only;walk1)|(leave1;walk_say "STEP leave1";try dsimp only)|fail "no step"))
  case step9 =>
    unfold Hold
    intro i ys t I oI C oC c oo D h tk E' hi hJ hoo F N
    have hf9:(0:Int)≤0+(i:Int):=by omega
    (repeat' (first|(k_unfold;(try dsimp only))|(k_end;wrow_close)|((with_reducible show LCt.CompSrcT ..);(with_reducible (k_here;(rename News _ _ _ _=>nS);k_dflt (refine LCt.CompSrcT.ledger (by rfl) (by k_asm) nS (by k_mem) hsz ?_;intro g9);k_dflt (refine comp_indT (RwsJ ZS i _) ?fin8 ?step8 _ 0 [] _ (Nat.zero_add _) RwsJ.zero);(all_goals (refine held ?_)))))|((with_reducible show wpAny _ _ (eval (Expr.ListComp ..) _) _ _ _);(with_reducible (k_here;k_dflt (refine LCt.ListComp_T (F₀:=by k_asm) (by with_unfolding_all rfl) (by decide) (by rfl) (by decide) (by rfl) ?_))))|walk1|(dsimp only;(with_reducible show wpAny _ _ (call (Value.ref _) _) _ _ _))|(dsimp only;walk1)|(leave1;walk_say "STEP leave1";try dsimp only)|fail "no step"))
    case step8 =>
      unfold Hold
      intro j zs nx v I2 oI2 C2 oC2 D2 m2 h tk E2 hj hR hP hC hx F N off ne
      rw [List.getElem?_toArray] at hP
      obtain ⟨z,hz,hzm,rfl⟩:=zrefs_at hP
      have hnx:=hR.1
      subst hnx
      have hm9:=(Z z hzm).1
      cases hb9:bearsB (0+(i:Int)) z.v.g 4
      all_goals (repeat' (first|(k_unfold;(try dsimp only))|(k_end;wrow_close)|((with_reducible show wpAny _ _ (call (Value.ref _) _) _ _ _);with_reducible (k_here;(try dsimp only [List.nil_append,List.cons_append]);(with_reducible show wpAny _ _ (call (Value.ref 426) _) _ _ _);(rename News _ _ _ _=>lN);k_dflt (refine' bears_b (by k_asm) (by k_asm) (by k_asm) (by (intro p9 hp9;rw [List.mem_singleton.mp hp9];refine lN _ ?_;(repeat (first|exact hm9|refine List.Mem.tail _ ?_)))) (by k_asm) (by exact rfl) (by ktr_room) (by ktr_units) (by assumption) hb9 ?_);intro h9 tk9 F9 K9;(have N8:=keep0 lN F9 K9);clear K9;(try k_sweep);(try dsimp only)))|walk1|(dsimp only;(with_reducible show wpAny _ _ (call (Value.ref _) _) _ _ _))|(dsimp only;walk1)|(leave1;walk_say "STEP leave1";try dsimp only)|fail "no step"))
      all_goals rename News _ _ _ _=>nT
      · exact LCg.CompEnd.intro (by assumption) nT _ (fun _ h=>h) off (.inr ⟨_,by k_mem,rfl,_,rfl⟩) (hR.yes hz (by rw [← hb9,Int.zero_add]))
      · exact LCg.CompEnd.intro (by assumption) nT _ (fun _ h=>h) off (.inr ⟨_,by k_mem,rfl,_,rfl⟩) (hR.no hz (by rw [← hb9,Int.zero_add]))
    case fin8 =>
      unfold Hold
      intro zs nx hR
      obtain ⟨r1,r2,r3⟩:=hR
      subst r1
      unfold LCg.FinE
      intro D2 h tk F N o1
      (try dsimp only)
      have hq:zs=[]↔supB (fmL 0 (ZS.map (·.v))) i=true:=by
        rw [r3,← sup_all,List.all_map,List.take_of_length_le (by simp [zrefs])]
        rfl
      cases hs9:supB (fmL 0 (ZS.map (·.v))) i
      all_goals (have hq9:=hq;rw [hs9] at hq9;(repeat' (first|(k_unfold;(try dsimp only))|(k_end;wrow_close)|((with_reducible show wpAny _ _ (compareOp CmpOp.Eq (Value.ref _) (Value.ref _)) _ _ _);with_reducible ((k_here;(with_reducible show wpAny _ _ (compareOp CmpOp.Eq (Value.ref _) (Value.ref _)) _ _ _);(rename News _ _ _ _=>nE);k_dflt (refine eq_rows (News.isList nE (by k_mem)) ?hr9 (News.isList nE (by k_mem)) (by ktr_units) hq9 ?_;(case hr9=>(intro v hv;obtain ⟨z,hz,rfl⟩:=r2 v hv;exact ⟨_,_,_,_,_,_,_,_,_,rfl,News.tup nE (by (repeat (first|exact (Z z hz).1|refine List.Mem.tail _ ?_)))⟩))))))|walk1|(dsimp only;(with_reducible show wpAny _ _ (call (Value.ref _) _) _ _ _))|(dsimp only;walk1)|(leave1;walk_say "STEP leave1";try dsimp only)|fail "no step")))
      all_goals rename News _ _ _ _=>nT
      · exact TurnC.mk (by assumption) nT (by k_allIn) (hJ.no hs9)
      · exact TurnC.mk (by assumption) nT (by k_allIn) (hJ.yes hs9)
  case fin9 =>
    unfold Hold
    intro ys D h tk hJ F1 N1 o1
    dsimp only
    have F3:Fr g L _ (oAt [(Str.ofString "values",some (.ref lv)),(Str.ofString "form",some (.int fo tfo)),(Str.ofString "whole",some (.ref D))] _):=Fr.as F1 [Str.ofString "values",Str.ofString "form",Str.ofString "whole"]
    have key:=fun tk9=>law_t7 (s:={s with heap:=_,toks:=tk9}) T X B hE hend Z hoc hop hi hl h1 h1' h2 h3 h3' np (by rw [List.size_toArray];exact Nat.le_trans hJ.len (by decide)) hJ F3 N1
    dsimp only [lawA,lawEnv,lawOf,List.drop_succ_cons,List.drop_zero] at key
    exact key _
end
end law_t6_E
theorem law_t6 {w:World} {p:Program} {loose:List Str} {mean:ExcName→Option Value} {mg mb:Str→Option Value} {L fa:Addr} {cd:Value} {g:Heap} {m:Str→Option Value} {s:Shared} {Q:Flow→Shared→Prop} {E:Value→Shared→Prop} {lr lv:Addr} {oc op:Obj} {ZS:List RV} {c1 c2:Nat} {fo:Int} {tfo:Tok} {tl:List (Addr×Obj)} {pn cp:Addr} {sp ac kk:Int} {pt1 pt2 pt3:Tok} {pnn pc0:Nat} {cells:List PySem.Value} {ns:List Int}:@law_t6_S w p loose mean mg mb L fa cd g m s Q E lr lv oc op ZS c1 c2 fo tfo tl pn cp sp ac kk pt1 pt2 pt3 pnn pc0 cells ns:=@Classical.byContradiction _ fun h=>pick_all (P:=law_t6_E.ep) (by with_unfolding_all exact fun k=>k @law_t6_E.ek) (w,p,loose,mean,mg,mb,L,fa,cd,g,m,s,Q,E,lr,lv,oc,op,ZS,c1,c2,fo,tfo,tl,pn,cp,sp,ac,kk,pt1,pt2,pt3,pnn,pc0,cells,ns) h
end
end
section
set_option Elab.async false
set_option maxRecDepth 100000
set_option maxHeartbeats 4000000
set_option linter.unusedVariables false
set_option pp.deepTerms false
set_option pp.maxSteps 2000
theorem oAt_one (a:Str) (v0:Option PySem.Value) (m:Str→Option PySem.Value):oAt [(a,v0)] m=fun y=>if y=a then v0 else m y:=by
  funext y
  rw [oAt_cons,oAt_nil]
structure RR where
  r:Addr
  q1:Tok
  q2:Tok
  q3:Tok
  q4:Tok
  x1:Int
  x2:Int
  x3:Int
  x4:Int
abbrev RR.obj (z:RR):Obj:=rowT z.x1 z.x2 z.x3 z.x4 z.q1 z.q2 z.q3 z.q4
def rrefs (RS:List RR):List PySem.Value:=RS.map fun z=>.ref z.r
def RR.small (z:RR):Prop:=Small z.x1∧Small z.x2∧Small z.x3∧Small z.x4
def RIn (RS:List RR) (tl:List (Addr×Obj)):Prop:=∀ z∈RS,(z.r,z.obj)∈tl∧z.small
def RV.rr (z:RV):RR:=⟨z.r,z.q1,z.q2,z.q3,z.q4,z.v.x1,z.v.x2,z.v.x3,z.v.x4⟩
theorem rrefs_at {RS:List RR} {i:Nat} {v:PySem.Value} (h:(rrefs RS)[i]? = some v):∃ z,RS[i]? = some z∧z∈RS∧v=.ref z.r:=by
  unfold rrefs at h
  rw [List.getElem?_map] at h
  obtain ⟨z,hz,e⟩:=Option.map_eq_some_iff.mp h
  exact ⟨z,hz,List.mem_of_getElem? hz,e.symm⟩
def VlJ (w:World) (pn:Addr) (RS:List RR) (big:List (Addr×Obj)) (i:Nat) (ys:List PySem.Value) (nx:List (Addr×Obj)):Prop :=
  ∃ (ZS:List RV) (vl:List (Addr×Obj)),ys=zvals ZS∧ZS.map RV.rr=RS.take i∧nx=vl++big∧(∀ z∈ZS,(z.v.a,instObj 94 z.v.d)∈vl∧(z.v.d,z.v.o)∈vl∧ValIs w z.v.x1 z.v.x2 z.v.x3 z.v.x4 z.v.o∧@Ne Nat z.v.a z.v.d)∧NeAll pn vl
theorem VlJ.zero {w:World} {pn:Addr} {RS:List RR} {big:List (Addr×Obj)}:VlJ w pn RS big 0 [] big:=⟨[],[],rfl,by simp,rfl,(fun z hz=>nomatch hz),True.intro⟩
theorem VlJ.sub {w:World} {pn:Addr} {RS:List RR} {big nx:List (Addr×Obj)} {i:Nat} {ys:List PySem.Value} (h:VlJ w pn RS big i ys nx):∀ p∈big,p∈nx:=by
  obtain ⟨ZS,vl,_,_,rfl,_⟩:=h
  exact fun p hp=>List.mem_append_right _ hp
theorem VlJ.snoc {w:World} {pn v dv:Addr} {od:Obj} {RS:List RR} {big nx:List (Addr×Obj)} {i:Nat} {ys:List PySem.Value} {z:RR} (h:VlJ w pn RS big i ys nx) (hz:RS[i]? = some z) (V:ValIs w z.x1 z.x2 z.x3 z.x4 od) (n1:@Ne Nat v dv) (n2:@Ne Nat v pn) (n3:@Ne Nat dv pn) :
    VlJ w pn RS big (i+1) (ys++[.ref v]) ((v,instObj 94 dv)::(dv,od)::nx):=by
  obtain ⟨ZS,vl,rfl,h2,rfl,h4,h5⟩:=h
  refine ⟨ZS++[⟨z.r,z.q1,z.q2,z.q3,z.q4,⟨v,dv,od,z.x1,z.x2,z.x3,z.x4⟩⟩],(v,instObj 94 dv)::(dv,od)::vl,by simp [zvals], ?_,rfl, ?_,n2,n3,h5⟩
  · rw [List.map_append,h2,List.take_succ,hz]
    rfl
  · intro y hy
    rcases List.mem_append.mp hy with hy|hy
    · obtain ⟨a,b,c,d⟩:=h4 y hy
      exact ⟨.tail _ (.tail _ a),.tail _ (.tail _ b),c,d⟩
    · rw [List.mem_singleton.mp hy]
      exact ⟨.head _,.tail _ (.head _),V,n1⟩
theorem VlJ.done {w:World} {pn:Addr} {RS:List RR} {big nx:List (Addr×Obj)} {i:Nat} {ys:List PySem.Value} (h:VlJ w pn RS big i ys nx) (hi:RS.length≤i) {tl:List (Addr×Obj)} (R:RIn RS tl) :
    ∃ (ZS:List RV) (vl:List (Addr×Obj)),ys=zvals ZS∧rrefs RS=zrefs ZS∧ZS.length=RS.length∧nx=vl++big∧ZIn w ZS (vl++tl)∧NeAll pn vl:=by
  obtain ⟨ZS,vl,h1,h2,h3,h4,h5⟩:=h
  rw [List.take_of_length_le hi] at h2
  refine ⟨ZS,vl,h1, ?_, ?_,h3, ?_,h5⟩
  · rw [← h2];unfold rrefs zrefs;rw [List.map_map];rfl
  · rw [← h2,List.length_map]
  · intro z hz
    obtain ⟨a,b,c,d⟩:=h4 z hz
    obtain ⟨e,f1,f2,f3,f4⟩:=R z.rr (h2 ▸ List.mem_map_of_mem hz)
    exact ⟨List.mem_append_right _ e,List.mem_append_left _ a,List.mem_append_left _ b,c,d,f1,f2,f3,f4⟩
theorem neAll_append {a:Addr} (l r:List (Addr×Obj)) (h:NeAll a l) (h':NeAll a r):NeAll a (l++r):=by
  induction l with
  | nil=>exact h'
  | cons p q ih=>exact ⟨h.1,ih h.2⟩
theorem off1_ne {D:Addr} (l:List (Addr×Obj)) (h:LCg.Off1 D l):∀ p∈l,@Ne Nat p.1 D:=by
  induction l with
  | nil=>exact fun _ h=>nomatch h
  | cons p r ih =>
    intro q hq
    rcases List.mem_cons.mp hq with rfl|hq
    · exact h.1
    · exact ih h.2 q hq
section
set_option maxHeartbeats 4000000
abbrev law_t5_S {w:World} {p:Program} {loose:List Str} {mean:ExcName→Option Value} {mg mb:Str→Option Value} {L fa:Addr} {cd:Value} {g:Heap} {m:Str→Option Value} {s:Shared} {Q:Flow→Shared→Prop} {E:Value→Shared→Prop} {lr:Addr} {oc op:Obj} {RS:List RR} {c1:Nat} {fo:Int} {tfo:Tok} {tl:List (Addr×Obj)} {pn cp:Addr} {sp ac kk:Int} {pt1 pt2 pt3:Tok} {pnn pc0:Nat} {cells:List PySem.Value} {ns:List Int}:Prop:=∀ (T:Top p loose mean mg mb g) (X:(Mine.hd.heap_39 w.params).In g) (B:Below callerA g [] g) (hE:PassesOwn (model PySem.Challenge.rw_nu0167_01.row.prog w) (lawA L fa cd) (lawEnv L fa cd) E) (hend:∀ h' tk',(∀ b o,g.get? b=some o→h'.get? b=some o)→Q (.ret (.bool true)) {s with heap:=h',toks:=tk'}) (Z:RIn RS tl) (hoc:oc.data=.cell (some (.ref lr))) (hZ:RS.length≤5) (hop:op.data=.cell (some (.ref pn))) (hi:IntsAre cells ns) (hl:cells.length≤63) (h1:0≤sp) (h1':sp≤9000) (h2:0≤ac) (h3:0≤kk) (h3':kk<1009) (np:NeAll pn ((L+1,op)::(cp,W.listOf cells.toArray pc0)::(L+1+1,oc)::(lr,W.listOf (rrefs RS).toArray c1)::tl)) (F:Fr g L s.heap (oAt [(Str.ofString "form",some (.int fo tfo))] m)) (N:News g L s.heap ((L+1,op)::(pn,W.listOf #[.ref cp,.int sp pt1,.int ac pt2,.int kk pt3] pnn)::(cp,W.listOf cells.toArray pc0)::(L+1+1,oc)::(lr,W.listOf (rrefs RS).toArray c1)::tl)),
    wpG (model PySem.Challenge.rw_nu0167_01.row.prog w) (lawA L fa cd) (execs ((lawOf Mine.hd).body.drop 5) (lawEnv L fa cd)) Q E s
namespace law_t5_E
noncomputable section
def ep:=U fun w=>U fun p=>U fun loose=>U fun mean=>U fun mg=>U fun mb=>U fun L=>U fun fa=>U fun cd=>U fun g=>U fun m=>U fun s=>U fun Q=>U fun E=>U fun lr=>U fun oc=>U fun op=>U fun RS=>U fun c1=>U fun fo=>U fun tfo=>U fun tl=>U fun pn=>U fun cp=>U fun sp=>U fun ac=>U fun kk=>U fun pt1=>U fun pt2=>U fun pt3=>U fun pnn=>U fun pc0=>U fun cells=>fun ns=>¬ @law_t5_S w p loose mean mg mb L fa cd g m s Q E lr oc op RS c1 fo tfo tl pn cp sp ac kk pt1 pt2 pt3 pnn pc0 cells ns
def ec:=pick ep (sW,df,[],df,df,df,0,0,df,{},df,{},df,df,0,df,df,[],0,0,0,[],0,0,0,0,0,0,0,0,0,0,[],[])
@[irreducible] def w:=ec.1
@[irreducible] def p:=ec.2.1
@[irreducible] def loose:=ec.2.2.1
@[irreducible] def mean:=ec.2.2.2.1
@[irreducible] def mg:=ec.2.2.2.2.1
@[irreducible] def mb:=ec.2.2.2.2.2.1
@[irreducible] def L:=ec.2.2.2.2.2.2.1
def ec1:=ec.2.2.2.2.2.2.2
@[irreducible] def fa:=ec1.1
@[irreducible] def cd:=ec1.2.1
@[irreducible] def g:=ec1.2.2.1
@[irreducible] def m:=ec1.2.2.2.1
@[irreducible] def s:=ec1.2.2.2.2.1
@[irreducible] def Q:=ec1.2.2.2.2.2.1
@[irreducible] def E:=ec1.2.2.2.2.2.2.1
def ec2:=ec1.2.2.2.2.2.2.2
@[irreducible] def lr:=ec2.1
@[irreducible] def oc:=ec2.2.1
@[irreducible] def op:=ec2.2.2.1
@[irreducible] def RS:=ec2.2.2.2.1
@[irreducible] def c1:=ec2.2.2.2.2.1
@[irreducible] def fo:=ec2.2.2.2.2.2.1
@[irreducible] def tfo:=ec2.2.2.2.2.2.2.1
def ec3:=ec2.2.2.2.2.2.2.2
@[irreducible] def tl:=ec3.1
@[irreducible] def pn:=ec3.2.1
@[irreducible] def cp:=ec3.2.2.1
@[irreducible] def sp:=ec3.2.2.2.1
@[irreducible] def ac:=ec3.2.2.2.2.1
@[irreducible] def kk:=ec3.2.2.2.2.2.1
@[irreducible] def pt1:=ec3.2.2.2.2.2.2.1
def ec4:=ec3.2.2.2.2.2.2.2
@[irreducible] def pt2:=ec4.1
@[irreducible] def pt3:=ec4.2.1
@[irreducible] def pnn:=ec4.2.2.1
@[irreducible] def pc0:=ec4.2.2.2.1
@[irreducible] def cells:=ec4.2.2.2.2.1
@[irreducible] def ns:=ec4.2.2.2.2.2
theorem ek:@law_t5_S w p loose mean mg mb L fa cd g m s Q E lr oc op RS c1 fo tfo tl pn cp sp ac kk pt1 pt2 pt3 pnn pc0 cells ns:=by
  intro T X B hE hend Z hoc hZ hop hi hl h1 h1' h2 h3 h3' np F N
  dsimp only [lawA,lawEnv,lawOf,List.drop_succ_cons,List.drop_zero]
  rw [oAt_one] at F
  have hsz:(rrefs RS).toArray.size≤sizeLine:=by
    rw [List.size_toArray]
    unfold rrefs
    rw [List.length_map]
    exact Nat.le_trans hZ (by decide)
  refine execsG_cons (wpG_of ?_)
  (repeat' (first|(k_unfold;(try dsimp only))|(k_end;wrow_close)|((with_reducible show LCg.CompSrc ..);(with_reducible ((rename News _ _ _ _=>nS);k_dflt (refine LCg.CompSrc.ledger (by rfl) (by k_asm) nS (by k_mem) hsz ?_;intro g9);k_dflt (refine comp_ind (VlJ w pn RS _) ?fin9 ?step9 _ 0 [] _ (Nat.zero_add _) VlJ.zero);(all_goals (refine held ?_)))))|((with_reducible show wpAny _ _ (exec (Stmt.Assign ..) _) _ _ _);(with_reducible (k_here;k_dflt (refine LCg.Assign_ListComp_U (F₀:=by k_asm) (by rfl) (by with_unfolding_all rfl) (by with_unfolding_all rfl) (by decide) (by rfl) (by decide) (by rfl) (by rfl) (by rfl) ?_))))|walk1|(dsimp only;(with_reducible show wpAny _ _ (call (Value.ref _) _) _ _ _))|(dsimp only;walk1)|(leave1;walk_say "STEP leave1";try dsimp only)|fail "no step"))
  case step9 =>
    unfold Hold
    intro i ys nx v I oI C oC D m2 h tk E' hi hJ hP hC hx F N off ne
    rw [List.getElem?_toArray] at hP
    obtain ⟨z,hz,hzm,rfl⟩:=rrefs_at hP
    have hs:=hJ.sub
    have N2:News g L h ((z.r,rowT z.x1 z.x2 z.x3 z.x4 z.q1 z.q2 z.q3 z.q4)::(I,oI)::(C,oC)::(D,LCg.lst ys)::nx):=fun p hp=>by
      rcases List.mem_cons.mp hp with rfl|hp
      · exact N (z.r,rowT z.x1 z.x2 z.x3 z.x4 z.q1 z.q2 z.q3 z.q4) (.tail _ (.tail _ (.tail _ (hs _ (.tail _ (.tail _ (.tail _ (.tail _ (.tail _ (Z z hzm).1)))))))))
      · exact N _ hp
    clear N
    (repeat' (first|(k_unfold;(try dsimp only))|(k_end;wrow_close)|((with_reducible show wpAny _ _ (call (Value.ref _) _) _ _ _);with_reducible (k_here;(try dsimp only [List.nil_append,List.cons_append]);(with_reducible show wpAny _ _ (call (Value.ref 94) _) _ _ _);(rename News _ _ _ _=>lN);k_dflt (refine' value_c (by k_asm) (by k_asm) (by k_asm) (by exact News.nil) (by k_asm) (by exact rfl) (by ktr_room) (by ktr_units) ?_);intro v9 dv9 od9 h9 tk9 V9 F9 N9 K9 W91 W92 n19;(have E91:=neFresh lN W91);(have E92:=neFresh lN W92);(k_dflt (have N8:=rejoin lN K9 N9 (.all fun _ _ h=>nomatch h)));clear K9 N9;(simp only [List.cons_append,List.nil_append] at N8);(try k_sweep);(try dsimp only)))|walk1|(dsimp only;(with_reducible show wpAny _ _ (call (Value.ref _) _) _ _ _))|(dsimp only;walk1)|(leave1;walk_say "STEP leave1";try dsimp only)|fail "no step"))
    (try dsimp only [qk])
    rename News _ _ _ _=>nT
    obtain ⟨_,e1,e2,e3,e4⟩:=E91
    obtain ⟨_,d1,d2,d3,d4⟩:=E92
    refine LCg.CompEnd.intro (by assumption) nT ((v9,instObj 94 dv9)::(dv9,od9)::nx) (by k_allIn) ?off9 ?src9 ?rest9
    case off9=>exact ⟨⟨Ne.symm e1,Ne.symm e2,Ne.symm e3⟩,⟨Ne.symm d1,Ne.symm d2,Ne.symm d3⟩,off⟩
    case src9=>exact .inr ⟨_,.tail _ (.tail _ (hs _ (by k_mem))),rfl,_,rfl⟩
    case rest9=>exact hJ.snoc hz V9 n19 (neAll_mem e4 (hs (pn,W.listOf #[.ref cp,.int sp pt1,.int ac pt2,.int kk pt3] pnn) (by k_mem))) (neAll_mem d4 (hs (pn,W.listOf #[.ref cp,.int sp pt1,.int ac pt2,.int kk pt3] pnn) (by k_mem)))
  case fin9 =>
    unfold Hold
    intro ys nx hJ D h tk F1 N1 o1
    dsimp only
    obtain ⟨ZS,vl,rfl,e2,e3,rfl,Z2,nv⟩:=hJ.done (by simp [rrefs]) Z
    have F3:Fr g L _ (oAt [(Str.ofString "values",some (.ref D)),(Str.ofString "form",some (.int fo tfo))] _):=Fr.as F1 [Str.ofString "values",Str.ofString "form"]
    rw [e2] at N1 np o1
    have N3:News g L h (((L+1,op)::(pn,W.listOf #[.ref cp,.int sp pt1,.int ac pt2,.int kk pt3] pnn)::(cp,W.listOf cells.toArray pc0)::(L+1+1,oc)::(lr,W.listOf (zrefs ZS).toArray c1)::(D,W.listOf (zvals ZS).toArray (zvals ZS).length)::(vl++tl))):=fun p hp=>N1 p (by
      rcases List.mem_cons.mp hp with rfl|hp
      · exact .tail _ (List.mem_append_right _ (.head _))
      rcases List.mem_cons.mp hp with rfl|hp
      · exact .tail _ (List.mem_append_right _ (.tail _ (.head _)))
      rcases List.mem_cons.mp hp with rfl|hp
      · exact .tail _ (List.mem_append_right _ (.tail _ (.tail _ (.head _))))
      rcases List.mem_cons.mp hp with rfl|hp
      · exact .tail _ (List.mem_append_right _ (.tail _ (.tail _ (.tail _ (.head _)))))
      rcases List.mem_cons.mp hp with rfl|hp
      · exact .tail _ (List.mem_append_right _ (.tail _ (.tail _ (.tail _ (.tail _ (.head _))))))
      rcases List.mem_cons.mp hp with rfl|hp
      · exact .head _
      rcases List.mem_append.mp hp with hp|hp
      · exact .tail _ (List.mem_append_left _ hp)
      · exact .tail _ (List.mem_append_right _ (.tail _ (.tail _ (.tail _ (.tail _ (.tail _ hp)))))))
    have hDp:@Ne Nat D pn:=fun e=>off1_ne _ o1 (pn,W.listOf #[.ref cp,.int sp pt1,.int ac pt2,.int kk pt3] pnn) (List.mem_append_right _ (.tail _ (.head _))) e.symm
    have np3:NeAll pn ((L+1,op)::(cp,W.listOf cells.toArray pc0)::(L+1+1,oc)::(lr,W.listOf (zrefs ZS).toArray c1)::(D,W.listOf (zvals ZS).toArray (zvals ZS).length)::(vl++tl)):=⟨np.1,np.2.1,np.2.2.1,np.2.2.2.1,hDp,neAll_append vl tl nv np.2.2.2.2⟩
    have key:=fun tk9=>law_t6 (s:={s with heap:=_,toks:=tk9}) T X B hE hend Z2 hoc (by rw [e3];exact hZ) hop hi hl h1 h1' h2 h3 h3' np3 F3 N3
    dsimp only [lawA,lawEnv,lawOf,List.drop_succ_cons,List.drop_zero] at key
    exact key _
end
end law_t5_E
theorem law_t5 {w:World} {p:Program} {loose:List Str} {mean:ExcName→Option Value} {mg mb:Str→Option Value} {L fa:Addr} {cd:Value} {g:Heap} {m:Str→Option Value} {s:Shared} {Q:Flow→Shared→Prop} {E:Value→Shared→Prop} {lr:Addr} {oc op:Obj} {RS:List RR} {c1:Nat} {fo:Int} {tfo:Tok} {tl:List (Addr×Obj)} {pn cp:Addr} {sp ac kk:Int} {pt1 pt2 pt3:Tok} {pnn pc0:Nat} {cells:List PySem.Value} {ns:List Int}:@law_t5_S w p loose mean mg mb L fa cd g m s Q E lr oc op RS c1 fo tfo tl pn cp sp ac kk pt1 pt2 pt3 pnn pc0 cells ns:=@Classical.byContradiction _ fun h=>pick_all (P:=law_t5_E.ep) (by with_unfolding_all exact fun k=>k @law_t5_E.ek) (w,p,loose,mean,mg,mb,L,fa,cd,g,m,s,Q,E,lr,oc,op,RS,c1,fo,tfo,tl,pn,cp,sp,ac,kk,pt1,pt2,pt3,pnn,pc0,cells,ns) h
end
end
section
set_option Elab.async false
set_option maxRecDepth 100000
set_option maxHeartbeats 4000000
set_option linter.unusedVariables false
set_option pp.deepTerms false
set_option pp.maxSteps 2000
theorem idx5 {d:Int} {i:Nat} (h0:0≤d) (h:d<6) (hi:i<d.toNat):(i:Int)≤5:=by omega
theorem len5 {n:Nat} {d:Int} (h:n=d.toNat) (h0:0≤d) (h1:d<6):n≤5:=by omega
theorem far9 {sp sp0 sp9 d:Int} (h1:sp≤sp9+4*(d.toNat:Int)) (h2:sp9≤sp0+1) (h3:sp0≤5000) (h4:0≤d) (h5:d<6):sp≤9000:=by omega
theorem far10 {sp sp7 sp9 sp0:Int} {i j:Nat} (h1:sp≤sp7+j) (h2:sp7≤sp9+4*(i:Int)) (h3:sp9≤sp0+1) (h4:sp0≤5000) (h5:(i:Int)≤5) (h6:j<4):sp≤10000:=by omega
theorem range_sz {d:Int} (h0:0≤d):Builtin.Range.rangeSize 0 d 1=((d.toNat:Nat):Int):=by
  unfold Builtin.Range.rangeSize
  by_cases h:0<d
  · simp [h];omega
  · rw [if_pos (by decide),if_neg h];omega
theorem menu_small (n:Nat):Small (([0,0,1,-1,700,32767,-32768,5]:List Int).getD n 0):=by
  unfold Small
  match n with
  | 0|1|2|3|4|5|6|7=>decide
  | n+8=>exact ⟨by show -32768≤(0:Int);decide,by show (0:Int)≤32767;decide⟩
theorem list_inv {α:Type} {l:List α} {n:Nat} (h:l.length=n+1):∃ a r,l=a::r∧r.length=n:=by
  cases l with
  | nil=>cases h
  | cons a r=>exact ⟨a,r,rfl,Nat.succ.inj h⟩
theorem four_ints {ys:List PySem.Value} {xs:List Int} (h:IntsAre ys xs) (hl:xs.length=4):∃ x1 x2 x3 x4 r1 r2 r3 r4,xs=[x1,x2,x3,x4]∧ys=[.int x1 r1,.int x2 r2,.int x3 r3,.int x4 r4]:=by
  obtain ⟨x1,r1,rfl,l1⟩:=list_inv hl
  obtain ⟨x2,r2,rfl,l2⟩:=list_inv l1
  obtain ⟨x3,r3,rfl,l3⟩:=list_inv l2
  obtain ⟨x4,r4,rfl,l4⟩:=list_inv l3
  obtain rfl:=List.length_eq_zero_iff.mp l4
  obtain ⟨q1,q2,q3,q4,rfl⟩:=ints_four h
  exact ⟨x1,x2,x3,x4,q1,q2,q3,q4,rfl,rfl⟩
theorem rrefs_snoc (RS:List RR) (z:RR):rrefs (RS++[z])=rrefs RS++[.ref z.r]:=by simp [rrefs]
def RowJ (pn cp:Addr) (kk:Int) (pt3:Tok) (sp0:Int) (rest:List (Addr×Obj)) (i:Nat) (ys:List PySem.Value) (nx:List (Addr×Obj)):Prop :=
  ∃ (xs:List Int) (sp ac:Int) (pt1 pt2:Tok) (pnn:Nat),IntsAre ys xs∧xs.length=i∧(∀ x∈xs,Small x)∧0≤sp∧sp≤sp0+(i:Int)∧0≤ac∧nx=(pn,W.listOf #[.ref cp,.int sp pt1,.int ac pt2,.int kk pt3] pnn)::rest
theorem RowJ.zero {pn cp:Addr} {sp ac kk:Int} {pt1 pt2 pt3:Tok} {pnn:Nat} {rest:List (Addr×Obj)} (h1:0≤sp) (h2:0≤ac):RowJ pn cp kk pt3 sp rest 0 [] ((pn,W.listOf #[.ref cp,.int sp pt1,.int ac pt2,.int kk pt3] pnn)::rest) :=
  ⟨[],sp,ac,pt1,pt2,pnn,.nil,rfl,(fun x hx=>nomatch hx),h1,by omega,h2,rfl⟩
def RowsJ (c2 pn cp:Addr) (kk:Int) (pt3:Tok) (sp0:Int) (rest:List (Addr×Obj)) (i:Nat) (ys:List PySem.Value) (nx:List (Addr×Obj)):Prop :=
  ∃ (RS:List RR) (vl:List (Addr×Obj)) (sp ac:Int) (pt1 pt2:Tok) (pnn:Nat),ys=rrefs RS∧RS.length=i∧RIn RS vl∧NeAll pn vl∧NeAll c2 vl∧0≤sp∧sp≤sp0+4*(i:Int)∧0≤ac∧nx=(pn,W.listOf #[.ref cp,.int sp pt1,.int ac pt2,.int kk pt3] pnn)::(rest++vl)
theorem RowsJ.zero {c2 pn cp:Addr} {sp ac kk:Int} {pt1 pt2 pt3:Tok} {pnn:Nat} {rest:List (Addr×Obj)} (h1:0≤sp) (h2:0≤ac):RowsJ c2 pn cp kk pt3 sp rest 0 [] ((pn,W.listOf #[.ref cp,.int sp pt1,.int ac pt2,.int kk pt3] pnn)::rest) :=
  ⟨[],[],sp,ac,pt1,pt2,pnn,rfl,rfl,(fun x hx=>nomatch hx),True.intro,True.intro,h1,by omega,h2,by rw [List.append_nil]⟩
section
set_option maxHeartbeats 4000000
abbrev law_t4_S {w:World} {p:Program} {loose:List Str} {mean:ExcName→Option Value} {mg mb:Str→Option Value} {L fa:Addr} {cd:Value} {g:Heap} {m:Str→Option Value} {s:Shared} {Q:Flow→Shared→Prop} {E:Value→Shared→Prop} {oc op:Obj} {fo:Int} {tfo:Tok} {pn cp:Addr} {sp ac kk:Int} {pt1 pt2 pt3:Tok} {pnn pc0:Nat} {cells:List PySem.Value} {ns:List Int}:Prop:=∀ (T:Top p loose mean mg mb g) (X:(Mine.hd.heap_39 w.params).In g) (B:Below callerA g [] g) (hE:PassesOwn (model PySem.Challenge.rw_nu0167_01.row.prog w) (lawA L fa cd) (lawEnv L fa cd) E) (hend:∀ h' tk',(∀ b o,g.get? b=some o→h'.get? b=some o)→Q (.ret (.bool true)) {s with heap:=h',toks:=tk'}) (hoc:oc.data=.cell none) (hop:op.data=.cell (some (.ref pn))) (hi:IntsAre cells ns) (hl:cells.length≤63) (h1:0≤sp) (h1':sp≤5000) (h2:0≤ac) (h3:0≤kk) (h3':kk<1009) (nc:@Ne Nat cp (L+1+1)) (np:NeAll pn [(L+1,op),(cp,W.listOf cells.toArray pc0),(L+1+1,oc)]) (F:Fr g L s.heap (oAt [(Str.ofString "form",some (.int fo tfo))] m)) (N:News g L s.heap [(L+1,op),(pn,W.listOf #[.ref cp,.int sp pt1,.int ac pt2,.int kk pt3] pnn),(cp,W.listOf cells.toArray pc0),(L+1+1,oc)]),
    wpG (model PySem.Challenge.rw_nu0167_01.row.prog w) (lawA L fa cd) (execs ((lawOf Mine.hd).body.drop 4) (lawEnv L fa cd)) Q E s
namespace law_t4_E
noncomputable section
def ep:=U fun w=>U fun p=>U fun loose=>U fun mean=>U fun mg=>U fun mb=>U fun L=>U fun fa=>U fun cd=>U fun g=>U fun m=>U fun s=>U fun Q=>U fun E=>U fun oc=>U fun op=>U fun fo=>U fun tfo=>U fun pn=>U fun cp=>U fun sp=>U fun ac=>U fun kk=>U fun pt1=>U fun pt2=>U fun pt3=>U fun pnn=>U fun pc0=>U fun cells=>fun ns=>¬ @law_t4_S w p loose mean mg mb L fa cd g m s Q E oc op fo tfo pn cp sp ac kk pt1 pt2 pt3 pnn pc0 cells ns
def ec:=pick ep (sW,df,[],df,df,df,0,0,df,{},df,{},df,df,df,df,0,0,0,0,0,0,0,0,0,0,0,0,[],[])
@[irreducible] def w:=ec.1
@[irreducible] def p:=ec.2.1
@[irreducible] def loose:=ec.2.2.1
@[irreducible] def mean:=ec.2.2.2.1
@[irreducible] def mg:=ec.2.2.2.2.1
@[irreducible] def mb:=ec.2.2.2.2.2.1
@[irreducible] def L:=ec.2.2.2.2.2.2.1
def ec1:=ec.2.2.2.2.2.2.2
@[irreducible] def fa:=ec1.1
@[irreducible] def cd:=ec1.2.1
@[irreducible] def g:=ec1.2.2.1
@[irreducible] def m:=ec1.2.2.2.1
@[irreducible] def s:=ec1.2.2.2.2.1
@[irreducible] def Q:=ec1.2.2.2.2.2.1
@[irreducible] def E:=ec1.2.2.2.2.2.2.1
def ec2:=ec1.2.2.2.2.2.2.2
@[irreducible] def oc:=ec2.1
@[irreducible] def op:=ec2.2.1
@[irreducible] def fo:=ec2.2.2.1
@[irreducible] def tfo:=ec2.2.2.2.1
@[irreducible] def pn:=ec2.2.2.2.2.1
@[irreducible] def cp:=ec2.2.2.2.2.2.1
@[irreducible] def sp:=ec2.2.2.2.2.2.2.1
def ec3:=ec2.2.2.2.2.2.2.2
@[irreducible] def ac:=ec3.1
@[irreducible] def kk:=ec3.2.1
@[irreducible] def pt1:=ec3.2.2.1
@[irreducible] def pt2:=ec3.2.2.2.1
@[irreducible] def pt3:=ec3.2.2.2.2.1
@[irreducible] def pnn:=ec3.2.2.2.2.2.1
@[irreducible] def pc0:=ec3.2.2.2.2.2.2.1
def ec4:=ec3.2.2.2.2.2.2.2
@[irreducible] def cells:=ec4.1
@[irreducible] def ns:=ec4.2
theorem ek:@law_t4_S w p loose mean mg mb L fa cd g m s Q E oc op fo tfo pn cp sp ac kk pt1 pt2 pt3 pnn pc0 cells ns:=by
  intro T X B hE hend hoc hop hi hl h1 h1' h2 h3 h3' nc np F N
  dsimp only [lawA,lawEnv,lawOf,List.drop_succ_cons,List.drop_zero]
  rw [oAt_one] at F
  obtain ⟨p1,p2,p3,_⟩:=np
  refine execsG_cons (wpG_of ?_)
  (repeat' (first|(k_unfold;(try dsimp only))|(k_end;wrow_close)|((with_reducible show LCg.CompSrc ..);(with_reducible ((rename News _ _ _ _=>nS);(rename IsRange _ _ _ _ _ _ _ _=>rg);first   | (k_dflt (refine LCg.CompSrc.range (n:=4) (by rfl) (by k_asm) nS rg (by decide) (by rfl) (by decide) ?_;intro g9);k_dflt (refine comp_ind (RowJ pn cp kk pt3 sp7 _) ?fin8 ?step8 _ 0 [] _ (Nat.zero_add _) (RowJ.zero hsp7 hac7));(all_goals (refine held ?_)))   | (k_dflt (refine LCg.CompSrc.range (n:=d9.toNat) (by rfl) (by k_asm) nS rg (small_one (by omega) (by omega) (by omega) (by omega)) (range_sz D91) (Nat.le_trans (by omega:d9.toNat≤10) (by decide)) ?_;intro g9);k_dflt (refine comp_ind (RowsJ (L+1+1) pn cp kk pt3 sp9 _) ?fin9 ?step9 _ 0 [] _ (Nat.zero_add _) (RowsJ.zero D93 D95));(all_goals (refine held ?_))))))|((with_reducible show wpAny _ _ (eval (Expr.ListComp ..) _) _ _ _);(with_reducible (k_here;k_dflt (refine LCg.ListComp_U (F₀:=by k_asm) (by with_unfolding_all rfl) (by decide) (by rfl) (by decide) (by rfl) ?_))))|((with_reducible show wpAny _ _ (call (Value.ref _) _) _ _ _);with_reducible (k_here;(try dsimp only [List.nil_append,List.cons_append]);(with_reducible show wpAny _ _ (call (Value.ref 388) _) _ _ _);(rename News _ _ _ _=>lN);k_dflt (refine' draw_k (by k_asm) (by k_asm) (by k_asm) (by ((refine news_sub lN ?_);k_allIn)) (by k_asm) (by exact rfl) (by ktr_room) (by ktr_units) (by k_ne) hi hl (by first|exact far10 (by with_reducible assumption) (by with_reducible assumption) (by with_reducible assumption) (by with_reducible assumption) (by with_reducible assumption) (by with_reducible assumption)|omega) (by first|exact far10 (by with_reducible assumption) (by with_reducible assumption) (by with_reducible assumption) (by with_reducible assumption) (by with_reducible assumption) (by with_reducible assumption)|omega) (by first|exact far10 (by with_reducible assumption) (by with_reducible assumption) (by with_reducible assumption) (by with_reducible assumption) (by with_reducible assumption) (by with_reducible assumption)|omega) h3 h3' (by first|exact far10 (by with_reducible assumption) (by with_reducible assumption) (by with_reducible assumption) (by with_reducible assumption) (by with_reducible assumption) (by with_reducible assumption)|omega) (by first|exact far10 (by with_reducible assumption) (by with_reducible assumption) (by with_reducible assumption) (by with_reducible assumption) (by with_reducible assumption) (by with_reducible assumption)|omega) ?_);intro d9 t9 sp9 ac9 pt91 pt92 pnn9 h9 tk9 D91 D92 D93 D94 D95 F9 N9 K9;(have N8:=rejoin lN K9 N9 (by k_dflt k_all));clear K9 N9;(simp only [List.cons_append,List.nil_append] at N8);(try k_sweep);(try dsimp only)))|walk1|(dsimp only;(with_reducible show wpAny _ _ (call (Value.ref _) _) _ _ _))|(dsimp only;walk1)|(leave1;walk_say "STEP leave1";try dsimp only)|fail "no step"))
  case step9 =>
    unfold Hold
    intro i ys nx v I oI C oC D m2 h tk E' hin hJ hP hC hx F N off ne
    obtain ⟨RS,vl,sp7,ac7,pt1,pt2,pnn,rfl,hlen,hRS,nvl,ncl,hsp7,hsp7',hac7,rfl⟩:=hJ
    obtain ⟨tv,rfl⟩:=hP
    have hi5:(i:Int)≤5:=by first|exact idx5 (by with_reducible assumption) (by with_reducible assumption) (by with_reducible assumption)|omega
    obtain ⟨⟨u1,u2,u3⟩,off2⟩:=off
    have N2:News g L h ((pn,W.listOf #[.ref cp,.int sp7 pt1,.int ac7 pt2,.int kk pt3] pnn)::(I,oI)::(C,oC)::(D,LCg.lst (rrefs RS))::(L+1,op)::(cp,W.listOf cells.toArray pc0)::(L+1+1,oc)::vl):=news_sub N (by
      refine List.forall_mem_cons.mpr ⟨.tail _ (.tail _ (.tail _ (.head _))), ?_⟩
      refine List.forall_mem_cons.mpr ⟨.head _, ?_⟩
      refine List.forall_mem_cons.mpr ⟨.tail _ (.head _), ?_⟩
      refine List.forall_mem_cons.mpr ⟨.tail _ (.tail _ (.head _)), ?_⟩
      exact fun p hp=>.tail _ (.tail _ (.tail _ (.tail _ hp))))
    clear N
    (repeat' (first|(k_unfold;(try dsimp only))|(k_end;wrow_close)|((with_reducible show LCg.CompSrc ..);(with_reducible ((rename News _ _ _ _=>nS);(rename IsRange _ _ _ _ _ _ _ _=>rg);first   | (k_dflt (refine LCg.CompSrc.range (n:=4) (by rfl) (by k_asm) nS rg (by decide) (by rfl) (by decide) ?_;intro g9);k_dflt (refine comp_ind (RowJ pn cp kk pt3 sp7 _) ?fin8 ?step8 _ 0 [] _ (Nat.zero_add _) (RowJ.zero hsp7 hac7));(all_goals (refine held ?_)))   | (k_dflt (refine LCg.CompSrc.range (n:=d9.toNat) (by rfl) (by k_asm) nS rg (small_one (by omega) (by omega) (by omega) (by omega)) (range_sz D91) (Nat.le_trans (by omega:d9.toNat≤10) (by decide)) ?_;intro g9);k_dflt (refine comp_ind (RowsJ (L+1+1) pn cp kk pt3 sp9 _) ?fin9 ?step9 _ 0 [] _ (Nat.zero_add _) (RowsJ.zero D93 D95));(all_goals (refine held ?_))))))|((with_reducible show wpAny _ _ (eval (Expr.ListComp ..) _) _ _ _);(with_reducible (k_here;k_dflt (refine LCg.ListComp_U (F₀:=by k_asm) (by with_unfolding_all rfl) (by decide) (by rfl) (by decide) (by rfl) ?_))))|walk1|(dsimp only;(with_reducible show wpAny _ _ (call (Value.ref _) _) _ _ _))|(dsimp only;walk1)|(leave1;walk_say "STEP leave1";try dsimp only)|fail "no step"))
    case step8 =>
      unfold Hold
      intro j zs nx v I2 oI2 C2 oC2 D2 m3 h tk E2 hj hR hP hC2 hx2 F N off3 ne2
      obtain ⟨xs,sp,ac,pt1,pt2,pnn,hxs,hxl,hsm,hsp,hsp',hac,rfl⟩:=hR
      obtain ⟨tv2,rfl⟩:=hP
      obtain ⟨⟨w1,w2,w3⟩,off4⟩:=off3
      have hj4:(j:Int)<4:=by omega
      (repeat' (first|(k_unfold;(try dsimp only))|(k_end;wrow_close)|((with_reducible show wpAny _ _ (call (Value.ref _) _) _ _ _);with_reducible (k_here;(try dsimp only [List.nil_append,List.cons_append]);(with_reducible show wpAny _ _ (call (Value.ref 388) _) _ _ _);(rename News _ _ _ _=>lN);k_dflt (refine' draw_k (by k_asm) (by k_asm) (by k_asm) (by ((refine news_sub lN ?_);k_allIn)) (by k_asm) (by exact rfl) (by ktr_room) (by ktr_units) (by k_ne) hi hl (by first|exact far10 (by with_reducible assumption) (by with_reducible assumption) (by with_reducible assumption) (by with_reducible assumption) (by with_reducible assumption) (by with_reducible assumption)|omega) (by first|exact far10 (by with_reducible assumption) (by with_reducible assumption) (by with_reducible assumption) (by with_reducible assumption) (by with_reducible assumption) (by with_reducible assumption)|omega) (by first|exact far10 (by with_reducible assumption) (by with_reducible assumption) (by with_reducible assumption) (by with_reducible assumption) (by with_reducible assumption) (by with_reducible assumption)|omega) h3 h3' (by first|exact far10 (by with_reducible assumption) (by with_reducible assumption) (by with_reducible assumption) (by with_reducible assumption) (by with_reducible assumption) (by with_reducible assumption)|omega) (by first|exact far10 (by with_reducible assumption) (by with_reducible assumption) (by with_reducible assumption) (by with_reducible assumption) (by with_reducible assumption) (by with_reducible assumption)|omega) ?_);intro d9 t9 sp9 ac9 pt91 pt92 pnn9 h9 tk9 D91 D92 D93 D94 D95 F9 N9 K9;(have N8:=rejoin lN K9 N9 (by k_dflt k_all));clear K9 N9;(simp only [List.cons_append,List.nil_append] at N8);(try k_sweep);(try dsimp only)))|walk1|(dsimp only;(with_reducible show wpAny _ _ (call (Value.ref _) _) _ _ _))|(dsimp only;walk1)|(leave1;walk_say "STEP leave1";try dsimp only)|fail "no step"))
      rename News _ _ _ _=>nT
      refine LCg.CompEnd.intro (by assumption) nT ((pn,W.listOf #[.ref cp,.int sp9 pt91,.int ac9 pt92,.int kk pt3] pnn9)::(I,oI)::(C,oC)::(D,LCg.lst (rrefs RS))::(L+1,op)::(cp,W.listOf cells.toArray pc0)::(L+1+1,oc)::vl) (by k_allIn) ⟨⟨w1,w2,w3⟩,off4⟩ trivial ⟨xs++[_],sp9,ac9,_,_,_,hxs.append (.cons _ _ .nil),by simp [hxl], ?_,by omega,by omega,by omega,rfl⟩
      intro x hx
      rcases List.mem_append.mp hx with hx|hx
      · exact hsm x hx
      · rw [List.mem_singleton.mp hx];exact menu_small _
    case fin8 =>
      unfold Hold
      intro ys4 nx hR
      unfold LCg.FinE
      intro D2 h tk F N o1
      obtain ⟨xs,sp,ac,pt1,pt2,pnn,hxs,hxl,hsm,hsp,hsp',hac,rfl⟩:=hR
      obtain ⟨x1,x2,x3,x4,r1,r2,r3,r4,rfl,rfl⟩:=four_ints hxs hxl
      k_steps
      (try dsimp only [qk])
      rename News _ _ _ _=>nT
      obtain ⟨_,lp,lI,lC,lD,_,_,lc,_⟩:=(by assumption:@LT.lt Nat _ D2 _∧@LT.lt Nat _ pn _∧@LT.lt Nat _ I _∧@LT.lt Nat _ C _∧@LT.lt Nat _ D _∧@LT.lt Nat _ (L+1) _∧_∧@LT.lt Nat _ (L+1+1) _∧_)
      refine LCg.CompEnd.intro (by assumption) nT ((pn,W.listOf #[.ref cp,.int sp pt1,.int ac pt2,.int kk pt3] pnn)::(L+1,op)::(cp,W.listOf cells.toArray pc0)::(L+1+1,oc)::(_,rowT x1 x2 x3 x4 r1 r2 r3 r4)::vl) (by k_allIn) ⟨⟨u1,u2,u3⟩,off2.1,off2.2.1,off2.2.2.1,⟨Ne.symm (Nat.ne_of_lt lI),Ne.symm (Nat.ne_of_lt lC),Ne.symm (Nat.ne_of_lt lD)⟩,off2.2.2.2⟩ trivial
        ⟨RS++[⟨_,r1,r2,r3,r4,x1,x2,x3,x4⟩],(_,rowT x1 x2 x3 x4 r1 r2 r3 r4)::vl,sp,ac,_,_,_,(rrefs_snoc RS ⟨_,r1,r2,r3,r4,x1,x2,x3,x4⟩).symm,by simp [hlen], ?_,⟨Ne.symm (Nat.ne_of_lt lp),nvl⟩,⟨Ne.symm (Nat.ne_of_lt lc),ncl⟩,hsp,by omega,hac,rfl⟩
      intro z hz
      rcases List.mem_append.mp hz with hz|hz
      · exact ⟨.tail _ (hRS z hz).1,(hRS z hz).2⟩
      · rw [List.mem_singleton.mp hz]
        exact ⟨.head _,hsm x1 (by simp),hsm x2 (by simp),hsm x3 (by simp),hsm x4 (by simp)⟩
  case fin9 =>
    unfold Hold
    intro ys nx hJ
    unfold LCg.FinE
    intro D h tk F N o1
    obtain ⟨RS,vl,sp,ac,pt1,pt2,pnn,rfl,hlen,hRS,nvl,ncl,hsp,hsp',hac,rfl⟩:=hJ
    dsimp only [List.cons_append,List.nil_append] at N o1
    obtain ⟨o1,o2,o3,o4,o5⟩:=o1
    refine stCN (c:=L+1+1) (o:=oc) (own:=[(D,LCg.lst (rrefs RS)),(pn,W.listOf #[.ref cp,.int sp pt1,.int ac pt2,.int kk pt3] pnn),(L+1,op),(cp,W.listOf cells.toArray pc0)]) (rest:=vl) F N rfl hoc ?ho1 (neAll_ne ncl) ?_
    case ho1=>exact List.forall_mem_cons.mpr ⟨Ne.symm o4,List.forall_mem_cons.mpr ⟨Ne.symm p3,List.forall_mem_cons.mpr ⟨Nat.ne_of_lt (Nat.lt_succ_self _),List.forall_mem_cons.mpr ⟨nc,List.forall_mem_nil _⟩⟩⟩⟩
    intro h' oc' F1 N1 hoc'
    dsimp only
    have F3:Fr g L _ (oAt [(Str.ofString "form",some (.int fo tfo))] _):=Fr.as F1 [Str.ofString "form"]
    have N3:News g L h' (((L+1,op)::(pn,W.listOf #[.ref cp,.int sp pt1,.int ac pt2,.int kk pt3] pnn)::(cp,W.listOf cells.toArray pc0)::(L+1+1,oc')::(D,LCg.lst (rrefs RS))::vl)):=news_sub N1 (by k_allIn)
    have np3:NeAll pn ((L+1,op)::(cp,W.listOf cells.toArray pc0)::(L+1+1,oc')::(D,LCg.lst (rrefs RS))::vl):=⟨p1,p2,p3,Ne.symm o1,nvl⟩
    have key:=fun tk9=>law_t5 (s:={s with heap:=_,toks:=tk9}) T X B hE hend hRS hoc' (by first|exact len5 (by with_reducible assumption) (by with_reducible assumption) (by with_reducible assumption)|omega) hop hi hl hsp (by first|exact far9 (by with_reducible assumption) (by with_reducible assumption) (by with_reducible assumption) (by with_reducible assumption) (by with_reducible assumption)|omega) hac h3 h3' np3 F3 N3
    dsimp only [lawA,lawEnv,lawOf,List.drop_succ_cons,List.drop_zero] at key
    exact key _
end
end law_t4_E
theorem law_t4 {w:World} {p:Program} {loose:List Str} {mean:ExcName→Option Value} {mg mb:Str→Option Value} {L fa:Addr} {cd:Value} {g:Heap} {m:Str→Option Value} {s:Shared} {Q:Flow→Shared→Prop} {E:Value→Shared→Prop} {oc op:Obj} {fo:Int} {tfo:Tok} {pn cp:Addr} {sp ac kk:Int} {pt1 pt2 pt3:Tok} {pnn pc0:Nat} {cells:List PySem.Value} {ns:List Int}:@law_t4_S w p loose mean mg mb L fa cd g m s Q E oc op fo tfo pn cp sp ac kk pt1 pt2 pt3 pnn pc0 cells ns:=@Classical.byContradiction _ fun h=>pick_all (P:=law_t4_E.ep) (by with_unfolding_all exact fun k=>k @law_t4_E.ek) (w,p,loose,mean,mg,mb,L,fa,cd,g,m,s,Q,E,oc,op,fo,tfo,pn,cp,sp,ac,kk,pt1,pt2,pt3,pnn,pc0,cells,ns) h
end
end
section
set_option Elab.async false
set_option maxRecDepth 100000
set_option maxHeartbeats 4000000
set_option linter.unusedVariables false
set_option pp.deepTerms false
set_option pp.maxSteps 2000
def rdD (ks:List Int) (i:Int):PyData :=
  if (ks.length:Int)<i+2∨255<num2 ks i then .tuple [.str (Str.ofString "fault"),.int i]
  else if (ks.length:Int)<i+2+2*(ones (num2 ks i):Int) then .tuple [.str (Str.ofString "fault"),.int (cutAt ks.length (i+2))]
  else .tuple [.int (2*(ones (num2 ks i):Int)),.tuple [.int (fld ks (num2 ks i) (i+2) 0),.int (fld ks (num2 ks i) (i+2) 1),.int (fld ks (num2 ks i) (i+2) 2),.int (fld ks (num2 ks i) (i+2) 3)],.int (i+2+2*(ones (num2 ks i):Int))]
theorem fault_ok:PyData.strOk (Str.ofString "fault")=true:=by decide +kernel
theorem rdD_shaped (ks:List Int) (i:Int):SeqAt.shaped (rdD ks i)=true:=by
  unfold rdD
  split
  · simp [SeqAt.shaped,fault_ok,PyData.canLay0,PyData.canLayAll0,PyData.depth,PyData.depthAll]
  split
  · simp [SeqAt.shaped,fault_ok,PyData.canLay0,PyData.canLayAll0,PyData.depth,PyData.depthAll]
  · simp [SeqAt.shaped,fault_ok,PyData.canLay0,PyData.canLayAll0,PyData.depth,PyData.depthAll]
theorem rdD_eqv (ks:List Int) (i:Int):PyData.eqv (rdD ks i) (rdD ks i)=true:=by
  unfold rdD
  split
  · simp [PyData.eqv,PyData.eqvAll]
  split
  · simp [PyData.eqv,PyData.eqvAll]
  · simp [PyData.eqv,PyData.eqvAll]
theorem news_app {g h:Heap} {L:Addr} {a b:List (Addr×Obj)} (N:News g L h a) (N':News g L h b):News g L h (a++b):=fun p hp=>by
  rcases List.mem_append.mp hp with hp|hp
  · exact N p hp
  · exact N' p hp
theorem news_drop2 {g h:Heap} {L:Addr} {a b c:List (Addr×Obj)} (N:News g L h (a++(b++c))):News g L h c:=fun p hp=>N p (List.mem_append_right _ (List.mem_append_right _ hp))
theorem reads_fault {g h:Heap} {L tp:Addr} {k:Int} {t1 t2:Tok} (N:News g L h [(tp,tupOf #[.str (Str.ofString "fault") t1,.int k t2])]):∃ as,Reads h (.ref tp) (.tuple [.str (Str.ofString "fault"),.int k]) as :=
  ⟨_,.tuple (N _ (.head _)).1 rfl rfl (.cons (.str _ _) (.cons (.int _ _) .nil))⟩
theorem reads_found {g h:Heap} {L tp tq:Addr} {a b c1 c2 c3 c4:Int} {t1 t2 q1 q2 q3 q4:Tok} (N:News g L h [(tp,tupOf #[.int a t1,.ref tq,.int b t2]),(tq,tupOf #[.int c1 q1,.int c2 q2,.int c3 q3,.int c4 q4])]) :
    ∃ as,Reads h (.ref tp) (.tuple [.int a,.tuple [.int c1,.int c2,.int c3,.int c4],.int b]) as :=
  ⟨_,.tuple (N _ (.head _)).1 rfl rfl (.cons (.int _ _) (.cons (.tuple (N _ (.tail _ (.head _))).1 rfl rfl (.cons (.int _ _) (.cons (.int _ _) (.cons (.int _ _) (.cons (.int _ _) .nil))))) (.cons (.int _ _) .nil)))⟩
section
variable {prog:Program} {w:World} {A:Around} {E:Value→Shared→Prop} {s:Shared}
theorem ne_same {a b:Value} {d:PyData} {Q:Value→Shared→Prop} (ra:∃ as,Reads s.heap a d as) (rb:∃ as,Reads s.heap b d as) (hs:SeqAt.shaped d=true) (he:PyData.eqv d d=true) (hu:A.units+64<cLine)
    (h:Q (.bool false) s):wpAny (model prog w) A (compareOp .NotEq a b) Q E s:=by
  obtain ⟨as,ra⟩:=ra
  obtain ⟨bs,rb⟩:=rb
  exact ne_dataH ra rb hs hs hu (by rw [he];exact h)
end
section
variable {w:World} {p:Program} {loose:List Str} {mean:ExcName→Option Value} {mg mb:Str→Option Value} {dp un:Nat} {gd:Option (List Code)} {cn:Str} {cs:Scope} {a:Addr} {ccd:Value} {cl:List (Str×Addr)} {outer:List Env} {A₀:Around} {base h₀:Heap} {L:Addr} {m:Str→Option Value} {s:Shared} {Q E:Value→Shared→Prop}
theorem not_or_of {a b c d:Int} (h1:b≤a) (h2:d≤c):¬ (a<b∨c<d):=fun h=>h.elim (Int.not_lt.mpr h1) (Int.not_lt.mpr h2)
theorem read_any (B:Below A₀ base [] h₀) (F:Fr h₀ L s.heap m) (X:(hd.heap_39 w.params).In h₀) (XB:(hd.heap_39 w.params).In base) (TB:Top p loose mean mg mb base) {d:Array UInt8} {ks:List Int} {i:Int} {td ti:Tok} (N:News h₀ L s.heap []) (T:Top p loose mean mg mb h₀) (hk:cs.kind=.function) (hd:dp+12<recursionLimit) (hu:un+140<cLine) (hb:KBw.bInts d=ks) (hz:ks.length≤1000) (h0:0≤i)
    (hret:∀ tp own h' tk',Fr h₀ L h' m→News h₀ L h' own→(∀ h,News h₀ L h own→∃ as,Reads h (.ref tp) (rdD ks i) as)→KeepBut [L] s.heap h'→Q (.ref tp) {s with heap:=h',toks:=tk'}) :
    wpAny (model PySem.Challenge.rw_nu0167_01.row.prog w) (ktrTop dp un gd cn cs L a ccd cl []) (call (.ref 407) [.bytes d td,.int i ti]) Q E s:=by
  refine read_all B F X XB TB N T hk hd hu hb hz h0 (fun c1 tp t1 t2 h' tk' F' N' K'=>?_) (fun a1 a2 c2 tp t1 t2 h' tk' F' N' K'=>?_) fun a1 a2 a3 tp tq t1 t2 q1 q2 q3 q4 h' tk' F' N' K'=>?_
  · exact hret tp _ h' tk' F' N' (fun h N=>by unfold rdD;rw [if_pos c1];exact reads_fault N) K'
  · exact hret tp _ h' tk' F' N' (fun h N=>by unfold rdD;rw [if_neg (not_or_of a1 a2),if_pos c2];exact reads_fault N) K'
  · exact hret tp _ h' tk' F' N' (fun h N=>by unfold rdD;rw [if_neg (not_or_of a1 a2),if_neg (Int.not_lt.mpr a3)];exact reads_found N) K'
theorem due_any (B:Below A₀ base [] h₀) (F:Fr h₀ L s.heap m) (X:(hd.heap_39 w.params).In h₀) (XB:(hd.heap_39 w.params).In base) (TB:Top p loose mean mg mb base) {d:Array UInt8} {ks:List Int} {i:Int} {td ti:Tok} (N:News h₀ L s.heap []) (T:Top p loose mean mg mb h₀) (hk:cs.kind=.function) (hd:dp+12<recursionLimit) (hu:un+140<cLine) (hb:KBw.bInts d=ks) (hz:ks.length≤1000) (h0:0≤i)
    (hret:∀ tp own h' tk',Fr h₀ L h' m→News h₀ L h' own→(∀ h,News h₀ L h own→∃ as,Reads h (.ref tp) (rdD ks i) as)→KeepBut [L] s.heap h'→Q (.ref tp) {s with heap:=h',toks:=tk'}) :
    wpAny (model PySem.Challenge.rw_nu0167_01.row.prog w) (ktrTop dp un gd cn cs L a ccd cl []) (call (.ref 414) [.bytes d td,.int i ti]) Q E s:=by
  have kw:∀ {h h':Heap},KeepBut [] h h'→KeepBut [L] h h':=fun K b o e _=>K b o e fun q=>nomatch q
  by_cases c1:(ks.length:Int)<i+2∨255<num2 ks i
  · exact due_fault1 B F X N T hk hd hu hb hz h0 c1 fun tp t1 t2 h' tk' F' N' K' _=>hret tp _ h' tk' F' N' (fun h N=>by unfold rdD;rw [if_pos c1];exact reads_fault N) (kw K')
  · exact due_12 B F X N T hk hd hu hb hz h0 (by omega) (by omega)
      (fun c2 tp tq t1 t2 q1 q2 q3 q4 h' tk' F' N' K' _ _=>hret tp _ h' tk' F' N' (fun h N=>by unfold rdD;rw [if_neg c1,if_neg (by omega)];exact reads_found N) (kw K'))
      (fun c2 tp t1 t2 h' tk' F' N' K' _=>hret tp _ h' tk' F' N' (fun h N=>by unfold rdD;rw [if_neg c1,if_pos c2];exact reads_fault N) (kw K'))
end
section
set_option maxHeartbeats 4000000
abbrev law_t3_S {w:World} {p:Program} {loose:List Str} {mean:ExcName→Option Value} {mg mb:Str→Option Value} {L fa:Addr} {cd:Value} {g:Heap} {m:Str→Option Value} {s:Shared} {Q:Flow→Shared→Prop} {E:Value→Shared→Prop} {oc op:Obj} {fo:Int} {tfo td:Tok} {d:Array UInt8} {ks:List Int} {pn cp:Addr} {sp ac kk:Int} {pt1 pt2 pt3:Tok} {pnn pc0:Nat} {cells:List PySem.Value} {ns:List Int}:Prop:=∀ (T:Top p loose mean mg mb g) (X:(Mine.hd.heap_39 w.params).In g) (B:Below callerA g [] g) (hE:PassesOwn (model PySem.Challenge.rw_nu0167_01.row.prog w) (lawA L fa cd) (lawEnv L fa cd) E) (hend:∀ h' tk',(∀ b o,g.get? b=some o→h'.get? b=some o)→Q (.ret (.bool true)) {s with heap:=h',toks:=tk'}) (hb:KBw.bInts d=ks) (hz2:2≤ks.length) (hz3:ks.length≤22) (hoc:oc.data=.cell none) (hop:op.data=.cell (some (.ref pn))) (hi:IntsAre cells ns) (hl:cells.length≤63) (h1:0≤sp) (h1':sp≤5000) (h2:0≤ac) (h3:0≤kk) (h3':kk<1009) (nc:@Ne Nat cp (L+1+1)) (np:NeAll pn [(L+1,op),(cp,W.listOf cells.toArray pc0),(L+1+1,oc)]) (F:Fr g L s.heap (oAt [(Str.ofString "data",some (.bytes d td)),(Str.ofString "form",some (.int fo tfo))] m)) (N:News g L s.heap [(L+1,op),(pn,W.listOf #[.ref cp,.int sp pt1,.int ac pt2,.int kk pt3] pnn),(cp,W.listOf cells.toArray pc0),(L+1+1,oc)]),
    wpG (model PySem.Challenge.rw_nu0167_01.row.prog w) (lawA L fa cd) (execs ((lawOf Mine.hd).body.drop 3) (lawEnv L fa cd)) Q E s
namespace law_t3_E
noncomputable section
def ep:=U fun w=>U fun p=>U fun loose=>U fun mean=>U fun mg=>U fun mb=>U fun L=>U fun fa=>U fun cd=>U fun g=>U fun m=>U fun s=>U fun Q=>U fun E=>U fun oc=>U fun op=>U fun fo=>U fun tfo=>U fun td=>U fun d=>U fun ks=>U fun pn=>U fun cp=>U fun sp=>U fun ac=>U fun kk=>U fun pt1=>U fun pt2=>U fun pt3=>U fun pnn=>U fun pc0=>U fun cells=>fun ns=>¬ @law_t3_S w p loose mean mg mb L fa cd g m s Q E oc op fo tfo td d ks pn cp sp ac kk pt1 pt2 pt3 pnn pc0 cells ns
def ec:=pick ep (sW,df,[],df,df,df,0,0,df,{},df,{},df,df,df,df,0,0,0,#[],[],0,0,0,0,0,0,0,0,0,0,[],[])
@[irreducible] def w:=ec.1
@[irreducible] def p:=ec.2.1
@[irreducible] def loose:=ec.2.2.1
@[irreducible] def mean:=ec.2.2.2.1
@[irreducible] def mg:=ec.2.2.2.2.1
@[irreducible] def mb:=ec.2.2.2.2.2.1
@[irreducible] def L:=ec.2.2.2.2.2.2.1
def ec1:=ec.2.2.2.2.2.2.2
@[irreducible] def fa:=ec1.1
@[irreducible] def cd:=ec1.2.1
@[irreducible] def g:=ec1.2.2.1
@[irreducible] def m:=ec1.2.2.2.1
@[irreducible] def s:=ec1.2.2.2.2.1
@[irreducible] def Q:=ec1.2.2.2.2.2.1
@[irreducible] def E:=ec1.2.2.2.2.2.2.1
def ec2:=ec1.2.2.2.2.2.2.2
@[irreducible] def oc:=ec2.1
@[irreducible] def op:=ec2.2.1
@[irreducible] def fo:=ec2.2.2.1
@[irreducible] def tfo:=ec2.2.2.2.1
@[irreducible] def td:=ec2.2.2.2.2.1
@[irreducible] def d:=ec2.2.2.2.2.2.1
@[irreducible] def ks:=ec2.2.2.2.2.2.2.1
def ec3:=ec2.2.2.2.2.2.2.2
@[irreducible] def pn:=ec3.1
@[irreducible] def cp:=ec3.2.1
@[irreducible] def sp:=ec3.2.2.1
@[irreducible] def ac:=ec3.2.2.2.1
@[irreducible] def kk:=ec3.2.2.2.2.1
@[irreducible] def pt1:=ec3.2.2.2.2.2.1
@[irreducible] def pt2:=ec3.2.2.2.2.2.2.1
def ec4:=ec3.2.2.2.2.2.2.2
@[irreducible] def pt3:=ec4.1
@[irreducible] def pnn:=ec4.2.1
@[irreducible] def pc0:=ec4.2.2.1
@[irreducible] def cells:=ec4.2.2.2.1
@[irreducible] def ns:=ec4.2.2.2.2
theorem ek:@law_t3_S w p loose mean mg mb L fa cd g m s Q E oc op fo tfo td d ks pn cp sp ac kk pt1 pt2 pt3 pnn pc0 cells ns:=by
  intro T X B hE hend hb hz2 hz3 hoc hop hi hl h1 h1' h2 h3 h3' nc np F N
  dsimp only [lawA,lawEnv,lawOf,List.drop_succ_cons,List.drop_zero]
  rw [oAt_two] at F
  have hz:ks.length≤1000:=by omega
  refine execsG_cons (wpG_of ?_)
  (repeat' (first|(k_unfold;(try dsimp only))|(k_end;wrow_close)|((with_reducible show wpAny _ _ (compareOp CmpOp.NotEq (Value.ref _) (Value.ref _)) _ _ _);with_reducible ((k_here;(with_reducible show wpAny _ _ (compareOp CmpOp.NotEq (Value.ref _) (Value.ref _)) _ _ _);(rename News _ _ _ _=>nE);(k_dflt (refine ne_same (R91 _ fun p hp=>nE p (List.mem_append_right _ (List.mem_append_left _ hp))) (R92 _ fun p hp=>nE p (List.mem_append_left _ hp)) (rdD_shaped _ _) (rdD_eqv _ _) (by ktr_units) ?_;(have nE2:=news_drop2 nE);clear nE R91 R92)))))|((with_reducible show wpAny _ _ (call (Value.ref _) _) _ _ _);with_reducible (first|(k_here;(try dsimp only [List.nil_append,List.cons_append]);(with_reducible show wpAny _ _ (call (Value.ref 414) _) _ _ _);(rename News _ _ _ _=>lN);k_dflt (refine' due_any (by k_asm) (by k_asm) (by k_asm) X T (by exact News.nil) (by k_asm) (by exact rfl) (by ktr_room) (by ktr_units) hb hz (by omega) ?_);intro tp9 own9 h9 tk9 F9 N9 R92 K9;(k_dflt (have N8:=news_app N9 (rejoinL lN F9 K9)));clear K9 N9;(try k_sweep);(try dsimp only))|(k_here;(try dsimp only [List.nil_append,List.cons_append]);(with_reducible show wpAny _ _ (call (Value.ref 407) _) _ _ _);(rename News _ _ _ _=>lN);k_dflt (refine' read_any (by k_asm) (by k_asm) (by k_asm) X T (by exact News.nil) (by k_asm) (by exact rfl) (by ktr_room) (by ktr_units) hb hz (by omega) ?_);intro tp9 own9 h9 tk9 F9 N9 R91 K9;(k_dflt (have N8:=news_app N9 (rejoinL lN F9 K9)));clear K9 N9;(try k_sweep);(try dsimp only))))|walk1|(dsimp only;(with_reducible show wpAny _ _ (call (Value.ref _) _) _ _ _))|(dsimp only;walk1)|(leave1;walk_say "STEP leave1";try dsimp only)|fail "no step"))
  dsimp only
  rename Fr _ _ _ _=>eF
  rename News _ _ _ _=>eN
  have F3:Fr g L _ (oAt [(Str.ofString "form",some (.int fo tfo))] _):=Fr.as eF [Str.ofString "form"]
  have N3:News g L _ [(L+1,op),(pn,W.listOf #[.ref cp,.int sp pt1,.int ac pt2,.int kk pt3] pnn),(cp,W.listOf cells.toArray pc0),(L+1+1,oc)]:=news_sub eN (by k_allIn)
  have key:=fun tk9=>law_t4 (s:={s with heap:=_,toks:=tk9}) T X B hE hend hoc hop hi hl h1 h1' h2 h3 h3' nc np F3 N3
  dsimp only [lawA,lawEnv,lawOf,List.drop_succ_cons,List.drop_zero] at key
  exact key _
end
end law_t3_E
theorem law_t3 {w:World} {p:Program} {loose:List Str} {mean:ExcName→Option Value} {mg mb:Str→Option Value} {L fa:Addr} {cd:Value} {g:Heap} {m:Str→Option Value} {s:Shared} {Q:Flow→Shared→Prop} {E:Value→Shared→Prop} {oc op:Obj} {fo:Int} {tfo td:Tok} {d:Array UInt8} {ks:List Int} {pn cp:Addr} {sp ac kk:Int} {pt1 pt2 pt3:Tok} {pnn pc0:Nat} {cells:List PySem.Value} {ns:List Int}:@law_t3_S w p loose mean mg mb L fa cd g m s Q E oc op fo tfo td d ks pn cp sp ac kk pt1 pt2 pt3 pnn pc0 cells ns:=@Classical.byContradiction _ fun h=>pick_all (P:=law_t3_E.ep) (by with_unfolding_all exact fun k=>k @law_t3_E.ek) (w,p,loose,mean,mg,mb,L,fa,cd,g,m,s,Q,E,oc,op,fo,tfo,td,d,ks,pn,cp,sp,ac,kk,pt1,pt2,pt3,pnn,pc0,cells,ns) h
end
end
section
set_option Elab.async false
set_option maxRecDepth 100000
set_option maxHeartbeats 4000000
set_option linter.unusedVariables false
set_option pp.deepTerms false
set_option pp.maxSteps 2000
theorem far1 {a b c:Int} {i:Nat} (h1:a≤b+i) (h2:b≤4000) (h3:c≤20) (h4:i<c.toNat):a≤10000:=by omega
theorem pen_first {g h:Heap} {L:Addr} {a b q c d:Addr×Obj} (N:News g L h [a,b,q,c,d]):News g L h [q,a,b,c,d]:=news_sub N (by k_allIn)
theorem bInts_of (ns:List Int) (h:∀ n∈ns,0≤n∧n<256):KBw.bInts (ns.map fun n=>n.toNat.toUInt8).toArray=ns:=by
  unfold KBw.bInts
  rw [List.map_map]
  induction ns with
  | nil=>rfl
  | cons n r ih =>
    rw [List.map_cons,ih fun x hx=>h x (.tail _ hx)]
    congr 1
    exact byte_back (h n (.head _)).1 (h n (.head _)).2
theorem compEndP {h₀:Heap} {L I C D pn:Addr} {m:Str→Option PySem.Value} {s₁:Shared} {o o0 oI oC oD:Obj} {S:List (Addr×Obj)→Prop} {rest:PySem.Value→List (Addr×Obj)→Prop} {y:PySem.Value} {h':Heap} {tk:Nat} {nx:List (Addr×Obj)} (F:Fr h₀ L h' m) (N:News h₀ L h' ((pn,o)::(I,oI)::(C,oC)::(D,oD)::nx)) (off:LCg.Off3 I C D ((pn,o0)::nx)) (hS:S ((pn,o)::nx)) (r:rest y ((pn,o)::nx)) :
    LCg.CompEnd h₀ L m s₁ I oI C oC D oD S rest y {s₁ with heap:=h',toks:=tk}:=LCg.CompEnd.intro F N ((pn,o)::nx) (by k_allIn) ⟨off.1,off.2⟩ hS r
def DatJ (pn cp:Addr) (kk:Int) (pt3:Tok) (sp0:Int) (rest:List (Addr×Obj)) (i:Nat) (ys:List PySem.Value) (nx:List (Addr×Obj)):Prop :=
  ∃ (xs:List Int) (sp ac:Int) (pt1 pt2:Tok) (pnn:Nat),IntsAre ys xs∧xs.length=i∧(∀ x∈xs,0≤x∧x<256)∧0≤sp∧sp≤sp0+(i:Int)∧0≤ac∧nx=(pn,W.listOf #[.ref cp,.int sp pt1,.int ac pt2,.int kk pt3] pnn)::rest
theorem DatJ.zero {pn cp:Addr} {sp ac kk:Int} {pt1 pt2 pt3:Tok} {pnn:Nat} {rest:List (Addr×Obj)} (h1:0≤sp) (h2:0≤ac):DatJ pn cp kk pt3 sp rest 0 [] ((pn,W.listOf #[.ref cp,.int sp pt1,.int ac pt2,.int kk pt3] pnn)::rest) :=
  ⟨[],sp,ac,pt1,pt2,pnn,.nil,rfl,(fun x hx=>nomatch hx),h1,by omega,h2,rfl⟩
section
set_option maxHeartbeats 4000000
abbrev law_t2_S {w:World} {p:Program} {loose:List Str} {mean:ExcName→Option Value} {mg mb:Str→Option Value} {L fa:Addr} {cd:Value} {g:Heap} {m:Str→Option Value} {s:Shared} {Q:Flow→Shared→Prop} {E:Value→Shared→Prop} {oc op:Obj} {fo sz:Int} {tfo tsz:Tok} {pn cp:Addr} {sp ac kk:Int} {pt1 pt2 pt3:Tok} {pnn pc0:Nat} {cells:List PySem.Value} {ns:List Int}:Prop:=∀ (T:Top p loose mean mg mb g) (X:(Mine.hd.heap_39 w.params).In g) (B:Below callerA g [] g) (hE:PassesOwn (model PySem.Challenge.rw_nu0167_01.row.prog w) (lawA L fa cd) (lawEnv L fa cd) E) (hend:∀ h' tk',(∀ b o,g.get? b=some o→h'.get? b=some o)→Q (.ret (.bool true)) {s with heap:=h',toks:=tk'}) (hf0:0≤fo) (hf1:fo<65536) (hs0:0≤sz) (hs1:sz≤20) (hoc:oc.data=.cell none) (hop:op.data=.cell (some (.ref pn))) (hi:IntsAre cells ns) (hl:cells.length≤63) (h1:0≤sp) (h1':sp≤4000) (h2:0≤ac) (h3:0≤kk) (h3':kk<1009) (nc:@Ne Nat cp (L+1+1)) (np:NeAll pn [(L+1,op),(cp,W.listOf cells.toArray pc0),(L+1+1,oc)]) (F:Fr g L s.heap (oAt [(Str.ofString "form",some (.int fo tfo)),(Str.ofString "size",some (.int sz tsz))] m)) (N:News g L s.heap [(L+1,op),(pn,W.listOf #[.ref cp,.int sp pt1,.int ac pt2,.int kk pt3] pnn),(cp,W.listOf cells.toArray pc0),(L+1+1,oc)]),
    wpG (model PySem.Challenge.rw_nu0167_01.row.prog w) (lawA L fa cd) (execs ((lawOf Mine.hd).body.drop 2) (lawEnv L fa cd)) Q E s
namespace law_t2_E
noncomputable section
def ep:=U fun w=>U fun p=>U fun loose=>U fun mean=>U fun mg=>U fun mb=>U fun L=>U fun fa=>U fun cd=>U fun g=>U fun m=>U fun s=>U fun Q=>U fun E=>U fun oc=>U fun op=>U fun fo=>U fun sz=>U fun tfo=>U fun tsz=>U fun pn=>U fun cp=>U fun sp=>U fun ac=>U fun kk=>U fun pt1=>U fun pt2=>U fun pt3=>U fun pnn=>U fun pc0=>U fun cells=>fun ns=>¬ @law_t2_S w p loose mean mg mb L fa cd g m s Q E oc op fo sz tfo tsz pn cp sp ac kk pt1 pt2 pt3 pnn pc0 cells ns
def ec:=pick ep (sW,df,[],df,df,df,0,0,df,{},df,{},df,df,df,df,0,0,0,0,0,0,0,0,0,0,0,0,0,0,[],[])
@[irreducible] def w:=ec.1
@[irreducible] def p:=ec.2.1
@[irreducible] def loose:=ec.2.2.1
@[irreducible] def mean:=ec.2.2.2.1
@[irreducible] def mg:=ec.2.2.2.2.1
@[irreducible] def mb:=ec.2.2.2.2.2.1
@[irreducible] def L:=ec.2.2.2.2.2.2.1
def ec1:=ec.2.2.2.2.2.2.2
@[irreducible] def fa:=ec1.1
@[irreducible] def cd:=ec1.2.1
@[irreducible] def g:=ec1.2.2.1
@[irreducible] def m:=ec1.2.2.2.1
@[irreducible] def s:=ec1.2.2.2.2.1
@[irreducible] def Q:=ec1.2.2.2.2.2.1
@[irreducible] def E:=ec1.2.2.2.2.2.2.1
def ec2:=ec1.2.2.2.2.2.2.2
@[irreducible] def oc:=ec2.1
@[irreducible] def op:=ec2.2.1
@[irreducible] def fo:=ec2.2.2.1
@[irreducible] def sz:=ec2.2.2.2.1
@[irreducible] def tfo:=ec2.2.2.2.2.1
@[irreducible] def tsz:=ec2.2.2.2.2.2.1
@[irreducible] def pn:=ec2.2.2.2.2.2.2.1
def ec3:=ec2.2.2.2.2.2.2.2
@[irreducible] def cp:=ec3.1
@[irreducible] def sp:=ec3.2.1
@[irreducible] def ac:=ec3.2.2.1
@[irreducible] def kk:=ec3.2.2.2.1
@[irreducible] def pt1:=ec3.2.2.2.2.1
@[irreducible] def pt2:=ec3.2.2.2.2.2.1
@[irreducible] def pt3:=ec3.2.2.2.2.2.2.1
def ec4:=ec3.2.2.2.2.2.2.2
@[irreducible] def pnn:=ec4.1
@[irreducible] def pc0:=ec4.2.1
@[irreducible] def cells:=ec4.2.2.1
@[irreducible] def ns:=ec4.2.2.2
theorem ek:@law_t2_S w p loose mean mg mb L fa cd g m s Q E oc op fo sz tfo tsz pn cp sp ac kk pt1 pt2 pt3 pnn pc0 cells ns:=by
  intro T X B hE hend hf0 hf1 hs0 hs1 hoc hop hi hl h1 h1' h2 h3 h3' nc np F N
  dsimp only [lawA,lawEnv,lawOf,List.drop_succ_cons,List.drop_zero]
  rw [oAt_two] at F
  obtain ⟨p1,p2,p3,_⟩:=np
  refine execsG_cons (wpG_of ?_)
  (repeat' (first|(k_unfold;(try dsimp only))|(k_end;wrow_close)|((with_reducible show LCg.CompSrc ..);(with_reducible ((rename News _ _ _ _=>nS);(rename IsRange _ _ _ _ _ _ _ _=>rg);(have nS2:=pen_first nS);clear nS;(k_dflt (refine LCg.CompSrc.range (n:=sz.toNat) (by rfl) (by k_asm) nS2 rg (small_one (by omega) (by omega) (by omega) (by omega)) (range_sz hs0) (Nat.le_trans (by omega:sz.toNat≤100) (by decide)) ?_;intro g9);k_dflt (refine comp_ind (DatJ pn cp kk pt3 sp _) ?fin9 ?step9 _ 0 [] _ (Nat.zero_add _) (DatJ.zero h1 h2));(all_goals (refine held ?_))))))|((with_reducible show wpAny _ _ (eval (Expr.ListComp ..) _) _ _ _);(with_reducible (k_here;k_dflt (refine LCg.ListComp_U (F₀:=by k_asm) (by with_unfolding_all rfl) (by decide) (by rfl) (by decide) (by rfl) ?_))))|walk1|(dsimp only;(with_reducible show wpAny _ _ (call (Value.ref _) _) _ _ _))|(dsimp only;walk1)|(leave1;walk_say "STEP leave1";try dsimp only)|fail "no step"))
  case step9 =>
    unfold Hold
    intro i ys nx v I oI C oC D m2 h tk E' hin hJ hP hC hx F N off ne
    obtain ⟨xs,sp,ac,pt1,pt2,pnn,hxs,hxl,hsm,h1,hsp',h2,rfl⟩:=hJ
    obtain ⟨tv,rfl⟩:=hP
    have off0:=off
    obtain ⟨⟨u1,u2,u3⟩,⟨w1,w2,w3⟩,off2⟩:=off
    (repeat' (first|(k_unfold;(try dsimp only))|(k_end;wrow_close)|((with_reducible show wpAny _ _ (call (Value.ref _) _) _ _ _);with_reducible (k_here;(try dsimp only [List.nil_append,List.cons_append]);(with_reducible show wpAny _ _ (call (Value.ref 388) _) _ _ _);(rename News _ _ _ _=>lN);k_dflt (refine' draw_k (by k_asm) (by k_asm) (by k_asm) (by ((refine news_sub lN ?_);k_allIn)) (by k_asm) (by exact rfl) (by ktr_room) (by ktr_units) (by k_ne) hi hl (by first|exact far1 (by with_reducible assumption) (by with_reducible assumption) (by with_reducible assumption) (by with_reducible assumption)|omega) (by first|exact far1 (by with_reducible assumption) (by with_reducible assumption) (by with_reducible assumption) (by with_reducible assumption)|omega) (by first|exact far1 (by with_reducible assumption) (by with_reducible assumption) (by with_reducible assumption) (by with_reducible assumption)|omega) h3 h3' (by first|exact far1 (by with_reducible assumption) (by with_reducible assumption) (by with_reducible assumption) (by with_reducible assumption)|omega) (by first|exact far1 (by with_reducible assumption) (by with_reducible assumption) (by with_reducible assumption) (by with_reducible assumption)|omega) ?_);intro d9 t9 sp9 ac9 pt91 pt92 pnn9 h9 tk9 D91 D92 D93 D94 D95 F9 N9 K9;(have N8:=rejoin lN K9 N9 (by k_dflt k_all));clear K9 N9;(simp only [List.cons_append,List.nil_append] at N8);(try k_sweep);(try dsimp only)))|walk1|(dsimp only;(with_reducible show wpAny _ _ (call (Value.ref _) _) _ _ _))|(dsimp only;walk1)|(leave1;walk_say "STEP leave1";try dsimp only)|fail "no step"))
    (try dsimp only [qk])
    rename News _ _ _ _=>nT
    refine compEndP (by assumption) nT off0 trivial ⟨xs++[d9],sp9,ac9,_,_,_,hxs.append (.cons _ _ .nil),by simp [hxl], ?_,by omega,by omega,by omega,rfl⟩
    intro x hx
    rcases List.mem_append.mp hx with hx|hx
    · exact hsm x hx
    · rw [List.mem_singleton.mp hx];exact ⟨D91,D92⟩
  case fin9 =>
    unfold Hold
    intro ys nx hJ
    unfold LCg.FinE
    intro D h tk F N o1
    obtain ⟨xs,sp,ac,pt1,pt2,pnn,hxs,hxl,hsm,h1,hsp',h2,rfl⟩:=hJ
    have hba:∀ x∈[fo.fdiv 256,fo.fmod 256]++xs,0≤x∧x<256:=by
      intro x hx
      rcases List.mem_append.mp hx with hx|hx
      · rw [Int.fdiv_eq_ediv_of_nonneg _ (by decide),Int.fmod_eq_emod_of_nonneg _ (by decide)] at hx
        rcases List.mem_cons.mp hx with rfl|hx
        · omega
        · rw [List.mem_singleton.mp hx];omega
      · exact hsm x hx
    (repeat' (first|(k_unfold;(try dsimp only))|(k_end;wrow_close)|((with_reducible show wpAny _ _ (call (Value.type _) [Value.ref _]) _ _ _);with_reducible ((k_here;(with_reducible show wpAny _ _ (call (Value.type _) [Value.ref _]) _ _ _);(rename News _ _ _ _=>nB);(rename IntsAre _ _=>iB);k_dflt (refine' bytes_K (by k_asm) nB (by exact News.isList nB (by k_mem)) iB hba (by (rw [iB.length,List.length_append,hxl];exact Nat.le_trans (by (simp only [List.length_cons,List.length_nil];omega):_≤100) (by decide))) (by with_unfolding_all rfl) ?_);intro h' t' k' F' N' hB';(try k_sweep))))|walk1|(dsimp only;(with_reducible show wpAny _ _ (call (Value.ref _) _) _ _ _))|(dsimp only;walk1)|(leave1;walk_say "STEP leave1";try dsimp only)|fail "no step"))
    dsimp only
    rename Fr _ _ _ _=>eF
    rename News _ _ _ _=>eN
    have F3:Fr g L _ (oAt [(Str.ofString "data",some (.bytes (List.map (fun n:Int=>n.toNat.toUInt8) ([fo.fdiv 256,fo.fmod 256]++xs)).toArray _)),(Str.ofString "form",some (.int fo tfo))] _):=Fr.as eF [Str.ofString "data",Str.ofString "form"]
    have N3:News g L _ [(L+1,op),(pn,W.listOf #[.ref cp,.int sp pt1,.int ac pt2,.int kk pt3] pnn),(cp,W.listOf cells.toArray pc0),(L+1+1,oc)]:=news_sub eN (by k_allIn)
    have key:=fun tk9=>law_t3 (s:={s with heap:=_,toks:=tk9}) T X B hE hend (bInts_of _ hba) (by rw [List.length_append,hxl];simp) (by rw [List.length_append,hxl];simp only [List.length_cons,List.length_nil];omega) hoc hop hi hl h1 (by omega) h2 h3 h3' nc ⟨p1,p2,p3,True.intro⟩ F3 N3
    dsimp only [lawA,lawEnv,lawOf,List.drop_succ_cons,List.drop_zero] at key
    exact key _
end
end law_t2_E
theorem law_t2 {w:World} {p:Program} {loose:List Str} {mean:ExcName→Option Value} {mg mb:Str→Option Value} {L fa:Addr} {cd:Value} {g:Heap} {m:Str→Option Value} {s:Shared} {Q:Flow→Shared→Prop} {E:Value→Shared→Prop} {oc op:Obj} {fo sz:Int} {tfo tsz:Tok} {pn cp:Addr} {sp ac kk:Int} {pt1 pt2 pt3:Tok} {pnn pc0:Nat} {cells:List PySem.Value} {ns:List Int}:@law_t2_S w p loose mean mg mb L fa cd g m s Q E oc op fo sz tfo tsz pn cp sp ac kk pt1 pt2 pt3 pnn pc0 cells ns:=@Classical.byContradiction _ fun h=>pick_all (P:=law_t2_E.ep) (by with_unfolding_all exact fun k=>k @law_t2_E.ek) (w,p,loose,mean,mg,mb,L,fa,cd,g,m,s,Q,E,oc,op,fo,sz,tfo,tsz,pn,cp,sp,ac,kk,pt1,pt2,pt3,pnn,pc0,cells,ns) h
end
end
section
set_option Elab.async false
set_option maxRecDepth 100000
set_option maxHeartbeats 4000000
set_option linter.unusedVariables false
set_option pp.deepTerms false
set_option pp.maxSteps 2000
theorem form_range {d e:Int} (h0:0≤d) (h1:d<300) (h2:0≤e) (h3:e<2):0≤d*(1+e)∧d*(1+e)<65536:=by
  have:e=0∨e=1:=by omega
  rcases this with rfl|rfl
  · constructor <;> omega
  · constructor <;> omega
section
set_option maxHeartbeats 4000000
abbrev law_t1_S {w:World} {p:Program} {loose:List Str} {mean:ExcName→Option Value} {mg mb:Str→Option Value} {L fa:Addr} {cd:Value} {g:Heap} {m:Str→Option Value} {s:Shared} {Q:Flow→Shared→Prop} {E:Value→Shared→Prop} {oc op:Obj} {pn cp:Addr} {sp ac kk:Int} {pt1 pt2 pt3:Tok} {pnn pc0:Nat} {cells:List PySem.Value} {ns:List Int}:Prop:=∀ (T:Top p loose mean mg mb g) (X:(Mine.hd.heap_39 w.params).In g) (B:Below callerA g [] g) (hE:PassesOwn (model PySem.Challenge.rw_nu0167_01.row.prog w) (lawA L fa cd) (lawEnv L fa cd) E) (hend:∀ h' tk',(∀ b o,g.get? b=some o→h'.get? b=some o)→Q (.ret (.bool true)) {s with heap:=h',toks:=tk'}) (hoc:oc.data=.cell none) (hop:op.data=.cell (some (.ref pn))) (hi:IntsAre cells ns) (hl:cells.length≤63) (h1:0≤sp) (h1':sp≤3000) (h2:0≤ac) (h3:0≤kk) (h3':kk<1009) (nc:@Ne Nat cp (L+1+1)) (np:NeAll pn [(L+1,op),(cp,W.listOf cells.toArray pc0),(L+1+1,oc)]) (F:Fr g L s.heap m) (N:News g L s.heap [(L+1,op),(pn,W.listOf #[.ref cp,.int sp pt1,.int ac pt2,.int kk pt3] pnn),(cp,W.listOf cells.toArray pc0),(L+1+1,oc)]),
    wpG (model PySem.Challenge.rw_nu0167_01.row.prog w) (lawA L fa cd) (execs ((lawOf Mine.hd).body.drop 1) (lawEnv L fa cd)) Q E s
namespace law_t1_E
noncomputable section
def ep:=U fun w=>U fun p=>U fun loose=>U fun mean=>U fun mg=>U fun mb=>U fun L=>U fun fa=>U fun cd=>U fun g=>U fun m=>U fun s=>U fun Q=>U fun E=>U fun oc=>U fun op=>U fun pn=>U fun cp=>U fun sp=>U fun ac=>U fun kk=>U fun pt1=>U fun pt2=>U fun pt3=>U fun pnn=>U fun pc0=>U fun cells=>fun ns=>¬ @law_t1_S w p loose mean mg mb L fa cd g m s Q E oc op pn cp sp ac kk pt1 pt2 pt3 pnn pc0 cells ns
def ec:=pick ep (sW,df,[],df,df,df,0,0,df,{},df,{},df,df,df,df,0,0,0,0,0,0,0,0,0,0,[],[])
@[irreducible] def w:=ec.1
@[irreducible] def p:=ec.2.1
@[irreducible] def loose:=ec.2.2.1
@[irreducible] def mean:=ec.2.2.2.1
@[irreducible] def mg:=ec.2.2.2.2.1
@[irreducible] def mb:=ec.2.2.2.2.2.1
@[irreducible] def L:=ec.2.2.2.2.2.2.1
def ec1:=ec.2.2.2.2.2.2.2
@[irreducible] def fa:=ec1.1
@[irreducible] def cd:=ec1.2.1
@[irreducible] def g:=ec1.2.2.1
@[irreducible] def m:=ec1.2.2.2.1
@[irreducible] def s:=ec1.2.2.2.2.1
@[irreducible] def Q:=ec1.2.2.2.2.2.1
@[irreducible] def E:=ec1.2.2.2.2.2.2.1
def ec2:=ec1.2.2.2.2.2.2.2
@[irreducible] def oc:=ec2.1
@[irreducible] def op:=ec2.2.1
@[irreducible] def pn:=ec2.2.2.1
@[irreducible] def cp:=ec2.2.2.2.1
@[irreducible] def sp:=ec2.2.2.2.2.1
@[irreducible] def ac:=ec2.2.2.2.2.2.1
@[irreducible] def kk:=ec2.2.2.2.2.2.2.1
def ec3:=ec2.2.2.2.2.2.2.2
@[irreducible] def pt1:=ec3.1
@[irreducible] def pt2:=ec3.2.1
@[irreducible] def pt3:=ec3.2.2.1
@[irreducible] def pnn:=ec3.2.2.2.1
@[irreducible] def pc0:=ec3.2.2.2.2.1
@[irreducible] def cells:=ec3.2.2.2.2.2.1
@[irreducible] def ns:=ec3.2.2.2.2.2.2
theorem ek:@law_t1_S w p loose mean mg mb L fa cd g m s Q E oc op pn cp sp ac kk pt1 pt2 pt3 pnn pc0 cells ns:=by
  intro T X B hE hend hoc hop hi hl h1 h1' h2 h3 h3' nc np F N
  dsimp only [lawA,lawEnv,lawOf,List.drop_succ_cons,List.drop_zero]
  obtain ⟨p1,p2,p3,_⟩:=np
  refine execsG_cons (wpG_of ?_)
  (repeat' (first|(k_unfold;(try dsimp only))|(k_end;wrow_close)|((with_reducible show wpAny _ _ (call (Value.ref _) _) _ _ _);with_reducible (k_here;(try dsimp only [List.nil_append,List.cons_append]);(with_reducible show wpAny _ _ (call (Value.ref 388) _) _ _ _);(rename News _ _ _ _=>lN);k_dflt (refine' draw_k (by k_asm) (by k_asm) (by k_asm) (by ((refine news_sub lN ?_);k_allIn)) (by k_asm) (by exact rfl) (by ktr_room) (by ktr_units) (by k_ne) hi hl (by omega) (by omega) (by omega) h3 h3' (by omega) (by omega) ?_);intro d9 t9 sp9 ac9 pt91 pt92 pnn9 h9 tk9 D91 D92 D93 D94 D95 F9 N9 K9;(have N8:=rejoin lN K9 N9 (by k_dflt k_all));clear K9 N9;(simp only [List.cons_append,List.nil_append] at N8);(try k_sweep);(try dsimp only)))|walk1|(dsimp only;(with_reducible show wpAny _ _ (call (Value.ref _) _) _ _ _))|(dsimp only;walk1)|(leave1;walk_say "STEP leave1";try dsimp only)|fail "no step"))
  dsimp only
  rename Fr _ _ _ _=>eF
  rename News _ _ _ _=>eN
  have F3:Fr g L _ (oAt [(Str.ofString "form",some (.int _ _)),(Str.ofString "size",some (.int _ _))] _):=Fr.as eF [Str.ofString "form",Str.ofString "size"]
  have N3:News g L _ [(L+1,op),(pn,W.listOf #[.ref cp,.int sp9 pt91,.int ac9 pt92,.int kk pt3] pnn9),(cp,W.listOf cells.toArray pc0),(L+1+1,oc)]:=news_sub eN (by k_allIn)
  have key:=fun tk9=>law_t2 (s:={s with heap:=_,toks:=tk9}) T X B hE hend (form_range (by assumption) (by assumption) (by assumption) (by assumption)).1 (form_range (by assumption) (by assumption) (by assumption) (by assumption)).2 (by assumption) (by omega) hoc hop hi hl (by assumption) (by omega) (by assumption) h3 h3' nc ⟨p1,p2,p3,True.intro⟩ F3 N3
  dsimp only [lawA,lawEnv,lawOf,List.drop_succ_cons,List.drop_zero] at key
  exact key _
end
end law_t1_E
theorem law_t1 {w:World} {p:Program} {loose:List Str} {mean:ExcName→Option Value} {mg mb:Str→Option Value} {L fa:Addr} {cd:Value} {g:Heap} {m:Str→Option Value} {s:Shared} {Q:Flow→Shared→Prop} {E:Value→Shared→Prop} {oc op:Obj} {pn cp:Addr} {sp ac kk:Int} {pt1 pt2 pt3:Tok} {pnn pc0:Nat} {cells:List PySem.Value} {ns:List Int}:@law_t1_S w p loose mean mg mb L fa cd g m s Q E oc op pn cp sp ac kk pt1 pt2 pt3 pnn pc0 cells ns:=@Classical.byContradiction _ fun h=>pick_all (P:=law_t1_E.ep) (by with_unfolding_all exact fun k=>k @law_t1_E.ek) (w,p,loose,mean,mg,mb,L,fa,cd,g,m,s,Q,E,oc,op,pn,cp,sp,ac,kk,pt1,pt2,pt3,pnn,pc0,cells,ns) h
end
end
section
set_option Elab.async false
set_option maxRecDepth 100000
set_option maxHeartbeats 4000000
set_option linter.unusedVariables false
set_option pp.deepTerms false
set_option pp.maxSteps 2000
theorem mod_range (x:Int):0≤x.fmod 1009∧x.fmod 1009<1009:=by
  rw [Int.fmod_eq_emod_of_nonneg _ (by decide)]
  omega
theorem freshM {H g h':Heap} {L x:Addr} {o:Obj} {l:List (Addr×Obj)} (G:GSub H g []) (N:News g L h' l) (hm:(x,o)∈l):Fresh H x:=by
  intro b o' z q
  have q':b=x:=q
  subst q'
  have z1:=G b o' z (fun h=>nomatch h)
  rw [(N _ hm).2.2] at z1;cases z1
section
variable {w:World} {p:Program} {loose:List Str} {mean:ExcName→Option Value} {mg mb:Str→Option Value} {dp un:Nat} {gd:Option (List Code)} {cn:Str} {cs:Scope} {a:Addr} {ccd:Value} {cl:List (Str×Addr)} {outer:List Env} {A₀:Around} {base h₀:Heap} {L:Addr} {m:Str→Option Value} {s:Shared} {Q E:Value→Shared→Prop}
set_option maxHeartbeats 4000000
theorem pen_c {sc:Addr} {vs:List PySem.Value} {ns:List Int} (B:Below A₀ base outer h₀) (F:Fr h₀ L s.heap m) (X:(hd.heap_39 w.params).In h₀) (N:News h₀ L s.heap []) (T:Top p loose mean mg mb h₀) (hk:cs.kind=.function) (hd:dp+4<recursionLimit) (hu:un+60<cLine) (hsl:base.IsList sc vs.toArray) (hi:IntsAre vs ns) (hl:ns.length≤63)
    (hret:∀ pn cp (kk:Int) (cells:List PySem.Value) (ms:List Int) (c0 pnn:Nat) (pt1 pt2 pt3:Tok) h' tk',IntsAre cells ms→cells.length≤63→0≤kk→kk<1009→Fr h₀ L h' m→News h₀ L h' [(pn,W.listOf #[.ref cp,.int 0 pt1,.int 0 pt2,.int kk pt3] pnn),(cp,W.listOf cells.toArray c0)]→KeepBut [] s.heap h'→Fresh s.heap pn→Fresh s.heap cp→@Ne Nat cp pn→Q (.ref pn) {s with heap:=h',toks:=tk'}) :
    wpAny (model PySem.Challenge.rw_nu0167_01.row.prog w) (ktrTop dp un gd cn cs L a ccd cl outer) (call (.ref 395) [.ref sc]) Q E s:=by
  refine wpAny_call ?_
  k_dflt cell_enter
  k_steps
  refine' hret _ _ _ _ _ _ _ _ _ _ _ _ ?I1 ?l1 ?k0 ?k1 ?F1 ?N1 ?K1 ?f1 ?f2 ?n1
  case F1=>assumption
  case N1=>exact news_sub (by assumption) (by k_allIn)
  case I1=>assumption
  case l1 =>
    rw [IntsAre.length (by assumption:IntsAre _ (List.take 63 ns)),List.length_take]
    omega
  case k0=>exact (mod_range _).1
  case k1=>exact (mod_range _).2
  case K1=>exact keepBut_of (by assumption) (by assumption)
  case f1=>exact freshM (by assumption) (by assumption) (List.Mem.head _)
  case f2=>exact freshM (by assumption) (by assumption) (List.Mem.tail _ (List.Mem.tail _ (List.Mem.head _)))
  case n1=>k_ne
end
end
section
set_option Elab.async false
set_option maxRecDepth 100000
set_option maxHeartbeats 4000000
set_option linter.unusedVariables false
set_option pp.deepTerms false
set_option pp.maxSteps 2000
set_option maxHeartbeats 4000000
theorem law_1:PySem.Challenge.rw_nu0167_01.Holds:=by
  refine Mine.hd ?_
  intro w s₀ s₁ mg mb G Y fa o pm cd doc dV kV ho hd1 hcd hD hmg hg args vals as hpre hlay hrd hwl hlo
  have KX:=kIn_of Y
  refine Ground.open G ?_
  intro T B D TE TW
  refine guard_noD D (by decide +kernel) ?_
  clear D
  wrow_args hpre hlay hrd hwl hlo
  have he:=Dflts.none hD rfl
  subst he
  have he:=Dflts.noKw hD
  subst he
  refine wpG_call (enterTopG (by decide) ho (fd_plain hd1) (Top.nolimit T) hcd (BindsTo.of_eq rfl) (by rfl) (by decide +kernel) ?_ rfl rfl rfl)
  intro h₁ tk₁ cells F0 N0 X0
  have K0:=below_caller (Top.heap T)
  (obtain ⟨oc1,oc2,he,hcd1,hcd2⟩:=CellsAre.two X0;subst he)
  refine execsG_cons (wpG_of ?_)
  (repeat' (first|(k_unfold;(try dsimp only))|(k_end;wrow_close)|((with_reducible show wpAny _ _ (call (Value.ref _) _) _ _ _);with_reducible (k_here;(try dsimp only [List.nil_append,List.cons_append]);(with_reducible show wpAny _ _ (call (Value.ref 395) _) _ _ _);(rename News _ _ _ _=>lN);(k_dflt (refine' pen_c (by k_asm) (by k_asm) (by k_asm) (by exact News.nil) (by k_asm) (by exact rfl) (by ktr_room) (by ktr_units) (by assumption) (by assumption) (by omega) ?_));intro pn cp kk cells ms pc0 pnn pt1 pt2 pt3 h9 tk9 I9 L9 k90 k91 F9 N9 K9 W91 W92 n19;(have E91:=neFresh lN W91);(have E92:=neFresh lN W92);(k_dflt (have N8:=rejoin lN K9 N9 (.all fun _ _ h=>nomatch h)));clear K9 N9;(simp only [List.cons_append,List.nil_append] at N8);(try k_sweep);(try dsimp only)))|walk1|(dsimp only;(with_reducible show wpAny _ _ (call (Value.ref _) _) _ _ _))|(dsimp only;walk1)|(leave1;walk_say "STEP leave1";try dsimp only)|fail "no step"))
  dsimp only
  rename Fr _ _ _ _=>eF
  rename News _ _ _ _=>eN
  rename _=Data.cell (some (Value.ref pn))=>hop
  have hoc1:oc1.data=.cell none:=hcd1
  have key:=fun Q E tk9 hE hend=>law_t1 (fa:=fa) (cd:=cd) (Q:=Q) (E:=E) (s:={s₁ with heap:=_,toks:=tk9}) T KX K0 hE hend hoc1 hop I9 L9 (Int.le_refl 0) (by decide) (Int.le_refl 0) k90 k91 (Ne.symm E92.1) ⟨E91.2.1,n19,E91.1,True.intro⟩ eF (news_sub eN (by k_allIn))
  dsimp only [lawA,lawEnv,lawOf,List.drop_succ_cons,List.drop_zero] at key
  refine key _ _ _ PassesOwn.leaving fun h' tk' hk'=>?_
  dsimp only
  refine ⟨.inl ⟨.bool true,.bool true,[],rfl, ?r9, ?d9, ?p9, ?u9⟩,.of_keep hk',rfl,.of_eq ?g9⟩
  case r9=>exact fun _=>rfl
  case d9=>constructor
  case p9=>wrow_post
  case u9=>exact fun _=>⟨List.nodup_nil,fun a h=>nomatch h⟩
  case g9=>assumption
end
end Mine
theorem PySem.Challenge.cw_nu0167_01_holds : PySem.Challenge.rw_nu0167_01.Holds :=
  Mine.law_1
