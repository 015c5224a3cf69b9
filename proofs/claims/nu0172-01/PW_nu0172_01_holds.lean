import PyProof.Rows.All
import Wide.All
import OpenK.AllK
import Wide.FinOn
import KE.BytesMake
import Lean
import PySem.Challenge.RW_nu0172_01
open PySem PySem.W PySem.Calls PyProof.Rows PySem.Spec PySem.Challenge
set_option genInjectivity false
set_option genSizeOf false
set_option linter.all false
set_option compiler.extract_closed false
set_option Elab.async false
set_option maxRecDepth 100000
set_option maxHeartbeats 8000000
namespace Mine
universe u
theorem lR{α:Type u}{a:α}{b:List α}(l:List α)(h:a∈b):a∈l++b:=List.mem_append_right l h
theorem lL{α:Type u}{a:α}{l:List α}(b:List α)(h:a∈l):a∈l++b:=List.mem_append_left b h
theorem lA{α:Type u}{a:α}{l b:List α}(h:a∈l++b):a∈l\/a∈b:=List.mem_append.mp h
theorem lC{α:Type u}{a b:α}{l:List α}(h:a∈b::l):a=b\/a∈l:=List.mem_cons.mp h
theorem lS{α:Type u}{a b:α}(h:a∈ [b]):a=b:=List.mem_singleton.mp h
theorem nLe{n m:Nat}(h:Nat.ble n m=true):n<=m:=Nat.le_of_ble_eq_true h
theorem Ab{n m:Nat}(h:m<=n):n- m+m=n:=Nat.sub_add_cancel h
theorem Ac{n m:Nat}(h:n<=m)(k:m<=n):n=m:=Nat.le_antisymm h k
theorem nTr{n m k:Nat}(h:n<=m)(j:m<=k):n<=k:=Nat.le_trans h j
theorem iTo{a:Int}(h:0<=a):(a.toNat:Int)=a:=Int.toNat_of_nonneg h
theorem sJ{α:Type u}{a b:α}(h:some a=some b):a=b:=Option.some.inj h
theorem hPu{h:Heap}{a:Addr}{b:Obj}(o:Obj)(e:h.get? a=some b):(h.push o).get? a=some b:=Heap.get?_push_of_some o e
noncomputable def Fl:Prop:=∀(M:Model) (A:Around) (s:Shared) (E:Value->Shared->Prop),wpAny M A (pure 1) (λV V=>True) E s
local macro_rules | `(tactic| walk_at "zF")=> `(tactic| (intro M A s E;w_top off;first | walk1 | exact wpAny_pure trivial))
section
theorem no{α:Type u}{a:α}{C:Prop}(h:a∈([]:List α)):C:=nomatch h
theorem nbF{C:Prop}(h:false=true):C:=nomatch h
theorem nbT{C:Prop}(h:true=false):C:=nomatch h
theorem nn{α:Type u}{a:α}{C:Prop}(h:none=some a):C:=nomatch h
theorem nsm{α:Type u}{a:α}{C:Prop}(h:some a=none):C:=nomatch h
theorem ncS{a:Array PySem.Value}{n:Nat}{v:Option PySem.Value}{C:Prop}(h:PySem.Data.seq a n= .cell v):C:=nomatch h
noncomputable def holdIds:List String:= ["bytearray.__contains__","bytearray.__mod__","bytearray.__rmod__","_struct.pack_into.held","bytearray.find.held"]++Builtin.Bytes.decodersThatHold
noncomputable def Bj:Code->Bool
 | .builtin id _=> !holdIds.contains id
 | _=>true
noncomputable def okCtx(Γ:PySem.Ctx):Prop:=Bj Γ.code=true/\∀x∈Γ.below,Bj x.1=true
theorem okCtx.enter(h:okCtx Γ)(hc:Bj c=true)(hd:Option Value)(p:Pos):okCtx (Γ.enter c hd p):=
 ⟨hc,λx hx=>by
  rcases lC hx with rfl | hx
  ·exact h.1
  ·exact h.2 x hx⟩
theorem okCtx.goto(h:okCtx Γ)(hc:Bj c=true):okCtx (Γ.goto c):=⟨hc,h.2⟩
noncomputable def wpR(M:Model)(A:Around)(t:Sem α)(Q:α->Shared->Prop)(E:Value->Shared->Prop)(s:Shared):Prop:=
 ∀Γ p,okCtx Γ->Γ.In A->Sem.wp M Γ t (λa V s'=>Q a s') (λe V s'=>E e s') p s
noncomputable def Ax(M:Model)(A:Around)(c:Code)(R:Result->Shared->Prop)(s:Shared):Prop:=
 ∀Γ p,Γ.code=c->okCtx Γ->Γ.Below A->wpCode M Γ R p s
section
variable {α β:Type}{M:Model}{A:Around}{E:Value->Shared->Prop}{s:Shared}
theorem Av(h:wpAny M A t Q E s):wpR M A t Q E s:=λΓ p V hΓ=>h Γ p hΓ
theorem Ao(h:wpR M A t Q E s)(hQ:∀a s,Q a s->Q' a s)(hE:∀e s,E e s->E' e s):wpR M A t Q' E' s:=
 λΓ p ho hΓ=>Sem.wp_mono M Γ t (λa V s=>hQ a s) (λe V s=>hE e s) p s (h Γ p ho hΓ)
theorem Oj(h:Ax M A c R s)(hR:∀r s,R r s->R' r s):Ax M A c R' s:=
 λΓ p hc ho hΓ=>wpCode_mono hR (h Γ p hc ho hΓ)
theorem An(h:Q a s):wpR M A (pure a) Q E s:=λV V V V=>h
theorem Am(h:wpR M A m (λa s'=>wpR M A (f a) Q E s') E s):wpR M A (m>>=f) Q E s:=λΓ p ho hΓ=>by
 rw [Sem.wp_bind']
 exact Sem.wp_mono M Γ m (λa p' s' h'=>h' Γ p' ho hΓ) (λV V V h'=>h') p s (h Γ p ho hΓ)
theorem Ah(h:wpAny M A m (λa s'=>wpR M A (f a) Q E s') E s):wpR M A (m>>=f) Q E s:=Am (Av h)
theorem Cq(h:wpR M A m Q (λe s'=>wpR M A (k e) (λV s''=>E e s'') E s') s):wpR M A (m.onRaise k) Q E s:=λΓ p ho hΓ=>by
 rw [Sem.wp_onRaise]
 exact Sem.wp_mono M Γ m (λV V V h'=>h') (λe p' s' h'=>h' Γ p' ho hΓ) p s (h Γ p ho hΓ)
theorem Wj{m:Sem α}{Q:Except Value α->Shared->Prop}(h:wpR M A m (λa=>Q (.ok a)) (λe=>Q (.error e)) s):wpR M A m.attempt Q E s:=λΓ p ho hΓ=>by
 rw [Sem.wp_attempt];exact h Γ p ho hΓ
theorem Cp(h:wpR M A m Q E s):wpR M A (holding vs m) Q E s:=λΓ p ho hΓ=>by rw [Sem.wp_holding];exact h Γ p ho hΓ
theorem Mj(h:wpR M A m Q E s):wpR M A (operate vs m) Q E s:=λΓ p ho hΓ=>by rw [Sem.wp_operate];exact h Γ p ho hΓ
theorem Bd(h:wpR M A (f ()) Q E s):wpR M A (standAt pos>>=f) Q E s:=Ah (wpAny_standAt h)
theorem Mk(hok:Bj c=true)
  (hc:Ax M (A.mark h) c (λr s'=>match r with | .ok f=>Q f s' | .error e=>E e s') s)(hnb:h≠some byPass:=by intro x;cases x):wpR M A (run c h) Q E s:=λΓ p ho hΓ=>by
 rw [Sem.wp_run];exact hc _ p rfl (ho.enter hok _ _) (hΓ.enter c h p hnb)
theorem Wn(hok:Bj c=true)
  (hc:Ax M A c (λr s'=>match r with | .ok (.ret v)=>Q v s' | .ok _=>False | .error e=>E e s') s):wpR M A (runValue c) Q E s:=λΓ p ho hΓ=>by
 rw [Sem.wp_runValue];exact hc _ p rfl (ho.enter hok _ _) (hΓ.enter c none p (by intro x;cases x))
theorem Co
  (hc:Ax M A (.call f ⟨pos,kw⟩) (λr s'=>match r with | .ok (.ret v)=>Q v s' | .ok _=>False | .error e=>E e s') s):wpR M A (call f pos kw) Q E s:=Wn rfl hc
theorem Bw
  (h:wpR M (A.under c) (M.den c) (λfin s'=>match fin with | .done f=>R (.ok f) s' | .again c'=>c'.quiet=true/\Bj c'=true/\Ax M A c' R s') (λe s'=>R (.error e) s') s):Ax M A c R s:=λΓ p hc ho hΓ=>by
 rw [wpCode_iff_wp,hc]
 refine Sem.wp_mono M Γ _ (λfin p' s' h'=> ?_) (λV V V h'=>h') p s (h Γ p ho (hc▸hΓ.in))
 cases fin with
 | done f=>exact h'
 | again c'=>exact ⟨h'.1,h'.2.2 (Γ.goto c') p' rfl (ho.goto h'.2.1) (hΓ.goto c')⟩
theorem Wo(hf:∀c p,Bj c=true->f (c,p)=false)(h:Q false s):wpR M A (do return (<-stack).any f) Q E s:=λΓ p ho hΓ=>by
 have e:((Γ.code,p)::Γ.below).any f=false:=by
  rw [List.any_eq_false]
  rintro ⟨c,q⟩ hx
  rcases lC hx with hx | hx
  ·cases hx;rw [hf _ _ ho.1];exact Bool.false_ne_true
  ·rw [hf c q (ho.2 _ hx)];exact Bool.false_ne_true
 show Q (((Γ.code,p)::Γ.below).any f) s
 rw [e];exact h
end
section
variable {M:Model}{A:Around}{E:Value->Shared->Prop}{s:Shared}{env:Env}
noncomputable def Behind(M:Model)(A:Around)(rest:List Stmt)(env:Env)(Q:Flow->Shared->Prop)(E:Value->Shared->Prop):Flow->Shared->Prop
 | .next,s'=>wpR M A (execs rest env) Q E s'
 | f,s'=>Q f s'
theorem Az{st:Stmt}{rest:List Stmt}{Q:Flow->Shared->Prop}(h:wpR M A (exec st env) (Behind M A rest env Q E) E s):wpR M A (execs (st::rest) env) Q E s:=λΓ p ho hΓ=>by
 rw [execs_cons,Sem.wp_bind']
 refine Sem.wp_mono M Γ _ (λf p' s' h'=> ?_) (λV V V h'=>h') _ _ (h Γ p ho hΓ)
 cases f<;>first | exact h' Γ p' ho hΓ | exact h'
theorem Cy(h:Q .next s):wpR M A (execs [] env) Q E s:=λV V V V=>h
theorem La(h:wpAny M A (execs pre env) (Behind M A rest env Q E) E s):wpR M A (execs (pre++rest) env) Q E s:=by
 have key:∀(pre:List Stmt) (Γ:PySem.Ctx) (p:Pos) (s:Shared),okCtx Γ->Γ.In A->Sem.wp M Γ (execs pre env) (λa V s'=>Behind M A rest env Q E a s') (λe V s'=>E e s') p s->
   Sem.wp M Γ (execs (pre++rest) env) (λa V s'=>Q a s') (λe V s'=>E e s') p s:=by
  intro pre
  induction pre with
  | nil=>
   intro Γ p s ho hΓ h
   exact (show wpR M A (execs rest env) Q E s from h) Γ p ho hΓ
  | cons st pre ih=>
   intro Γ p s ho hΓ h
   rw [execs_cons,Sem.wp_bind'] at h
   rw [List.cons_append,execs_cons,Sem.wp_bind']
   refine Sem.wp_mono M Γ _ (λf p' s' h'=> ?_) (λV V V h'=>h') _ _ h
   cases f with
   | next=>exact ih Γ p' s' ho hΓ h'
   | _=>exact h'
 exact λΓ p ho hΓ=>key pre Γ p s ho hΓ (h Γ p hΓ)
theorem Fz(h:wpR M A (eval e env) (λv s'=>wpAny M A (dropValue e pos v) Q E s') E s)(hi:interactive env=false)(hs:swapsWith e none pos.line env=pure false):wpR M A (exec (.Expr e pos) env) Q E s:=by
 rw [exec_Expr _ _ _ hi hs]
 exact Bd (Am (Ao h (λV V z=>Av z) λV V z=>z))
theorem Fy(h:wpR M A (eval value env) (λv s'=>wpAny M A (storeName env x v) (λV s''=>Q .next s'') E s') E s)(hs:swapsWith value (some (.Name x px)) pos.line env=pure false):wpR M A (exec (.Assign [.Name x px] value pos) env) Q E s:=by
 rw [exec_Assign_Name _ _ _ _ _ hs]
 exact Bd (Am (Ao h (λV V z=>Bd (Ah (wpAny_bindName (wpAny_mono z (λV V y=>An y) λV V y=>y)))) λV V z=>z))
theorem rIf(h:wpR M A (isTrue test env (eval test env)) (λb s'=>wpR M A (if b=true then execs body env else execs orelse env) Q E s') E s):wpR M A (exec (.If test body orelse pos) env) Q E s:=by
 rw [exec_If]
 exact Bd (Am h)
theorem Lb(h:wpR M A (eval e env) (λv s'=>Q (.ret v) s') E s):wpR M A (exec (.Return (some e) pos) env) Q E s:=by
 rw [exec_Return_some]
 exact Bd (Am (Ao h (λV V z=>An z) λV V z=>z))
end
end
section
theorem Oc:okCtx ⟨.builtin "claim.caller" {},none,none,[],none⟩:=⟨by show (!holdIds.contains "claim.caller")=true;decide+kernel,λV h=>no h⟩
theorem Wl{prog:Program}{w:World}{t:Sem PySem.Fin}{s:Shared}{R:Result->Shared->Prop}(hreg:s.asleep)
  (h:wpR (model prog w) callerA t (λfin s'=>∃f,fin= .done f/\(R (.ok f) s'/\leftWithCleanup s'.gens=false)) (λe s'=>R (.error e) s'/\leftWithCleanup s'.gens=false) s):
  ∃n r s' s'',runN (denote table) prog w n s ⟨t,.builtin "claim.caller" {},default,[]⟩= .halted (outcomeOf r) s'/\
   schedN (denote table) prog w n (.single s ⟨t,.builtin "claim.caller" {},default,[]⟩)= .halted (outcomeOf r) s'/\s'.forget=s''.forget/\R r s'':=by
 have hw:Sem.wp (model prog w) ⟨.builtin "claim.caller" {},none,none,[],none⟩ t (Sem.finPost (model prog w) ⟨.builtin "claim.caller" {},none,none,[],none⟩ λr s'=>R r s'/\leftWithCleanup s'.gens=false)
   (λe V s'=>R (.error e) s'/\leftWithCleanup s'.gens=false) default s:=
  Sem.wp_mono _ _ _ (λfin p' s' h'=>by obtain ⟨f,rfl,hf⟩:=h';exact hf) (λV V V h'=>h') default s (h _ default Oc caller_in)
 obtain ⟨n,r,s₁,s₂,hs,hn,hfo,hR⟩:=wp_halts_full (M:=model prog w) (R:=R) hreg hw
 exact ⟨n,r,s₂,s₁,hn,hs,hfo,hR⟩
theorem Nu{c:ClaimW}{tree:List Value->Sem PySem.Fin}{w:World}{s s₁:Shared}{kept:Heap->Prop}(hz:s.asleep){args:List WData}{vs:List Value}{ord:List DictEntry->List DictEntry}(hlaid:layAllW c.records (classAt s.heap) w.params ord args s=some (vs,s₁))
  (hcode:wpR (model c.prog w) callerA (tree vs) (λfin s'=>∃f,fin= .done f/\(c.Ends s args vs s₁ (.ok f) s'/\s'.os=s.os/\AllBare s'.gens/\kept s'.heap))
   (λe s'=>c.Ends s args vs s₁ (.error e) s'/\s'.os=s.os/\AllBare s'.gens/\kept s'.heap) s₁):
  ∃k r s',schedN (denote table) c.prog w k (.single s₁ ⟨tree vs,.builtin "claim.caller" {},default,[]⟩)= .halted (outcomeOf r) s'/\c.Ends s args vs s₁ r s'/\kept s'.heap/\s'.heap.life=s.heap.life/\s'.os=s.os:=by
 have hal:=layAllW_rest _ _ _ hlaid
 obtain ⟨k,r,s',s'',hrun,hsched,hfo,hcase,hos,hkp⟩:=Wl (R:=λr s'=>c.Ends s args vs s₁ r s'/\s'.os=s.os/\kept s'.heap) (Shared.asleep_of_life hal.2.2.2 hz)
  (Ao hcode (λfin s' z=>z.imp λf z=>⟨z.1,⟨z.2.1,z.2.2.1,z.2.2.2.2⟩,leftWithCleanup_false_of_bare z.2.2.2.1⟩) λe s' z=>⟨⟨z.1,z.2.1,z.2.2.2⟩,leftWithCleanup_false_of_bare z.2.2.1⟩)
 obtain ⟨eh,_,_,eo,_⟩:=Shared.forget_eq hfo
 exact ⟨k,r,s',hsched,hcase.congr eh,by rw [eh];exact hkp,(runN_life _ _ _ hrun).trans hal.2.2.2,eo.trans hos⟩
theorem Nt{c:ClaimW}{tree:List Value->Sem PySem.Fin}{w:World}{s:Shared}{free:Addr->Prop}{gens:Prop}{kept:Heap->Prop}(hz:s.asleep)(hgens:s.gens= #[])
  (hspec:∀args,c.pre args=true->WData.layableAll args=true->∀ord:List DictEntry->List DictEntry,(∀l,(ord l).Perm l)->
   ∃vs s₁,layAllW c.records (classAt s.heap) w.params ord args s=some (vs,s₁)/\
    wpR (model c.prog w) callerA (tree vs) (λfin s'=>∃f,fin= .done f/\(c.Ends s args vs s₁ (.ok f) s'/\s'.os=s.os/\AllBare s'.gens/\kept s'.heap))
     (λe s'=>c.Ends s args vs s₁ (.error e) s'/\s'.os=s.os/\AllBare s'.gens/\kept s'.heap) s₁):
  c.CallFrom (λvs=>⟨tree vs,.builtin "claim.caller" {},default,[]⟩) w free gens kept s:=λargs hpre hlay ord hord=>
 (hspec args hpre hlay ord hord).imp λV=>Exists.imp λV h=>⟨h.1,(Nu hz h.1 h.2).imp λk z=>z.elim λr z=>z.elim λs' z=>
  ⟨outcomeOf r,s',z.1,z.2.1.imp (Exists.imp λV=>And.imp (congrArg outcomeOf) (And.imp id (And.imp id (And.imp id (And.imp (λd4 b o y V=>d4 b o y) id))))) (Exists.imp λV=>Exists.imp λV=>Exists.imp λV=>And.imp (congrArg outcomeOf) (And.imp id (And.imp id (And.imp id (And.imp id λd5 b o y V=>d5 b o y))))),
   λV i x hx=>by rw [hgens] at hx;exact nn hx,z.2.2.1,congrArg _ z.2.2.2.1,Shared.rest_eq z.2.2.2.2⟩⟩
noncomputable abbrev E7(q:Program)(loose:List Str)(XP:(Str->Option Value)->Heap->Prop)(YP:World->Heap->Prop)(r:RowW)(d:DefRec)(kwd:List (Str×Expr)):Prop:=
 ∀(w:World) (s₀ s₁:Shared) (mg mb:Str->Option Value),Ground q loose r.records XP w s₀ mg mb s₁.heap->YP w s₁.heap->∀(a:Addr) (o:Obj) (pm cd doc dV kV:Value),s₁.heap.get? a=some o->
  o.data= .func {docDef d.name d.params d.body d.scope pm cd doc with defaults:=dV,kwdefaults:=kV}->s₁.heap.CodeRec cd d.name->Dflts mg s₁.heap d.params kwd dV kV->mg d.name=some (.ref a)->s₁.gens= #[]->
  ∀(args:List WData) (vals:List Value) (as:List Addr),r.claim.pre args=true->WData.layableAll args=true->ReadsAllW r.records (classAt s₀.heap) s₁.heap vals args as->WellAll w.params s₁.heap vals args->(∀a∈as,(a==sysModules)=false)->
   wpR (model r.prog w) callerA (PySem.call (.ref a) vals) (λv s'=>GoodWG r.claim (classAt s₀.heap) (ExcName.means s₀.heap) args s₁ (.ok (.ret v)) s')
    (λe s'=>GoodWG r.claim (classAt s₀.heap) (ExcName.means s₀.heap) args s₁ (.error e) s') s₁
theorem Sf{r:OpenRow}{q:Program}{loose:List Str}{XP:(Str->Option Value)->Heap->Prop}{YP:World->Heap->Prop}{d:DefRec}{kwd:List (Str×Expr)}{w:World}{s:Shared}{mg mb:Str->Option Value}(G:Ground q loose r.records XP w s mg mb s.heap)(hgens:s.gens= #[])
  (hXk:∀mg h h',XP mg h->(∀b o,h.get? b=some o->h'.get? b=some o)->XP mg h')(hYk:∀h h',YP w h->(∀b o,h.get? b=some o->h'.get? b=some o)->YP w h')(y:YP w s.heap)(hdef:defOf q r.name=some (d,kwd))(call:E7 q loose XP YP r.toRowW d kwd)
  {args:List WData}(hpre:r.toRowW.claim.pre args=true)(hlay:WData.layableAll args=true){ord:List DictEntry->List DictEntry}(hord:∀l,(ord l).Perm l):
  ∃vs s₁ as f mg,(layAllW r.records (classAt s.heap) w.params ord args s=some (vs,s₁)/\Laid r.records w s s₁ args vs as)/\(∀b o,s.heap.get? b=some o->s₁.heap.get? b=some o)/\s₁.heap.Ns mainNs mg/\mg r.name=some f/\
   wpR (model r.prog w) callerA (PySem.call f vs) (λv s'=>GoodWG r.toRowW.claim (classAt s.heap) (ExcName.means s.heap) args s₁ (.ok (.ret v)) s') (λe s'=>GoodWG r.toRowW.claim (classAt s.heap) (ExcName.means s.heap) args s₁ (.error e) s') s₁:=by
 obtain ⟨⟨vs,s₁⟩,hlaid⟩:=Option.isSome_iff_exists.mp (layAllW_isSome (P:=w.params) (ord:=ord) G.has args r.args s (pre_splitW hpre).1)
 have keeps:=layAllW_keeps _ _ _ hlaid
 have hal:=layAllW_rest _ _ _ hlaid
 obtain ⟨as,hrd,hin,hold⟩:=reads_layAllW hord _ _ _ hlaid hlay s₁.heap (λV V e=>e)
 have L:Laid r.records w s s₁ args vs as:=⟨⟨ord,hord,hlaid⟩,hrd,hin,hold,keeps,hal.1.trans hgens,hal.2.2.1⟩
 have G₁:=G.keeps hXk keeps
 obtain ⟨a,o,pm,cd,doc,dV,kV,h1,h2,h3,h4,h5⟩:=G₁.fn hdef
 exact ⟨vs,s₁,as,_,mg,⟨hlaid,L⟩,keeps,G₁.T.g,h1,call w s s₁ _ _ G₁ (hYk _ _ y keeps) a o pm cd doc dV kV h2 h3 h4 h5 ((congrArg mg (defOf_name hdef)).trans h1) L.gens args vs as hpre hlay L.reads L.well (L.low G.low)⟩
theorem PySem.W.holds_open{r:OpenRow}{q:Program}{loose:List Str}{Xt:Shared->Bool}{XP:(Str->Option Value)->Heap->Prop}{α:Type}{Yf:Shared->α}{Ya:World->α}{YP:World->Heap->Prop}{d:DefRec}{kwd:List (Str×Expr)}{N:Nat}
  (left:LeftO r.prog q loose Xt Yf Ya N)(hY:∀w s,Yf s=Ya w->YP w s.heap)(hYk:∀w h h',YP w h->(∀b o,h.get? b=some o->h'.get? b=some o)->YP w h')
  (hX:∀s,Xt s=true->XP (s.heap.nsMap mainGlobals) s.heap)(hXk:∀mg h h',XP mg h->(∀b o,h.get? b=some o->h'.get? b=some o)->XP mg h')
  (hdef:defOf q r.name=some (d,kwd))(hp:r.prog.theDef r.name=some (d.params,d.body,d.scope))(hk:kwWritten? d.params.kwonlyargs d.params.kw_defaults=some kwd)(hRf:∀s,Xt s=true->RecFacts r.records s.heap)(hwr:(!r.writes||r.records.isEmpty)=true)
  (k1:r.wellSaid=true)(ok:(chainsOk q&&opensWell r.prog&& (frees r.toRowW&&r.within.isEmpty))=true)(hb:r.prog.bare)(hw:r.toRowW.promised)
  (call:E7 q loose XP YP r.toRowW d kwd):r.Holds:=by
 obtain ⟨ok,k5⟩:=Bool.and_eq_true_iff.mp ok
 obtain ⟨hch,o1⟩:=Bool.and_eq_true_iff.mp ok
 obtain ⟨k5,k6⟩:=Bool.and_eq_true_iff.mp k5
 obtain ⟨hsame,hu,ha,hap,hm⟩:=frees_parts k5
 exact ⟨k1,hw,⟨hb,o1,by show r.toRowW.makers.map _= [];rw [hm];rfl⟩,hw.witness,λw=>⟨(left.behind hX hch w).1,λs' hs'=>((left.behind (XP:=λmg h=>XP mg h/\RecFacts r.records h) (λs hs=>⟨hX s hs,hRf s hs⟩) hch w).2 s' hs').imp λs₀ z=>⟨z.1,z.2.1,z.2.2.imp λs z=>
  have G00:=z.2.2.2.2.1
  have G0:Ground q loose [] XP w s (s.heap.nsMap mainGlobals) (s.heap.nsMap builtinsNs) s.heap:=⟨G00.T,G00.B,G00.D,G00.TE,G00.TD,G00.W,G00.X.1,G00.cls,G00.has,G00.apart,G00.once,G00.K⟩
  have RF:=G00.X.2
  have hgens:s.gens= #[]:=Array.eq_empty_of_size_eq_zero (beq_iff_eq.mp z.2.2.1)
  ⟨z.1,λn hn=>by
   obtain rfl:n=r.name:=by split at hn<;>simp_all
   exact pinned_of_view z.2.2.2.1 G0 hdef hp hk,RF.1,RF.2.1,Nt (c:=r.toRowW.claim) (tree:=λvs=>do match<-nsGet mainNs r.name with
   | some f=>do ret (<-_root_.PySem.call f vs)
   | none=>unsupported "claim.caller:no-such-global") z.2.1 hgens λargs hpre hlay ord hord=>
  (Sf (RF.ground G0) hgens hXk (hYk w) (hY w s z.2.2.2.2.2) hdef call hpre hlay hord).imp λvs=>Exists.imp λs₁ y=>y.elim λas y=>y.elim λf y=>y.elim λmg y=>
   ⟨y.1.1,Ah (wpAny_nsGet y.2.2.1 (y.2.2.2.1▸Am (Ao y.2.2.2.2 (λv s' g=>An ⟨_,rfl,(g.laid (c:=r.toRowW.claim) hsame (List.isEmpty_iff.mp k6) (ident_freeW hu ha hap) y.1.2).imp_right (And.imp_right λa=>⟨a,λq=>⟨namesKept_of z.1 z.2.2.2.1 r.keeps y.2.1 g.2.1.old,noTable hwr q⟩⟩)⟩) λe s' g=>(g.laid (c:=r.toRowW.claim) hsame (List.isEmpty_iff.mp k6) (ident_freeW hu ha hap) y.1.2).imp_right (And.imp_right λa=>⟨a,λq=>⟨namesKept_of z.1 z.2.2.2.1 r.keeps y.2.1 g.2.1.old,noTable hwr q⟩⟩))))⟩⟩⟩⟩⟩
end
example:Fl:=by walk_at "zF"
section
namespace Q
theorem q.tw11045825631030874931:True:=⟨⟩
set_option Elab.async true in
theorem q:(PySem.Challenge.rw_nu0172_01.prog.main.body.length==32)=true:=by first | k_qdec | decide+kernel
theorem after:True:=trivial
end Q
theorem only_frag{r:OpenRow}(_H:Hook)(_hw:r.toRowW.promised)(hc:r.Holds):r.Holds:=hc
section
set_option hygiene false in
local macro_rules | `(tactic| o_head $H)=> `(tactic| refine only_frag $H ?hw ?hc)
open_top hd for PySem.Challenge.rw_nu0172_01
end
noncomputable def vw:Program:= {PySem.Challenge.rw_nu0172_01.prog with main:= {PySem.Challenge.rw_nu0172_01.prog.main with body:= [0,2,3,5,6,7,8,9,11,12,13,14,15,16,17,19,20,21,24,25,26,27,28,29,30,31].filterMap λi=>PySem.Challenge.rw_nu0172_01.prog.main.body[i]?}}
noncomputable def seen:List Nat:= [2,3,15,17,18,20,21,22,25,30,31,32,34,35,37,38,39,41,42,44,45,46,47,48,49,52,59,60,61,64,66,67,69,70,71,73,74,76,77,85,86,88,89,91,92,93,95,96,98,99,100,102,103,105,106,107,109,110,112,113,114,116,117,119,120,121,123,124,126,127,128,130,131,133,134,135,137,138,140,141,142,144,145,147,148,149,152,153,154,156,157,159,160,161,162,163,164,165,168,171,172,180,182,183,185,186,187,189,190,192,193,194,196,197,199,200,201,203,204,206,207,208,210,211,213,214,215,217,218,220,221,222,224,225,227,228,229,231,232,234,235,236,238,239,241,242,243,245,246,248,249,250,252,253,255,256,257,258,259,260,261,271,273,274,276,277,278,280,281,283,284,285,287,288,290,291,292,294,295,297,298,299,300,301,302,303,306,308,309,311,312,313,315,316,318,319,320,322,323,325,326,327,329,330,332,333,334,336,337,339,340,341,343,344,346,347,348,349,351,352,354,355,356,358,359,361,362,363,366,367,368,371,372,373,374,376,377,379,380,381,383,384,386,387,388,390,391,393,394,395,397,398,400,401,402,405,406,407,410,411,412,414,415,417,418,419,422,423,424,427,428]
noncomputable def hook:Hook:=kHook hd.heap_39 seen (λV=>by kernel_rfl)
structure Given:Prop where
 it:∀d kwd,defOf vw PySem.Challenge.rw_nu0172_01.row.name=some (d,kwd)->E7 vw [Str.ofString "ShapeError",Str.ofString "write_coverage",Str.ofString "by_glyph"] (XL vw []) hook.says PySem.Challenge.rw_nu0172_01.row.toRowW d kwd
namespace Hd
theorem PySem.W.holds_open{r:OpenRow}{q:Program}{loose:List Str}{Xt:Shared->Bool}{XP:(Str->Option Value)->Heap->Prop}{α:Type}{Yf:Shared->α}{Ya:World->α}{YP:World->Heap->Prop}{d:DefRec}{kwd:List (Str×Expr)}{N:Nat}
  (left:LeftO r.prog q loose Xt Yf Ya N)(hY:∀w s,Yf s=Ya w->YP w s.heap)(hYk:∀w h h',YP w h->(∀b o,h.get? b=some o->h'.get? b=some o)->YP w h')
  (hX:∀s,Xt s=true->XP (s.heap.nsMap mainGlobals) s.heap)(hXk:∀mg h h',XP mg h->(∀b o,h.get? b=some o->h'.get? b=some o)->XP mg h')
  (hdef:defOf q r.name=some (d,kwd))(hp:r.prog.theDef r.name=some (d.params,d.body,d.scope))(hk:kwWritten? d.params.kwonlyargs d.params.kw_defaults=some kwd)(hRf:∀s,Xt s=true->RecFacts r.records s.heap)(hwr:(!r.writes||r.records.isEmpty)=true)
  (k1:r.wellSaid=true)(ok:(chainsOk q&&opensWell r.prog&& (frees r.toRowW&&r.within.isEmpty))=true)(hb:r.prog.bare)(hw:r.toRowW.promised)
  (_hc:True)(walk:E7 q loose XP YP r.toRowW d kwd:=by exact Given.it (by assumption) _ _ rfl):r.Holds:=
 Mine.PySem.W.holds_open left hY hYk hX hXk hdef hp hk hRf hwr k1 ok hb hw walk
end Hd
namespace Hd.hd
theorem tw14155697425258084116:True:=⟨⟩
theorem tw6209602796743082484:True:=⟨⟩
theorem tw1320586299038541130:True:=⟨⟩
theorem tw10631361131268359779:True:=⟨⟩
theorem tw4789355593898165856:True:=⟨⟩
theorem tw10107758845779827081:True:=⟨⟩
theorem tw2919246892684356226:True:=⟨⟩
theorem tw1958905042497711293:True:=⟨⟩
theorem tw16452847767607879123:True:=⟨⟩
theorem tw17586490994283494770:True:=⟨⟩
theorem tw17688426596752956886:True:=⟨⟩
theorem tw4425421726361839412:True:=⟨⟩
theorem tw5989284468878527042:True:=⟨⟩
theorem tw4325419719260830869:True:=⟨⟩
theorem tw12116290064888207949:True:=⟨⟩
theorem tw15842710472934371282:True:=⟨⟩
theorem tw17698236640657712200:True:=⟨⟩
theorem tw1003162128874351357:True:=⟨⟩
theorem tw1960256143970799700:True:=⟨⟩
theorem tw12748044111352863495:True:=⟨⟩
theorem tw4395589161902446519:True:=⟨⟩
theorem tw10562789769080619787:True:=⟨⟩
theorem tw12882190763499350826:True:=⟨⟩
theorem tw7012135457843849580:True:=⟨⟩
theorem tw17695046140312247966:True:=⟨⟩
theorem tw6016950012764125283:True:=⟨⟩
theorem tw18122717596984668729:True:=⟨⟩
theorem tw12445225632967833231:True:=⟨⟩
theorem tw9164146656131127757:True:=⟨⟩
theorem tw13144808507051916650:True:=⟨⟩
theorem tw1286871585932975067:True:=⟨⟩
theorem tw18377878916720459530:True:=⟨⟩
theorem tw521111647115249670:True:=⟨⟩
theorem tw5610275325850550988:True:=⟨⟩
theorem tw16916091784840306155:True:=⟨⟩
theorem tw12710151165221584402:True:=⟨⟩
theorem tw6005870332673410216:True:=⟨⟩
theorem tw5803912572959837761:True:=⟨⟩
theorem tw4690513206285803416:True:=⟨⟩
theorem tw8132281643993073493:True:=⟨⟩
theorem tw9813973690270175616:True:=⟨⟩
theorem tw195656394420080643:True:=⟨⟩
theorem tw10690850513490091446:True:=⟨⟩
theorem tw17999507505054362789:True:=⟨⟩
theorem tw14874405994810413809:True:=⟨⟩
theorem tw6527327850088739910:True:=⟨⟩
theorem tw10151189883410964271:True:=⟨⟩
theorem tw14618117443693431810:True:=⟨⟩
theorem tw9720968628891903621:True:=⟨⟩
theorem tw16602110598139394945:True:=⟨⟩
theorem tw2243039677216648607:True:=⟨⟩
theorem tw18128198304403661277:True:=⟨⟩
theorem tw16093877444178091494:True:=⟨⟩
theorem tw14011357104620514508:True:=⟨⟩
theorem tw15272926585915341867:True:=⟨⟩
theorem tw6560779589328065469:True:=⟨⟩
theorem tw13328435117580718151:True:=⟨⟩
theorem tw16130118202254973160:True:=⟨⟩
theorem tw12634069536748171454:True:=⟨⟩
theorem tw638445792966066276:True:=⟨⟩
theorem tw3754279179032884873:True:=⟨⟩
theorem tw783158805149628396:True:=⟨⟩
theorem tw13744355152362947190:True:=⟨⟩
theorem tw1671321532981375623:True:=⟨⟩
theorem tw12480926984509074017:True:=⟨⟩
theorem tw6684645612817867575:True:=⟨⟩
theorem tw13003178121988353579:True:=⟨⟩
theorem tw781490596561910692:True:=⟨⟩
theorem tw16858473969953374494:True:=⟨⟩
theorem tw6753629984584708200:True:=⟨⟩
theorem tw500500216333497236:True:=⟨⟩
theorem tw3579581567847008287:True:=⟨⟩
theorem tw14822573177299101677:True:=⟨⟩
theorem tw12649528498486202531:True:=⟨⟩
theorem tw13298982015531242681:True:=⟨⟩
theorem tw9791155343840053166:True:=⟨⟩
theorem tw9710843698202361527:True:=⟨⟩
theorem tw5322055375572216767:True:=⟨⟩
theorem tw12053244896017409410:True:=⟨⟩
theorem tw17419672065855864803:True:=⟨⟩
theorem tw17279452765991392201:True:=⟨⟩
theorem tw155812217045598271:True:=⟨⟩
theorem tw9682957130155455405:True:=⟨⟩
theorem tw18391472373529136882:True:=⟨⟩
theorem tw12673176198505774888:True:=⟨⟩
theorem tw9993531394480263981:True:=⟨⟩
theorem tw6378031877755076999:True:=⟨⟩
theorem tw10750913641244144949:True:=⟨⟩
theorem tw5717958247041187021:True:=⟨⟩
theorem tw9205650484896799183:True:=⟨⟩
theorem tw8302006257026060081:True:=⟨⟩
theorem tw6457982344670086452:True:=⟨⟩
theorem tw5430517000227473019:True:=⟨⟩
theorem tw7504760848312880020:True:=⟨⟩
theorem tw16467194480895832732:True:=⟨⟩
theorem tw18404047946466915544:True:=⟨⟩
theorem tw14790166381691947666:True:=⟨⟩
theorem tw1858545449812143239:True:=⟨⟩
theorem tw14448175555773790327:True:=⟨⟩
theorem tw15959166732977882878:True:=⟨⟩
theorem tw6302684395072862938:True:=⟨⟩
theorem tw11560642850863500248:True:=⟨⟩
theorem tw10021778169232582722:True:=⟨⟩
theorem tw4152962245570561058:True:=⟨⟩
theorem tw1517268866730862887:True:=⟨⟩
theorem tw12934392695425897972:True:=⟨⟩
theorem tw9122953645832842353:True:=⟨⟩
theorem tw1783458490220824622:True:=⟨⟩
theorem tw16603861901880798395:True:=⟨⟩
theorem tw9732357500373754973:True:=⟨⟩
theorem tw5756949763560185679:True:=⟨⟩
theorem tw7154246868835405349:True:=⟨⟩
theorem tw9965271977323364033:True:=⟨⟩
theorem tw15385274852009669952:True:=⟨⟩
theorem tw17840890792850359532:True:=⟨⟩
theorem tw9093104056672143142:True:=⟨⟩
theorem tw10913383964311103537:True:=⟨⟩
theorem tw13977015003203153798:True:=⟨⟩
theorem tw117432579380015842:True:=⟨⟩
theorem tw10700801469809853227:True:=⟨⟩
theorem tw6423116192109491621:True:=⟨⟩
theorem tw15221303851605019350:True:=⟨⟩
theorem tw4225863931551836685:True:=⟨⟩
theorem tw8583335926616922928:True:=⟨⟩
theorem tw16410462201991844399:True:=⟨⟩
theorem tw13005680628549217368:True:=⟨⟩
theorem tw5661739516185274092:True:=⟨⟩
theorem tw13315306620150725801:True:=⟨⟩
theorem tw7282614713499851833:True:=⟨⟩
theorem tw7171628819990385180:True:=⟨⟩
theorem tw10771916334020958792:True:=⟨⟩
theorem tw7440759639403377207:True:=⟨⟩
theorem tw17590563268361258569:True:=⟨⟩
theorem tw9065650981275242664:True:=⟨⟩
theorem tw3471007036279035344:True:=⟨⟩
theorem tw8154145065768702537:True:=⟨⟩
theorem tw3048623951076390504:True:=⟨⟩
theorem tw16931111674064605165:True:=⟨⟩
theorem tw12631350914347051034:True:=⟨⟩
theorem tw8671323547683931480:True:=⟨⟩
theorem tw3815020579654970208:True:=⟨⟩
theorem tw12681851000326059062:True:=⟨⟩
theorem tw3126834781824576156:True:=⟨⟩
theorem tw15171269171644612535:True:=⟨⟩
theorem tw18335661377765335064:True:=⟨⟩
theorem tw18062364194736693421:True:=⟨⟩
theorem tw17588923843322609347:True:=⟨⟩
theorem tw16846717064566757950:True:=⟨⟩
theorem tw15559372076280379798:True:=⟨⟩
theorem tw6663942398661511670:True:=⟨⟩
theorem tw10990193570670399261:True:=⟨⟩
theorem tw11046234806270549750:True:=⟨⟩
theorem tw997556483437881552:True:=⟨⟩
theorem tw11121160376858147584:True:=⟨⟩
theorem tw1068409532563250499:True:=⟨⟩
theorem tw2100678639716839567:True:=⟨⟩
theorem tw13112694537323080002:True:=⟨⟩
theorem tw11364381143462378227:True:=⟨⟩
theorem tw10449264011176449528:True:=⟨⟩
theorem tw9227502168696736931:True:=⟨⟩
theorem tw18376213001895837776:True:=⟨⟩
theorem tw14255771083194585715:True:=⟨⟩
theorem tw7622493337824919404:True:=⟨⟩
theorem tw6443880548974409063:True:=⟨⟩
theorem tw4136364594377240074:True:=⟨⟩
theorem tw4093935535730320026:True:=⟨⟩
theorem tw10071653583352184144:True:=⟨⟩
theorem tw8526067313385004131:True:=⟨⟩
theorem tw14840334071014458925:True:=⟨⟩
theorem tw8738070657541570018:True:=⟨⟩
theorem tw9168254986594044381:True:=⟨⟩
theorem tw16584611083455950730:True:=⟨⟩
theorem tw13303165890799628894:True:=⟨⟩
theorem tw15239091669682091756:True:=⟨⟩
theorem tw9865667058206996787:True:=⟨⟩
theorem tw7527135052409094848:True:=⟨⟩
theorem tw17101668285571874992:True:=⟨⟩
theorem tw1325343084186822083:True:=⟨⟩
theorem tw10062165030064545578:True:=⟨⟩
theorem tw5904798018777335150:True:=⟨⟩
theorem tw3607019989671573333:True:=⟨⟩
theorem tw8705414460445846001:True:=⟨⟩
theorem tw16619074718711124639:True:=⟨⟩
theorem tw3322498969797102643:True:=⟨⟩
theorem tw18260537417872590499:True:=⟨⟩
theorem tw15971128113959094753:True:=⟨⟩
theorem tw14166518975314923940:True:=⟨⟩
theorem tw11488125084003134887:True:=⟨⟩
theorem tw8436599522584612823:True:=⟨⟩
theorem tw17141681640517952175:True:=⟨⟩
theorem tw18430503053795986881:True:=⟨⟩
theorem tw6547438094590689710:True:=⟨⟩
theorem tw9881592002288213490:True:=⟨⟩
theorem tw9653637741361318155:True:=⟨⟩
theorem tw16965240150164815603:True:=⟨⟩
theorem tw1425640635831636496:True:=⟨⟩
theorem tw4685827233179917434:True:=⟨⟩
theorem tw5391020953924325808:True:=⟨⟩
theorem tw5130593431687243159:True:=⟨⟩
theorem tw14584135670938572018:True:=⟨⟩
theorem tw6613605014147424704:True:=⟨⟩
theorem tw10674538286365555862:True:=⟨⟩
theorem tw2290666283987781685:True:=⟨⟩
theorem tw4370173934793654074:True:=⟨⟩
theorem tw5597135852979790648:True:=⟨⟩
theorem tw12642543298554705924:True:=⟨⟩
theorem tw12648145647597750097:True:=⟨⟩
theorem tw12072313035220797394:True:=⟨⟩
theorem tw9517408154072461256:True:=⟨⟩
theorem tw3758021761072255704:True:=⟨⟩
theorem tw15725873081753132185:True:=⟨⟩
theorem tw17418629910056973008:True:=⟨⟩
theorem tw5645719538859642425:True:=⟨⟩
theorem tw10210356304427311708:True:=⟨⟩
theorem tw6124321689619658090:True:=⟨⟩
theorem tw14699389760128743815:True:=⟨⟩
theorem tw8375381989783392844:True:=⟨⟩
theorem tw8374543649304305258:True:=⟨⟩
theorem tw14260675812056554767:True:=⟨⟩
theorem tw1233345912956977326:True:=⟨⟩
theorem tw17500614973373791147:True:=⟨⟩
theorem tw6758338760299197792:True:=⟨⟩
theorem tw12007352197574294353:True:=⟨⟩
theorem tw18100889262950250061:True:=⟨⟩
theorem tw9172314466020070056:True:=⟨⟩
theorem tw11565404692947350261:True:=⟨⟩
theorem tw18042418423950185475:True:=⟨⟩
theorem tw6324893004583051475:True:=⟨⟩
theorem tw13647920795550160537:True:=⟨⟩
theorem tw9915464396625114233:True:=⟨⟩
theorem tw4864237951009224187:True:=⟨⟩
theorem tw15086751834759542428:True:=⟨⟩
theorem tw18359951302785162993:True:=⟨⟩
theorem tw15695930560941086953:True:=⟨⟩
theorem tw17973053008778542599:True:=⟨⟩
theorem tw14236932709425868065:True:=⟨⟩
theorem tw14096883599230071582:True:=⟨⟩
theorem tw5102946458920412912:True:=⟨⟩
theorem tw2797693502426835288:True:=⟨⟩
theorem tw14996712200406054780:True:=⟨⟩
theorem tw1403711609039492557:True:=⟨⟩
theorem tw7178012113249415199:True:=⟨⟩
theorem tw6936843121452785257:True:=⟨⟩
theorem tw4905205200432116049:True:=⟨⟩
theorem tw4513517583559275943:True:=⟨⟩
theorem tw15222753088423494344:True:=⟨⟩
theorem tw15314022465067155547:True:=⟨⟩
theorem tw7142811508444013216:True:=⟨⟩
theorem tw8766014641082113135:True:=⟨⟩
theorem tw6426481913525731852:True:=⟨⟩
theorem tw8716022958079735788:True:=⟨⟩
theorem tw14794159458713012961:True:=⟨⟩
theorem tw12646315654360818342:True:=⟨⟩
theorem tw5338049522953212831:True:=⟨⟩
theorem tw17424947625149164534:True:=⟨⟩
theorem tw15313124098677864695:True:=⟨⟩
theorem tw17407958948016398529:True:=⟨⟩
theorem tw9380563756420552751:True:=⟨⟩
theorem tw14725988332684218360:True:=⟨⟩
theorem tw14259216489778116797:True:=⟨⟩
theorem tw12316375958898742862:True:=⟨⟩
theorem tw15043746323521580492:True:=⟨⟩
theorem tw8146385914678835359:True:=⟨⟩
theorem tw6733986026645946471:True:=⟨⟩
theorem tw13107679667643764811:True:=⟨⟩
theorem tw878183186282707018:True:=⟨⟩
theorem tw5182618979345027520:True:=⟨⟩
theorem tw7199422582313475470:True:=⟨⟩
theorem tw1952455110690854429:True:=⟨⟩
theorem tw14296414573097837636:True:=⟨⟩
theorem tw18078689299933152159:True:=⟨⟩
theorem tw5949572061915325672:True:=⟨⟩
theorem tw14601966502466985262:True:=⟨⟩
theorem tw10279084679068506489:True:=⟨⟩
theorem tw12072561897137951393:True:=⟨⟩
theorem tw17375986615860239401:True:=⟨⟩
theorem tw10691403823532781322:True:=⟨⟩
theorem tw9215553527200496077:True:=⟨⟩
theorem tw784233250986625768:True:=⟨⟩
theorem tw7848097889030807758:True:=⟨⟩
theorem tw17345919774499448963:True:=⟨⟩
theorem tw3291760673396555535:True:=⟨⟩
theorem tw8211748958690381053:True:=⟨⟩
theorem tw2467525009313301189:True:=⟨⟩
theorem tw16423933796232720418:True:=⟨⟩
theorem tw3791476438533009921:True:=⟨⟩
theorem tw4763753573212817840:True:=⟨⟩
theorem tw16647338937490771138:True:=⟨⟩
theorem tw9513195514611064084:True:=⟨⟩
theorem tw13373348182713527909:True:=⟨⟩
theorem tw9201134131679576357:True:=⟨⟩
theorem tw5630614553784769255:True:=⟨⟩
theorem tw16191156542656305517:True:=⟨⟩
theorem tw2815060414073306408:True:=⟨⟩
theorem tw4646673461101670249:True:=⟨⟩
theorem tw13558902981068191672:True:=⟨⟩
theorem tw11818554484173494144:True:=⟨⟩
theorem tw14929921770414489399:True:=⟨⟩
theorem tw10430971627889230782:True:=⟨⟩
theorem tw14563376654907777187:True:=⟨⟩
theorem tw8996133888386068842:True:=⟨⟩
theorem tw9616424447479814150:True:=⟨⟩
theorem tw17219496650323634104:True:=⟨⟩
theorem tw4757450149271592312:True:=⟨⟩
theorem tw5763250847896939153:True:=⟨⟩
theorem tw7513861040276983950:True:=⟨⟩
theorem tw6030539962906273068:True:=⟨⟩
theorem tw16466127808892562117:True:=⟨⟩
theorem tw12540794682774967189:True:=⟨⟩
theorem tw8538741634478087209:True:=⟨⟩
theorem tw12424583380100605363:True:=⟨⟩
theorem tw12382402079670055836:True:=⟨⟩
theorem tw14971191775147857081:True:=⟨⟩
theorem tw7121060205179243749:True:=⟨⟩
theorem tw4822254069275605379:True:=⟨⟩
theorem tw2307339665037240000:True:=⟨⟩
theorem tw12825679504059006796:True:=⟨⟩
theorem tw17964669999022918690:True:=⟨⟩
theorem tw4602573235079905964:True:=⟨⟩
theorem tw11747551276526130044:True:=⟨⟩
theorem tw6333257919350084653:True:=⟨⟩
theorem tw2186447437475654649:True:=⟨⟩
theorem tw3793751540724939803:True:=⟨⟩
theorem tw7397306546622120085:True:=⟨⟩
theorem tw6014446396300233037:True:=⟨⟩
theorem tw10883672684346282161:True:=⟨⟩
theorem tw9803971633575575483:True:=⟨⟩
theorem tw2055587010164472191:True:=⟨⟩
theorem tw5799624110247546437:True:=⟨⟩
theorem tw11602666248709229864:True:=⟨⟩
theorem tw3573713878499674943:True:=⟨⟩
theorem tw16250121564178800904:True:=⟨⟩
theorem tw512025336093695416:True:=⟨⟩
theorem tw10723044378866190686:True:=⟨⟩
theorem tw4063484633400611641:True:=⟨⟩
theorem tw11793236435918427196:True:=⟨⟩
theorem tw14370395101025366967:True:=⟨⟩
theorem tw15743086079747588765:True:=⟨⟩
theorem tw8039699349988781840:True:=⟨⟩
theorem tw8258417755880750597:True:=⟨⟩
theorem tw10110831778070598337:True:=⟨⟩
theorem tw3447954820725332207:True:=⟨⟩
theorem tw17724943129370854965:True:=⟨⟩
theorem tw6976606967281593169:True:=⟨⟩
theorem tw2433312677382215783:True:=⟨⟩
theorem tw6733658458478428937:True:=⟨⟩
theorem tw14274833467622175460:True:=⟨⟩
theorem tw14828205730706743075:True:=⟨⟩
theorem tw6593914192949902683:True:=⟨⟩
theorem tw4042714401834258332:True:=⟨⟩
theorem tw11895730756690875094:True:=⟨⟩
theorem tw14976718372876023255:True:=⟨⟩
theorem tw6364421163324150427:True:=⟨⟩
theorem tw18148789807541257563:True:=⟨⟩
theorem tw8699409902801611495:True:=⟨⟩
theorem tw13075851076470511519:True:=⟨⟩
theorem tw9764095760882402568:True:=⟨⟩
theorem tw1374174402131781884:True:=⟨⟩
theorem tw10628785966094129933:True:=⟨⟩
theorem tw7342843647481189854:True:=⟨⟩
theorem tw13707212028714940924:True:=⟨⟩
theorem tw12585272406291851429:True:=⟨⟩
theorem tw2318758864258008825:True:=⟨⟩
theorem tw15604231927603197315:True:=⟨⟩
theorem tw2035876549777892998:True:=⟨⟩
theorem tw14429646022924064934:True:=⟨⟩
theorem tw17981301470251068511:True:=⟨⟩
theorem tw869971021096307332:True:=⟨⟩
theorem tw6619082312003627753:True:=⟨⟩
theorem tw4066123813296343516:True:=⟨⟩
theorem tw361695224932860451:True:=⟨⟩
theorem tw7540490061462480993:True:=⟨⟩
theorem tw10641697616555738193:True:=⟨⟩
theorem tw3228207906260841246:True:=⟨⟩
theorem tw18259425844741602731:True:=⟨⟩
theorem tw1121221303512806913:True:=⟨⟩
theorem tw14125893900892685859:True:=⟨⟩
theorem tw11852603586238126375:True:=⟨⟩
theorem tw10367310293096576831:True:=⟨⟩
theorem tw16238036161651389665:True:=⟨⟩
theorem tw77015565404404001:True:=⟨⟩
theorem tw3795226705351898287:True:=⟨⟩
theorem tw8075568018651887793:True:=⟨⟩
theorem tw3324987773492749542:True:=⟨⟩
theorem tw15330744673445087532:True:=⟨⟩
theorem tw9105771684991720475:True:=⟨⟩
theorem tw4369037620422203159:True:=⟨⟩
theorem tw15234709330711209165:True:=⟨⟩
theorem tw2317613925580085225:True:=⟨⟩
theorem tw9971898372512803796:True:=⟨⟩
theorem tw15736294169342889200:True:=⟨⟩
theorem tw14187379267677953062:True:=⟨⟩
theorem tw1496405836052731381:True:=⟨⟩
end Hd.hd
namespace Hd
set_option Elab.async true in
theorem hd(walk:Given):PySem.Challenge.rw_nu0172_01.Holds:=by
 w_on
 o_law
 o_head hook
 (case hw=>w_witness2)
 (case hc=>trivial)
end Hd
end
example:Fl:=by walk_at "zF"
section
structure Here(w:World)(A:Around)(k:Nat)(h₀:Heap)(L:Addr):Prop where
 ex:∃(p:Program) (loose:List Str) (mean:ExcName->Option Value) (mg mb:Str->Option Value) (env:Env) (outer:List Env) (A₀:Around) (base:Heap),
  Below A₀ base outer h₀/\(hd.heap_39 w.params).In h₀/\Top p loose mean mg mb h₀/\A.handled=none/\A.frames=some (env::outer)/\env.frame=some L/\env.scope.kind= .function/\
  A.depth+k<recursionLimit/\A.units+8*k<cLine
theorem Here.on{w:World}{A:Around}{k:Nat}{h₀:Heap}{L:Addr}(H:Here w A k h₀ L){P:Prop}(z:∀(p:Program) (loose:List Str) (mean:ExcName->Option Value) (mg mb:Str->Option Value) (env:Env) (outer:List Env) (A₀:Around) (base:Heap),Below A₀ base outer h₀->(hd.heap_39 w.params).In h₀->Top p loose mean mg mb h₀->A.handled=none->A.frames=some (env::outer)->env.frame=some L->env.scope.kind= .function->A.depth+k<recursionLimit->A.units+8*k<cLine->P):P:=by
 obtain ⟨p,loose,mean,mg,mb,env,outer,A₀,base,B,X,T,hh,hf,hfr,hke,hd,hu⟩:=H.ex
 exact z p loose mean mg mb env outer A₀ base B X T hh hf hfr hke hd hu
noncomputable def Tel(w:World)(f:Addr)(k:Nat)(args:Args)(mu ro:List (Addr×Obj))(Post:Value->List (Addr×Obj)->List (Addr×Obj)->Prop):Prop:=
 ∀(A:Around) (h₀:Heap) (L:Addr) (m:Str->Option Value) (news:List (Addr×Obj)) (s:Shared) (R:Result->Shared->Prop),
  Here w A k h₀ L->Fr h₀ L s.heap m->News h₀ L s.heap (mu++(ro++news))->(∀p∈ro++news,∀q∈mu,p.1≠q.1)->
  (∀v mu' new h' tk',Fr h₀ L h' m->News h₀ L h' (mu'++(new++(ro++news)))->(∀p∈new,∀q∈mu++ro,q.1<p.1)->(∀p∈new,∀q∈news,p.1≠q.1)->Post v mu' new->
   R (.ok (.ret v)) {s with heap:=h',toks:=tk'})->
  codeAny (model PySem.Challenge.rw_nu0172_01.row.prog w) A (.call (.ref f) args) R s
noncomputable def LeaveT(g:Heap)(L':Addr)(mu ro:List (Addr×Obj))(Post:Value->List (Addr×Obj)->List (Addr×Obj)->Prop)(s:Shared)(v:Value)(s':Shared):Prop:=
 ∃m' mu' new h' tk',s'= {s with heap:=h',toks:=tk'}/\Fr g L' h' m'/\News g L' h' (mu'++(new++ro))/\(∀p∈new,∀q∈mu++ro,q.1<p.1)/\Post v mu' new
theorem Dt
  (F:Fr g L' h' m')(N:News g L' h' big)(hs:∀p∈mu'++(new++ro),p∈big)(hl:∀p∈new,∀q∈mu++ro,q.1<p.1)(hp:Post v mu' new):
  LeaveT g L' mu ro Post s v {s with heap:=h',toks:=tk'}:=⟨m',mu',new,h',tk',rfl,F,λp hp=>N p (hs p hp),hl,hp⟩
noncomputable def Dh(g:Heap)(L':Addr)(mu ro:List (Addr×Obj))(Post:Value->List (Addr×Obj)->List (Addr×Obj)->Prop)(s:Shared)(v:Value)(s':Shared):Prop:=
 ∃m' mu' new h' tk' dr',s'= {s with heap:=h',toks:=tk',drawn:=dr'}/\Fr g L' h' m'/\News g L' h' (mu'++(new++ro))/\(∀p∈new,∀q∈mu++ro,q.1<p.1)/\Post v mu' new
theorem Ds
  (F:Fr g L' h' m')(N:News g L' h' big)(hs:∀p∈mu'++(new++ro),p∈big)(hl:∀p∈new,∀q∈mu++ro,q.1<p.1)(hp:Post v mu' new):
  Dh g L' mu ro Post s v {s with heap:=h',toks:=tk',drawn:=dr'}:=⟨m',mu',new,h',tk',dr',rfl,F,λp hp=>N p (hs p hp),hl,hp⟩
theorem Ge{h₀:Heap}{L:Addr}{m:Str->Option Value}{mu ro news:List (Addr×Obj)}{s s':Shared}{v:Value}{R:Result->Shared->Prop}{Post:Value->List (Addr×Obj)->List (Addr×Obj)->Prop}
  (F:Fr h₀ L s.heap m)(N:News h₀ L s.heap (mu++(ro++news)))(hap:∀p∈ro++news,∀q∈mu,p.1≠q.1)(FG:Fr h₀ L (hideAll s.heap ((mu++ro).map (·.1))) m)(st:h₀.StaysIn (hideAll s.heap ((mu++ro).map (·.1))))
  (hR:∀v mu' new h' tk' dr',Fr h₀ L h' m->News h₀ L h' (mu'++(new++(ro++news)))->(∀p∈new,∀q∈mu++ro,q.1<p.1)->(∀p∈new,∀q∈news,p.1≠q.1)->Post v mu' new->
   R (.ok (.ret v)) {s with heap:=h',toks:=tk',drawn:=dr'})
  (hl:Dh (hideAll s.heap ((mu++ro).map (·.1))) s.heap.objs.size mu ro Post s v s'):R (.ok (.ret v)) s':=by
 obtain ⟨m',mu',new,h',tk',dr',rfl,F',N',hlt,hp⟩:=hl
 obtain ⟨oL,es,ep,hL,hLd,hLk,hLf⟩:=FG.ns
 have keepNews:∀q∈news,h'.get? q.1=some q.2:=by
  intro q hq
  have hq':=N q (lR _ (lR _ hq))
  by_cases hin:q.1∈(mu++ro).map (·.1)
  ·obtain ⟨r,hr,e⟩:=List.mem_map.mp hin
   rcases lA hr with hr | hr
   ·exact absurd e.symm (hap q (lR _ hq) r hr)
   ·have h1:=N r (lR _ (lL _ hr))
    have h2:r.2=q.2:=by
     have:=h1.1;rw [e,hq'.1] at this;exact (sJ this).symm
    have h3:=(N' r (lR _ (lR _ hr))).1
    rw [e,h2] at h3;exact h3
  ·exact F'.keep _ _ (hideAll_get _ hq'.1 hin)
 refine hR _ mu' new h' tk' dr' ⟨⟨oL,es,ep,F'.keep L oL hL,hLd,hLk,hLf⟩,λb o e=>F'.keep b o (st b o e),F.above⟩ (λq hq=> ?_) hlt (λq hq r hr e=> ?_) hp
 ·have inner:∀q∈mu'++(new++ro),h'.get? q.1=some q.2/\q.1≠L/\h₀.get? q.1=none:=λq hq=>by
   have hn:=(N' q hq).2.2
   refine ⟨(N' q hq).1,λe=> ?_,?_⟩
   ·rw [e,hL] at hn;cases hn
   ·cases e:h₀.get? q.1 with
    | none=>rfl
    | some o=>rw [st _ _ e] at hn;cases hn
  rcases lA hq with h | h
  ·exact inner q (lL _ h)
  ·rcases lA h with h | h
   ·exact inner q (lR _ (lL _ h))
   ·rcases lA h with h | h
    ·exact inner q (lR _ (lR _ h))
    ·exact ⟨keepNews q h,(N q (lR _ (lR _ h))).2⟩
 ·have hr':=N r (lR _ (lR _ hr))
  have hq':=(N' q (lR _ (lL _ hq))).2.2
  by_cases hin:r.1∈(mu++ro).map (·.1)
  ·obtain ⟨t,ht,e2⟩:=List.mem_map.mp hin
   exact absurd (e2.trans e.symm) (Nat.ne_of_lt (hlt q hq t ht))
  ·have:=hideAll_get _ hr'.1 hin
   rw [e] at hq'
   rw [hq'] at this;cases this
theorem LeaveT.toD(h:LeaveT g L' mu ro Post s v s'):Dh g L' mu ro Post s v s'/\s'.drawn=s.drawn:=by
 obtain ⟨m',mu',new,h',tk',e,z⟩:=h
 subst e
 exact ⟨⟨m',mu',new,h',tk',s.drawn,rfl,z⟩,rfl⟩
theorem D8{w:World}{f:Addr}{k:Nat}{args:Args}{mu ro:List (Addr×Obj)}{Post:Value->List (Addr×Obj)->List (Addr×Obj)->Prop}
  {name qual:Str}{params:Arguments}{body:List Stmt}{scope:Scope}{dV kV doc pm cdv ct oc:Value}{an od:Option Addr}{osl:Array (Option Value)}{binds:List (Str×Value)}
  (ho:(hd.heap_39 w.params).lookup f=some ⟨oc,od,.func (fnOf name qual params body scope dV kV doc pm an cdv ct),osl⟩)(hcd:codeIn (hd.heap_39 w.params) cdv qual=true)
  (hbind:∀s:Shared,(hd.heap_39 w.params).In s.heap->BindsTo s (fnOf name qual params body scope dV kV doc pm an cdv ct) args binds)(hloc:∀y∈binds,scope.names.lookup y.1=some .local)
  (h:∀(dp un:Nat) (gd:Option (List Code)) (env:Env) (outer:List Env) (base g:Heap) (L':Addr) (h₁:Heap) (p:Program) (loose:List Str) (mean:ExcName->Option Value) (mg mb:Str->Option Value) (s:Shared) (tk:Nat) (R:Result->Shared->Prop),
   dp+k<recursionLimit->un+8*k<cLine->Below {handled:=none,depth:=dp,frames:=some (env::outer),guards:=gd,units:=un} base (env::outer) g->(hd.heap_39 w.params).In g->Top p loose mean mg mb g->
   Fr g L' h₁ (λy=>binds.reverse.lookup y)->News g L' h₁ (mu++ro)->
   wpAny (model PySem.Challenge.rw_nu0172_01.row.prog w) (Around.deeper {handled:=none,depth:=dp,frames:=some (env::outer),guards:=gd,units:=un} (envOf qual scope L' f cdv)) (execs body (envOf qual scope L' f cdv))
    (λfl s'=>LeaveT g L' mu ro Post s (match fl with | .ret v=>v | _=> .none) s')
    (λe s'=>wpAny (model PySem.Challenge.rw_nu0172_01.row.prog w) (Around.deeper {handled:=none,depth:=dp,frames:=some (env::outer),guards:=gd,units:=un} (envOf qual scope L' f cdv)) (leaving (envOf qual scope L' f cdv) e) (λV s''=>R (.error e) s'') (λe' s''=>R (.error e') s'') s')
    {s with heap:=h₁,toks:=tk})
  (hco:scope.isCoroutine=false) (hgen:scope.isGenerator=false) (hk:scope.kind= .function) (hcell:∀x∈scope.names,x.2≠ .cell):Tel w f k args mu ro Post:=by
 intro A h₀ L m news s R H F N hap hR
 refine H.on λp loose mean mg mb env outer A₀ base B X T hh hf hfr hke hd hu=> ?_
 have N1:News h₀ L s.heap (mu++ro):=λq hq=>N q (by
  rcases lA hq with h | h
  ·exact lL _ h
  ·exact lR _ (lL _ h))
 obtain ⟨FG,BG,st,_⟩:=groundX (R:=λV V=>True) B F N1 hf hfr hke
 obtain ⟨hA,dA,fA,gA,uA⟩:=A
 cases hh
 cases hf
 refine codeAny_call_def (fd:=fnOf name qual params body scope dV kV doc pm an cdv ct) (body:=body) (binds:=binds) (by show dA<_;exact Nat.lt_of_le_of_lt (Nat.le_add_right _ _) hd) (F.keep _ _ (X _ _ ho)) rfl (T.nolimit.keeps F.keep) (codeRec_of (X.keeps F.keep) hcd) rfl (hbind s (X.keeps F.keep)) hcell hloc (λh₁ hns hk₁=> ?_) hco hgen hk
 have Fg:Fr (hideAll s.heap ((mu++ro).map (·.1))) s.heap.objs.size h₁ (λy=>binds.reverse.lookup y):=⟨hns,λb o e=>hk₁ b o (of_hideAll _ e),Nat.le_of_eq (hideAll_size _ _)⟩
 have Ng:News (hideAll s.heap ((mu++ro).map (·.1))) s.heap.objs.size h₁ (mu++ro):=λq hq=>⟨hk₁ _ _ (N1 q hq).1,Nat.ne_of_lt (Heap.lt_size (N1 q hq).1),hideAll_none _ (List.mem_map_of_mem hq)⟩
 exact wpAny_mono (h dA uA gA env outer base _ _ h₁ p loose mean mg mb s (s.toks+binds.length) R hd hu BG (X.keeps st) (T.keeps st) Fg Ng) (λfl s' hl=>Ge F N hap FG st (R:=λr s''=>s''.drawn=s.drawn->R r s'') (λv mu' new h' tk' dr' a b c d e hd=>(show dr'=s.drawn from hd)▸hR v mu' new h' tk' a b c d e) hl.toD.1 hl.toD.2) λV V y=>y
theorem Tel.use
  (C:Tel w f k ⟨vs,kw⟩ mu ro Post)(H:Here w A k h₀ L)(F:Fr h₀ L s.heap m)(N:News h₀ L s.heap big)(hs:∀p∈mu++(ro++news),p∈big)(hap:∀p∈ro++news,∀q∈mu,p.1≠q.1)
  (h:∀v mu' new h' tk',Fr h₀ L h' m->News h₀ L h' (mu'++(new++(ro++news)))->(∀p∈new,∀q∈mu++ro,q.1<p.1)->(∀p∈new,∀q∈news,p.1≠q.1)->Post v mu' new->Q v {s with heap:=h',toks:=tk'}):
  wpAny (model PySem.Challenge.rw_nu0172_01.row.prog w) A (call (.ref f) vs kw) Q E s:=
 wpAny_call (C A h₀ L m news s _ H F (λp hp=>N p (hs p hp)) hap λv mu' new h' tk' a b c d e=>h v mu' new h' tk' a b c d e)
inductive Pick{α:Type}:List α->α->List α->Prop
 | here {a:α} {l:List α}:Pick (a::l) a l
 | there {a b:α} {l r:List α}:Pick l a r->Pick (b::l) a (b::r)
theorem Pick.sub(h:Pick l a r):∀p∈a::r,p∈l:=by
 induction h with
 | here=>exact λV h=>h
 | there _ ih=>
  intro p hp
  rcases lC hp with rfl | hp
  ·exact List.mem_cons_of_mem _ (ih _ (.head _))
  ·rcases lC hp with rfl | hp
   ·exact .head _
   ·exact List.mem_cons_of_mem _ (ih _ (.tail _ hp))
theorem Here.of
  (B:Below A₀ base outer h₀)(X:(hd.heap_39 w.params).In h₀)(T:Top p loose mean mg mb h₀)(hh:A.handled=none)(hf:A.frames=some (env::outer))(hfr:env.frame=some L)(hk:env.scope.kind= .function)
  (hd:A.depth+k<recursionLimit)(hu:A.units+8*k<cLine):Here w A k h₀ L:=⟨⟨p,loose,mean,mg,mb,env,outer,A₀,base,B,X,T,hh,hf,hfr,hk,hd,hu⟩⟩
section
variable {w:World}{f:Addr}{k:Nat}{vs:List Value}{kw:List (Str×Value)}{ro:List (Addr×Obj)}{Post:Value->List (Addr×Obj)->List (Addr×Obj)->Prop}
  {A:Around}{h₀:Heap}{L:Addr}{m:Str->Option Value}{rest big:List (Addr×Obj)}{s:Shared}{Q E:Value->Shared->Prop}
theorem Er(N:News h₀ L h (mu'++(new++(ro++rest)))):News h₀ L h (mu'++(new++rest)):=λp hp=>N p (by
 simp only [List.mem_append] at hp ⊢
 rcases hp with h | h | h
 ·exact .inl h
 ·exact .inr (.inl h)
 ·exact .inr (.inr (.inr h)))
theorem Tel.use1(C:Tel w f k ⟨vs,kw⟩ [q] ro Post)(H:Here w A k h₀ L)(F:Fr h₀ L s.heap m)(N:News h₀ L s.heap big)(hp:Pick big q rest)(hro:∀p∈ro,p∈rest)(hap:∀p∈rest,p.1≠q.1)
  (h:∀v mu' new h' tk',Post v mu' new->Fr h₀ L h' m->News h₀ L h' (mu'++(new++rest))->(∀p∈new,∀r∈q::ro,r.1<p.1)->(∀p∈new,∀r∈rest,p.1≠r.1)->Q v {s with heap:=h',toks:=tk'}):
  wpAny (model PySem.Challenge.rw_nu0172_01.row.prog w) A (call (.ref f) vs kw) Q E s:=by
 refine C.use H F N (news:=rest) (λp hp'=>hp.sub p ?_) (λp hp' r hr=> ?_) λv mu' new h' tk' F' N' hl hn hP=>h v mu' new h' tk' hP F' (Er N') hl hn
 ·simp only [List.cons_append,List.nil_append,List.mem_cons,List.mem_append] at hp' ⊢
  rcases hp' with h | h | h
  ·exact .inl h
  ·exact .inr (hro p h)
  ·exact .inr h
 ·rw [List.mem_singleton.mp hr]
  rcases lA hp' with h | h
  ·exact hap p (hro p h)
  ·exact hap p h
theorem Tel.use0(C:Tel w f k ⟨vs,kw⟩ [] ro Post)(H:Here w A k h₀ L)(F:Fr h₀ L s.heap m)(N:News h₀ L s.heap big)(hro:∀p∈ro,p∈big)
  (h:∀v mu' new h' tk',Post v mu' new->Fr h₀ L h' m->News h₀ L h' (mu'++(new++big))->(∀p∈new,∀r∈ro,r.1<p.1)->(∀p∈new,∀r∈big,p.1≠r.1)->Q v {s with heap:=h',toks:=tk'}):
  wpAny (model PySem.Challenge.rw_nu0172_01.row.prog w) A (call (.ref f) vs kw) Q E s:=by
 refine C.use H F N (news:=big) (λp hp'=> ?_) (λp hp' r hr=>no hr) λv mu' new h' tk' F' N' hl hn hP=>h v mu' new h' tk' hP F' (Er N') hl hn
 rcases lA hp' with h | h
 ·cases h
 ·rcases lA h with h | h
  ·exact hro p h
  ·exact h
end
end
section
noncomputable def mN(x:Str)(v:Value)(u:Str->Option Value):Str->Option Value:=λy=>if y=x then some v else u y
section
variable {prog:Program}{w:World}{A:Around}{E:Value->Shared->Prop}{h₁:Heap}{g₁:Array GenState}{d₁:Drawn}{k₁:Nat}{o₁:OsState}{a b:Int}{t u:Tok}{Q:Value->Shared->Prop}
theorem Dq(hq:Q (.int n k₁) ⟨h₁,g₁,d₁,k₁+1,o₁⟩):wpAny M A (eval (.Constant (.int n) kd pos) env) Q E ⟨h₁,g₁,d₁,k₁,o₁⟩:=wpAny_Constant_int hq
theorem Dl(hq:Q (.int (a+b) k₁) ⟨h₁,g₁,d₁,k₁+1,o₁⟩):wpAny (model prog w) A (binaryOp .Add (.int a t) (.int b u)) Q E ⟨h₁,g₁,d₁,k₁,o₁⟩:=add_int hq
theorem D4{M:Model}{h₀:Heap}{L a:Addr}{m:Str->Option Value}{cn:Str}{cs:Scope}{ccd:Value}{cl:List (Str×Addr)}{x:Str}{v:Value}{R:Unit->Shared->Prop}{news:List (Addr×Obj)}(F:Fr h₀ L h₁ m)(N:News h₀ L h₁ news)
  (h:∀h' k',Fr h₀ L h' (mN x v m)->News h₀ L h' news->R () ⟨h',g₁,d₁,k',o₁⟩)
  (hk:cs.kind= .function:=by rfl)(hx:(envX cn cs L a ccd cl).kindOf x=some .local:=by rfl):wpAny M A (storeName (envX cn cs L a ccd cl) x v) R E ⟨h₁,g₁,d₁,k₁,o₁⟩:=
 storeX_L F N (λh'=>h h' _) hk hx
end
end
section
noncomputable def TelD(w:World)(f:Addr)(k:Nat)(args:Args)(mu ro:List (Addr×Obj))(Post:Value->List (Addr×Obj)->List (Addr×Obj)->Prop):Prop:=
 ∀(A:Around) (h₀:Heap) (L:Addr) (m:Str->Option Value) (news:List (Addr×Obj)) (s:Shared) (R:Result->Shared->Prop),
  Here w A k h₀ L->Fr h₀ L s.heap m->News h₀ L s.heap (mu++(ro++news))->(∀p∈ro++news,∀q∈mu,p.1≠q.1)->
  (∀v mu' new h' tk' dr',Fr h₀ L h' m->News h₀ L h' (mu'++(new++(ro++news)))->(∀p∈new,∀q∈mu++ro,q.1<p.1)->(∀p∈new,∀q∈news,p.1≠q.1)->Post v mu' new->
   R (.ok (.ret v)) {s with heap:=h',toks:=tk',drawn:=dr'})->
  codeAny (model PySem.Challenge.rw_nu0172_01.row.prog w) A (.call (.ref f) args) R s
theorem L5
  (ho:(hd.heap_39 w.params).lookup f=some ⟨oc,od,.func (fnOf name qual params body scope dV kV doc pm an cdv ct),osl⟩)(hcd:codeIn (hd.heap_39 w.params) cdv qual=true)
  (hbind:∀s:Shared,(hd.heap_39 w.params).In s.heap->BindsTo s (fnOf name qual params body scope dV kV doc pm an cdv ct) args binds)(hloc:∀y∈binds,scope.names.lookup y.1=some .local)
  (h:∀(dp un:Nat) (gd:Option (List Code)) (env:Env) (outer:List Env) (base g:Heap) (L':Addr) (h₁:Heap) (p:Program) (loose:List Str) (mean:ExcName->Option Value) (mg mb:Str->Option Value) (s:Shared) (tk:Nat) (R:Result->Shared->Prop),
   dp+k<recursionLimit->un+8*k<cLine->Below {handled:=none,depth:=dp,frames:=some (env::outer),guards:=gd,units:=un} base (env::outer) g->(hd.heap_39 w.params).In g->Top p loose mean mg mb g->
   Fr g L' h₁ (λy=>binds.reverse.lookup y)->News g L' h₁ (mu++ro)->
   wpAny (model PySem.Challenge.rw_nu0172_01.row.prog w) (Around.deeper {handled:=none,depth:=dp,frames:=some (env::outer),guards:=gd,units:=un} (envOf qual scope L' f cdv)) (execs body (envOf qual scope L' f cdv))
    (λfl s'=>Dh g L' mu ro Post s (match fl with | .ret v=>v | _=> .none) s')
    (λe s'=>wpAny (model PySem.Challenge.rw_nu0172_01.row.prog w) (Around.deeper {handled:=none,depth:=dp,frames:=some (env::outer),guards:=gd,units:=un} (envOf qual scope L' f cdv)) (leaving (envOf qual scope L' f cdv) e) (λV s''=>R (.error e) s'') (λe' s''=>R (.error e') s'') s')
    {s with heap:=h₁,toks:=tk})
  (hco:scope.isCoroutine=false) (hgen:scope.isGenerator=false) (hk:scope.kind= .function) (hcell:∀x∈scope.names,x.2≠ .cell):TelD w f k args mu ro Post:=by
 intro A h₀ L m news s R H F N hap hR
 refine H.on λp loose mean mg mb env outer A₀ base B X T hh hf hfr hke hd hu=> ?_
 have N1:News h₀ L s.heap (mu++ro):=λq hq=>N q (by
  rcases lA hq with h | h
  ·exact lL _ h
  ·exact lR _ (lL _ h))
 obtain ⟨FG,BG,st,_⟩:=groundX (R:=λV V=>True) B F N1 hf hfr hke
 obtain ⟨hA,dA,fA,gA,uA⟩:=A
 cases hh
 cases hf
 refine codeAny_call_def (fd:=fnOf name qual params body scope dV kV doc pm an cdv ct) (body:=body) (binds:=binds) (by show dA<_;exact Nat.lt_of_le_of_lt (Nat.le_add_right _ _) hd) (F.keep _ _ (X _ _ ho)) rfl (T.nolimit.keeps F.keep) (codeRec_of (X.keeps F.keep) hcd) rfl (hbind s (X.keeps F.keep)) hcell hloc (λh₁ hns hk₁=> ?_) hco hgen hk
 have Fg:Fr (hideAll s.heap ((mu++ro).map (·.1))) s.heap.objs.size h₁ (λy=>binds.reverse.lookup y):=⟨hns,λb o e=>hk₁ b o (of_hideAll _ e),Nat.le_of_eq (hideAll_size _ _)⟩
 have Ng:News (hideAll s.heap ((mu++ro).map (·.1))) s.heap.objs.size h₁ (mu++ro):=λq hq=>⟨hk₁ _ _ (N1 q hq).1,Nat.ne_of_lt (Heap.lt_size (N1 q hq).1),hideAll_none _ (List.mem_map_of_mem hq)⟩
 exact wpAny_mono (h dA uA gA env outer base _ _ h₁ p loose mean mg mb s (s.toks+binds.length) R hd hu BG (X.keeps st) (T.keeps st) Fg Ng) (λfl s' hl=>Ge F N hap FG st hR hl) λV V y=>y
theorem TelD.use
  (C:TelD w f k ⟨vs,kw⟩ mu ro Post)(H:Here w A k h₀ L)(F:Fr h₀ L s.heap m)(N:News h₀ L s.heap big)(hs:∀p∈mu++(ro++news),p∈big)(hap:∀p∈ro++news,∀q∈mu,p.1≠q.1)
  (h:∀v mu' new h' tk' dr',Fr h₀ L h' m->News h₀ L h' (mu'++(new++(ro++news)))->(∀p∈new,∀q∈mu++ro,q.1<p.1)->(∀p∈new,∀q∈news,p.1≠q.1)->Post v mu' new->Q v {s with heap:=h',toks:=tk',drawn:=dr'}):
  wpAny (model PySem.Challenge.rw_nu0172_01.row.prog w) A (call (.ref f) vs kw) Q E s:=
 wpAny_call (C A h₀ L m news s _ H F (λp hp=>N p (hs p hp)) hap λv mu' new h' tk' dr' a b c d e=>h v mu' new h' tk' dr' a b c d e)
section
variable {w:World}{f:Addr}{k:Nat}{vs:List Value}{kw:List (Str×Value)}{ro:List (Addr×Obj)}{Post:Value->List (Addr×Obj)->List (Addr×Obj)->Prop}
  {A:Around}{h₀:Heap}{L:Addr}{m:Str->Option Value}{rest big:List (Addr×Obj)}{s:Shared}{Q E:Value->Shared->Prop}
end
end
section
structure Cd where
 cn:Str
 cs:Scope
 fn:Option Addr
 ccd:Value
noncomputable abbrev P4(cn:Str)(cs:Scope)(fa:Addr)(cc:Value):Cd:=⟨cn,cs,some fa,cc⟩
noncomputable abbrev Cd.env(C:Cd)(L lc:Addr)(cl:List (Str×Addr)):Env:=match C.fn with
 | some a=>envX C.cn C.cs L a C.ccd cl
 | none=> {scope:=C.cs,locals:=lc,globals:=mainGlobals,cells:=cl,qual:=C.cn++".<locals>.",func:=none,code:=C.ccd,frame:=some L,builtins:=builtinsNs}
noncomputable abbrev Loc:=Str->Option Value
noncomputable abbrev Led:=List (Addr×Obj)
noncomputable abbrev mdl(w:World):Model:=model PySem.Challenge.rw_nu0172_01.row.prog w
structure Si(C:Cd)(n:Nat)(w:World) where
 A:Around
 L:Addr
 lc:Addr
 cl:List (Str×Addr)
 h₀:Heap
 g:Array GenState
 o:OsState
 E:Value->Shared->Prop
 own:Led
 H:Here w A n h₀ L
 hE:C.fn.isSome=true->PassesOwn (mdl w) A (C.env L lc cl) E
noncomputable abbrev Si.env{C n w}(S:Si C n w):Env:=C.env S.L S.lc S.cl
noncomputable def isI(n:Int)(v:Value):Prop:=∃t,v= .int n t
noncomputable abbrev Aw(l:Led):Prop:=l.Pairwise λp q=>q.1≠p.1
structure At{C n w}(S:Si C n w)(h:Heap)(m:Loc)(l:Led):Prop where
 F:Fr S.h₀ S.L h m
 N:News S.h₀ S.L h (l++S.own)
 D:Aw l
 O:∀p∈S.own,∀q∈l,p.1≠q.1
inductive U(D:Addr)(o:Obj):Led->(Obj->Led)->Prop
 | head {r:Led}:U D o ((D,o)::r) λo'=>(D,o')::r
 | tail {p:Addr×Obj} {r:Led} {g:Obj->Led}:U D o r g->U D o (p::r) λo'=>p::g o'
structure Ev{C n w}(S:Si C n w)(m:Loc)(l:Led)(e:PySem.Expr)(P:Value->Prop):Prop where
 run:∀h d k (Q:Value->Shared->Prop),At S h m l->(∀v h' k',P v->At S h' m l->Q v ⟨h',S.g,d,k',S.o⟩)->wpAny (mdl w) S.A (eval e S.env) Q S.E ⟨h,S.g,d,k,S.o⟩
structure Bv{C n w}(S:Si C n w)(m:Loc)(l:Led)(e:PySem.Expr)(p:Prop):Prop where
 run:∀h d k (Q:Bool->Shared->Prop),At S h m l->(∀b h' k',(b=true ↔ p)->At S h' m l->Q b ⟨h',S.g,d,k',S.o⟩)->wpAny (mdl w) S.A (PySem.isTrue e S.env (eval e S.env)) Q S.E ⟨h,S.g,d,k,S.o⟩
structure X{C n w}(S:Si C n w)(d:Drawn)(m:Loc)(l:Led)(e:PySem.Expr)(κ:Value->Drawn->Led->Prop):Prop where
 run:∀h k (Q:Value->Shared->Prop),At S h m l->(∀v d' l' h' k',κ v d' l'->At S h' m l'->Q v ⟨h',S.g,d',k',S.o⟩)->wpAny (mdl w) S.A (eval e S.env) Q S.E ⟨h,S.g,d,k,S.o⟩
structure XB{C n w}(S:Si C n w)(d:Drawn)(m:Loc)(l:Led)(e:PySem.Expr)(κ:Prop->Drawn->Led->Prop):Prop where
 run:∀h k (Q:Bool->Shared->Prop),At S h m l->(∀b p d' l' h' k',(b=true ↔ p)->κ p d' l'->At S h' m l'->Q b ⟨h',S.g,d',k',S.o⟩)->wpAny (mdl w) S.A (PySem.isTrue e S.env (eval e S.env)) Q S.E ⟨h,S.g,d,k,S.o⟩
noncomputable def Kont{C n w}(S:Si C n w)(K:Flow->Shared->Prop):List (List Stmt)->Flow->Shared->Prop
 | [],f,s=>K f s
 | r::rs,.next,s=>wpAny (mdl w) S.A (execs r S.env) (Kont S K rs) S.E s
 | _::_,f,s=>K f s
structure W{C n w}(S:Si C n w)(K:Flow->Shared->Prop)(d:Drawn)(m:Loc)(l:Led)(b:List Stmt)(rs:List (List Stmt)):Prop where
 run:∀h k,At S h m l->wpAny (mdl w) S.A (execs b S.env) (Kont S K rs) S.E ⟨h,S.g,d,k,S.o⟩
structure Rt{C n w}(S:Si C n w)(K:Flow->Shared->Prop)(d:Drawn)(l:Led)(v:Value):Prop where
 run:∀h k m,At S h m l->K (.ret v) ⟨h,S.g,d,k,S.o⟩
section
variable {C:Cd}{n:Nat}{w:World}{x:Str}{pos p2:Pos}{e e1 e2 e3:PySem.Expr}{body orelse rest:List Stmt}{rs:List (List Stmt)}{kd:Nat}{S:Si C n w}{K:Flow->Shared->Prop}{d:Drawn}{m:Loc}{l:Led}{a b i:Int}{t:Tok}{v u:Value}{P P1 P2:Value->Prop}{p q:Prop}{κ:Value->Drawn->Led->Prop}{κb:Prop->Drawn->Led->Prop}
theorem Kont.out(h:f≠ .next)(hk:K f s):Kont S K rs f s:=by
 cases rs with
 | nil=>exact hk
 | cons r rs=>cases f<;>first | exact hk | exact absurd rfl h
noncomputable def Af(e:PySem.Expr):Bool:= ![7,8,9,10,22,26].contains e.ctorIdx
theorem Cg(h:Af e=true):swapsWith e t9 ln env=pure false:=by
 cases e<;>first | rfl | exact nbF h
noncomputable def Au(e:PySem.Expr):Bool:= !Nat.beq e.ctorIdx 22
theorem Ad(h:Au e=true):starEach (e::es) env=(false,eval e env)::starEach es env:=by
 cases e<;>first | rfl | exact nbF h
theorem Bz(h:es.all Au=true):((backTo pos (starEach es env)).any λx=>x.fst)=false:=by
 induction es with
 | nil=>rfl
 | cons e es ih=>
  rw [List.all_cons,Bool.and_eq_true] at h
  rw [Ad h.1]
  show (false||_)=false
  exact ih h.2
theorem C6(h:Af e=true):behindInMarks op e=false:=by
 cases e<;>first | rfl | exact nbF h
noncomputable def locOk(C:Cd)(x:Str):Bool:=C.fn.isSome&&C.cs.kind== .function&&C.cs.names.lookup x==some .local&& !(x==Str.ofString "__debug__")
theorem Si.scope{C n w}(S:Si C n w):S.env.scope=C.cs:=by unfold Si.env Cd.env;cases C.fn<;>rfl
theorem locOk.fn(h:locOk C x=true):C.fn.isSome=true:=by
 unfold locOk at h;rw [Bool.and_eq_true,Bool.and_eq_true,Bool.and_eq_true] at h
 exact h.1.1.1
theorem Si.loc{C n w}(S:Si C n w)(h:C.fn.isSome=true):S.env.locals=S.L:=by
 unfold Si.env Cd.env
 revert h
 cases C.fn with
 | none=>exact λh=>nbF h
 | some a=>exact λV=>rfl
theorem locOk.kind(h:locOk C x=true):C.cs.kind= .function:=by
 unfold locOk at h;rw [Bool.and_eq_true,Bool.and_eq_true,Bool.and_eq_true] at h
 have:=h.1.1.2;revert this;cases C.cs.kind<;>first | exact λV=>rfl | exact λh=>nbF h
theorem locOk.look(h:locOk C x=true):C.cs.names.lookup x=some .local:=by
 unfold locOk at h;rw [Bool.and_eq_true,Bool.and_eq_true,Bool.and_eq_true] at h
 have:=h.1.2;revert this;cases C.cs.names.lookup x with
 | none=>exact λh=>nbF h
 | some k=>cases k<;>first | exact λV=>rfl | exact λh=>nbF h
theorem locOk.dbg(h:locOk C x=true):(x==Str.ofString "__debug__")=false:=by
 unfold locOk at h;rw [Bool.and_eq_true] at h
 have:=h.2;revert this;cases (x==Str.ofString "__debug__")<;>first | exact λV=>rfl | exact λh=>nbF h
noncomputable def glbOk(C:Cd)(x:Str):Bool:=C.cs.kind== .function&&C.cs.names.lookup x==some .globalImplicit&& !(x==Str.ofString "__debug__")&& !(x==Str.ofString "__name__")
theorem glbOk.kind(h:glbOk C x=true):C.cs.kind= .function:=by
 unfold glbOk at h;rw [Bool.and_eq_true,Bool.and_eq_true,Bool.and_eq_true] at h
 have:=h.1.1.1;revert this;cases C.cs.kind<;>first | exact λV=>rfl | exact λh=>nbF h
theorem glbOk.look(h:glbOk C x=true):C.cs.names.lookup x=some .globalImplicit:=by
 unfold glbOk at h;rw [Bool.and_eq_true,Bool.and_eq_true,Bool.and_eq_true] at h
 have:=h.1.1.2;revert this;cases C.cs.names.lookup x with
 | none=>exact λh=>nbF h
 | some k=>cases k<;>first | exact λV=>rfl | exact λh=>nbF h
theorem glbOk.dbg(h:glbOk C x=true):(x==Str.ofString "__debug__")=false:=by
 unfold glbOk at h;rw [Bool.and_eq_true,Bool.and_eq_true] at h
 have:=h.1.2;revert this;cases (x==Str.ofString "__debug__")<;>first | exact λV=>rfl | exact λh=>nbF h
theorem glbOk.nm(h:glbOk C x=true):x≠Str.ofString "__name__":=by
 unfold glbOk at h;rw [Bool.and_eq_true] at h
 intro e;rw [e] at h;exact nbF h.2
theorem Ev.mono(h:Ev S m l e P1)(hp:∀v,P1 v->P v):Ev S m l e P:=⟨λh9 d k Q A hq=>h.run h9 d k Q A λv h' k' pv=>hq v h' k' (hp v pv)⟩
theorem Si.kind{C n w}(S:Si C n w):S.env.kindOf x=C.cs.names.lookup x:=by unfold Env.kindOf;rw [S.scope]
theorem Ev.name(hm:m x=some v)(hp:P v)(hk:locOk C x=true:=by exact Eq.refl true):Ev S m l (.Name x pos) P:=
 ⟨λh d k Q A hq=>wpAny_Name (wpAny_loadName_local (by rw [S.scope];exact locOk.kind hk) (S.kind▸locOk.look hk) (S.loc (locOk.fn hk)▸A.F.ns) hm (hq v h k hp A)) (locOk.dbg hk)⟩
theorem Si.store{C n w}{S:Si C n w}{h:Heap}{d:Drawn}{k:Nat}{m:Loc}{l:Led}{x:Str}{v:Value}{R:Unit->Shared->Prop}{E:Value->Shared->Prop}{M:Model}{A9:Around}(A:At S h m l)(hk:locOk C x=true)(z:∀h' k',At S h' (mN x v m) l->R () ⟨h',S.g,d,k',S.o⟩):wpAny M A9 (storeName S.env x v) R E ⟨h,S.g,d,k,S.o⟩:=by
 have hL:=S.loc (locOk.fn hk)
 exact wpAny_storeName_local (S.kind▸locOk.look hk) (hL▸A.F.ns) (λh' hn hs=>z h' _ ⟨A.F.set (hL▸hn) (hL▸hs),A.N.set (hL▸hs),A.D,A.O⟩) (by rw [S.scope,locOk.kind hk];rfl)
theorem Ev.nameI(hm:m x=some (.int a t))(hk:locOk C x=true:=by exact Eq.refl true):Ev S m l (.Name x pos) (isI a):=Ev.name hm ⟨_,rfl⟩ hk
theorem Ev.nameV(hm:m x=some v)(hk:locOk C x=true:=by exact Eq.refl true):Ev S m l (.Name x pos) (· =v):=Ev.name hm rfl hk
theorem Ev.int:Ev S m l (.Constant (.int a) kd pos) (isI a):=⟨λh d k Q A hq=>wpAny_Constant_int (hq _ h _ ⟨_,rfl⟩ A)⟩
theorem Ev.intN:Ev S m l (.UnaryOp .USub (.Constant (.int a) kd pos) p2) (isI (-a)):=⟨λh d k Q A hq=>wpAny_UnaryOp (wpAny_Constant_int (neg_int (hq _ h _ ⟨_,rfl⟩ A)))⟩
theorem Ev.bool:Ev S m l (.Constant (.bool b9) kd pos) (· = .bool b9):=⟨λh d k Q A hq=>wpAny_Constant_bool (hq _ h _ rfl A)⟩
theorem Ev.bin(h1:Ev S m l e1 P1)(h2:Ev S m l e2 P2)
  (ho:∀v1 v2,P1 v1->P2 v2->∀h d k (Q:Value->Shared->Prop),(∀v k',P v->Q v ⟨h,S.g,d,k',S.o⟩)->wpAny (mdl w) S.A (binaryOp op v1 v2) Q S.E ⟨h,S.g,d,k,S.o⟩):Ev S m l (.BinOp e1 op e2 pos) P:=
 ⟨λh d k Q A hq=>wpAny_BinOp (h1.run h d k _ A λv1 h1 k1 p1 A1=>h2.run h1 d k1 _ A1 λv2 h2 k2 p2 A2=>ho v1 v2 p1 p2 h2 d k2 Q λv k' pv=>hq v h2 k' pv A2)⟩
theorem Ev.add(h1:Ev S m l e1 (isI a))(h2:Ev S m l e2 (isI b)):Ev S m l (.BinOp e1 .Add e2 pos) (isI (a+b)):=
 h1.bin h2 λv1 v2 ⟨_,e1⟩ ⟨_,e2⟩ h d k Q hq=>by subst e1 e2;exact add_int (hq _ _ ⟨_,rfl⟩)
theorem Ev.sub(h1:Ev S m l e1 (isI a))(h2:Ev S m l e2 (isI b)):Ev S m l (.BinOp e1 .Sub e2 pos) (isI (a- b)):=
 h1.bin h2 λv1 v2 ⟨_,e1⟩ ⟨_,e2⟩ h d k Q hq=>by subst e1 e2;exact sub_int (hq _ _ ⟨_,rfl⟩)
theorem Ev.mod(h1:Ev S m l e1 (isI a))(h2:Ev S m l e2 (isI b))(hb:0<b):Ev S m l (.BinOp e1 .Mod e2 pos) (isI (a.fmod b)):=
 h1.bin h2 λv1 v2 ⟨_,e1⟩ ⟨_,e2⟩ h d k Q hq=>by subst e1 e2;exact mod_int' (Int.ne_of_gt hb) (hq _ _ ⟨_,rfl⟩)
theorem Ev.div(h1:Ev S m l e1 (isI a))(h2:Ev S m l e2 (isI b))(hb:0<b)(hb':b<=1000000):Ev S m l (.BinOp e1 .FloorDiv e2 pos) (isI (a.fdiv b)):=
 h1.bin h2 λv1 v2 ⟨_,e1⟩ ⟨_,e2⟩ h d k Q hq=>by subst e1 e2;exact floordiv_int (Int.ne_of_gt hb) (hq _ _ ⟨_,rfl⟩) (Or.inl (PyProof.noPylong_small (by omega)))
theorem Ev.mul(h1:Ev S m l e1 (isI a))(h2:Ev S m l e2 (isI b))(hm:IntMulOk a b):Ev S m l (.BinOp e1 .Mult e2 pos) (isI (a*b)):=
 h1.bin h2 λv1 v2 ⟨_,e1⟩ ⟨_,e2⟩ h d k Q hq=>by subst e1 e2;exact mul_int (hq _ _ ⟨_,rfl⟩) hm
theorem Ev.pow(h1:Ev S m l e1 (isI a))(h2:Ev S m l e2 (isI b))(hb:0<=b)(hb':b<=1000000)(ha:a.natAbs<2^64):Ev S m l (.BinOp e1 .Pow e2 pos) (isI (a^b.toNat)):=
 h1.bin h2 λv1 v2 ⟨_,e1⟩ ⟨_,e2⟩ h d k Q hq=>by subst e1 e2;exact pow_int_small hb hb' ha (hq _ _ ⟨_,rfl⟩)
theorem Ev.ite(hb:Bv S m l e p)(h1:p->Ev S m l e1 P)(h2:¬p->Ev S m l e2 P):Ev S m l (.IfExp e e1 e2 pos) P:=
 ⟨λh d k Q A hq=>wpAny_IfExp (hb.run h d k _ A λb h' k1 hi A'=>by
  cases b with
  | true=>exact (h1 (hi.mp rfl)).run h' d k1 Q A' hq
  | false=>exact (h2 λhp=>nbF (hi.mpr hp)).run h' d k1 Q A' hq)⟩
theorem Bv.cmp(h1:Ev S m l e1 P1)(h2:Ev S m l e2 P2)
  (ho:∀v1 v2,P1 v1->P2 v2->∀h d k (Q:Value->Shared->Prop),(∀b,(b=true ↔ p)->Q (.bool b) ⟨h,S.g,d,k,S.o⟩)->wpAny (mdl w) S.A (compareOp op v1 v2) Q S.E ⟨h,S.g,d,k,S.o⟩)(hm:Af e2=true:=by exact Eq.refl true):Bv S m l (.Compare e1 [op] [e2] pos) p:=
 ⟨λh d k Q A hq=>wpAny_isTrue_Compare1 (h1.run h d k _ A λv1 h1 k1 p1 A1=>h2.run h1 d k1 _ A1 λv2 h2 k2 p2 A2=>ho v1 v2 p1 p2 h2 d k2 _ λb hb=>wpAny_truthy_bool (hq b h2 k2 hb A2)) (C6 hm)⟩
theorem Bv.lt(h1:Ev S m l e1 (isI a))(h2:Ev S m l e2 (isI b))(hm:Af e2=true:=by exact Eq.refl true):Bv S m l (.Compare e1 [.Lt] [e2] pos) (a<b):=
 Bv.cmp h1 h2 (λv1 v2 ⟨_,e1⟩ ⟨_,e2⟩ h d k Q hq=>by subst e1 e2;exact lt_int (hq _ decide_eq_true_iff)) hm
theorem Bv.le(h1:Ev S m l e1 (isI a))(h2:Ev S m l e2 (isI b))(hm:Af e2=true:=by exact Eq.refl true):Bv S m l (.Compare e1 [.LtE] [e2] pos) (a<=b):=
 Bv.cmp h1 h2 (λv1 v2 ⟨_,e1⟩ ⟨_,e2⟩ h d k Q hq=>by subst e1 e2;exact le_int (hq _ decide_eq_true_iff)) hm
theorem Bv.gt(h1:Ev S m l e1 (isI a))(h2:Ev S m l e2 (isI b))(hm:Af e2=true:=by exact Eq.refl true):Bv S m l (.Compare e1 [.Gt] [e2] pos) (b<a):=
 Bv.cmp h1 h2 (λv1 v2 ⟨_,e1⟩ ⟨_,e2⟩ h d k Q hq=>by subst e1 e2;exact gt_int (hq _ decide_eq_true_iff)) hm
theorem Bv.ge(h1:Ev S m l e1 (isI a))(h2:Ev S m l e2 (isI b))(hm:Af e2=true:=by exact Eq.refl true):Bv S m l (.Compare e1 [.GtE] [e2] pos) (b<=a):=
 Bv.cmp h1 h2 (λv1 v2 ⟨_,e1⟩ ⟨_,e2⟩ h d k Q hq=>by subst e1 e2;exact ge_int (hq _ decide_eq_true_iff)) hm
theorem Bv.eq(h1:Ev S m l e1 (isI a))(h2:Ev S m l e2 (isI b))(hm:Af e2=true:=by exact Eq.refl true):Bv S m l (.Compare e1 [.Eq] [e2] pos) (a=b):=
 Bv.cmp h1 h2 (λv1 v2 ⟨_,e1⟩ ⟨_,e2⟩ h d k Q hq=>by subst e1 e2;exact eq_int (hq _ decide_eq_true_iff)) hm
theorem Bv.ne(h1:Ev S m l e1 (isI a))(h2:Ev S m l e2 (isI b))(hm:Af e2=true:=by exact Eq.refl true):Bv S m l (.Compare e1 [.NotEq] [e2] pos) (a≠b):=
 Bv.cmp h1 h2 (λv1 v2 ⟨_,e1⟩ ⟨_,e2⟩ h d k Q hq=>by subst e1 e2;exact ne_int (hq _ bne_iff_ne)) hm
theorem Bv.iff(h:Bv S m l e p)(hi:p ↔ q):Bv S m l e q:=⟨λh9 d k Q A hq=>h.run h9 d k Q A λb h' k' hb A'=>hq b h' k' (hb.trans hi) A'⟩
theorem Bv.andNil:Bv S m l (.BoolOp .And [] pos) True:=⟨λh d k Q A hq=>isTrue_and_nil (hq _ _ _ ⟨λV=>trivial,λV=>rfl⟩ A)⟩
theorem Bv.andCons(h1:Bv S m l e p)(h2:p->Bv S m l (.BoolOp .And es pos) q):Bv S m l (.BoolOp .And (e::es) pos) (p/\q):=
 ⟨λh d k Q A hq=>isTrue_and (h1.run h d k _ A λb h1 k1 hi A1=>by
  cases b with
  | true=>exact (h2 (hi.mp rfl)).run h1 d k1 _ A1 λb h2 k2 hj A2=>hq _ _ _ ⟨λe=>⟨hi.mp rfl,hj.mp e⟩,λe=>hj.mpr e.2⟩ A2
  | false=>exact hq _ _ _ ⟨λe=>(Bool.noConfusion e),λe=>hi.mpr e.1⟩ A1)⟩
theorem Bv.and(h1:Bv S m l e1 p)(h2:p->Bv S m l e2 q):Bv S m l (.BoolOp .And [e1,e2] pos) (p/\q):=
 (Bv.andCons h1 λhp=>Bv.andCons (h2 hp) λV=>Bv.andNil).iff ⟨λh=>⟨h.1,h.2.1⟩,λh=>⟨h.1,h.2,trivial⟩⟩
theorem U.map(U9:U D o l g)(o':Obj):(g o').map (·.1)=l.map (·.1):=by
 induction U9 with
 | head=>rfl
 | tail _ ih=>rw [List.map_cons,List.map_cons,ih]
theorem U.mem(U9:U D o l g):(D,o)∈l:=by
 induction U9 with
 | head=>exact .head _
 | tail _ ih=>exact .tail _ ih
theorem Fh(e:l'.map (·.1)=l.map (·.1))(D:Aw l):Aw l':=by
 have h:∀ {l:Led},Aw l ↔ (l.map (·.1)).Pairwise λa b=>b≠a:=λ {l}=>by rw [List.pairwise_map]
 rw [h] at D ⊢;rw [e];exact D
theorem U.updF(U9:U D o l g)(D9:Aw l)(O:∀p∈own,p.1≠D):UpdF D o (l++own) λo'=>g o'++own:=by
 induction U9 with
 | head=>exact .head λp hp=>(lA hp).elim (λh=>(List.pairwise_cons.mp D9).1 p h) (O p)
 | tail U8 ih=>
  have h:=List.pairwise_cons.mp D9
  exact .tail (λe=>h.1 _ U8.mem e.symm) (ih h.2)
theorem At.updF{D:Addr}{o:Obj}{g:Obj->Led}{h:Heap}(A:At S h m l)(U9:U D o l g):UpdF D o (l++S.own) λo'=>g o'++S.own:=U9.updF A.D λp hp=>A.O p hp _ U9.mem
theorem At.upd{D:Addr}{o o':Obj}{g:Obj->Led}{h h':Heap}(A:At S h m l)(U9:U D o l g)(F:Fr S.h₀ S.L h' m)(N:News S.h₀ S.L h' (g o'++S.own)):At S h' m (g o'):=
 ⟨F,N,Fh (U9.map o') A.D,λp hp q hq=>by
  have:q.1∈(g o').map (·.1):=List.mem_map_of_mem hq
  rw [U9.map o'] at this
  obtain ⟨r,hr,e⟩:=List.mem_map.mp this
  exact e▸A.O p hp r hr⟩
theorem At.new{D:Addr}{o:Obj}{h h':Heap}(A:At S h m l)(F:Fr S.h₀ S.L h' m)(N:News S.h₀ S.L h' ((D,o)::(l++S.own)))(hD:∀p∈l++S.own,p.1<D):At S h' m ((D,o)::l):=
 ⟨F,N,List.pairwise_cons.mpr ⟨λp hp=>Nat.ne_of_lt (hD p (lL _ hp)),A.D⟩,λp hp q hq=>(lC hq).elim (λe=>e▸Nat.ne_of_lt (hD p (lR _ hp))) (A.O p hp q)⟩
theorem W.nil(h:W S K d m l r rs):W S K d m l [] (r::rs):=⟨λh9 k A=>wpAny_execs_nil (h.run h9 k A)⟩
theorem W.ite(hb:Bv S m l e p)(h1:p->W S K d m l body (rest::rs))(h2:¬p->W S K d m l orelse (rest::rs)):W S K d m l (.If e body orelse pos::rest) rs:=
 ⟨λh k A=>wpAny_execs_cons (wpAny_If (hb.run h d k _ A λb h' k' hi A'=>by
  have hf:∀f s',Kont S K (rest::rs) f s'->(match f with | Flow.next=>wpAny (mdl w) S.A (execs rest S.env) (Kont S K rs) S.E s' | f=>Kont S K rs f s'):=by
   intro f s' hh
   cases f<;>first | exact hh | exact Kont.out (λh=>nomatch h) hh
  cases b with
  | true=>exact wpAny_mono ((h1 (hi.mp rfl)).run h' k' A') hf λV V z=>z
  | false=>exact wpAny_mono ((h2 λhp=>nbF (hi.mpr hp)).run h' k' A') hf λV V z=>z))⟩
theorem W.assignX(he:X S d m l e λv d' l'=>W S K d' (mN x v m) l' rest rs)(hk:locOk C x=true:=by exact Eq.refl true)(hs:Af e=true:=by exact Eq.refl true):W S K d m l (.Assign [.Name x pos] e p2::rest) rs:=
 ⟨λh9 k A=>wpAny_execs_cons (wpAny_Assign_Name (he.run h9 k _ A λv d' l' h' k' z A'=>Si.store A' hk z.run) (Cg hs))⟩
theorem X.ev(he:Ev S m l e P)(h:∀v,P v->κ v d l):X S d m l e κ:=⟨λh9 k Q A hq=>he.run h9 d k Q A λv h' k' pv A'=>hq v d l h' k' (h v pv) A'⟩
theorem X.evI(he:Ev S m l e (isI a))(h:∀t,κ (.int a t) d l):X S d m l e κ:=X.ev he λ_ ⟨t,e⟩=>e▸h t
theorem X.evV(he:Ev S m l e (· =v))(h:κ v d l):X S d m l e κ:=X.ev he λV e=>e▸h
theorem W.assignI(he:Ev S m l e (isI a))(h:∀t,W S K d (mN x (.int a t) m) l rest rs)(hk:locOk C x=true:=by exact Eq.refl true)(hs:Af e=true:=by exact Eq.refl true):W S K d m l (.Assign [.Name x pos] e p2::rest) rs:=
 W.assignX (X.evI he h) hk hs
theorem W.assignN{N:Int->Prop}(he:Ev S m l e λv=>∃a t,v= .int a t/\N a)(h:∀a t,N a->W S K d (mN x (.int a t) m) l rest rs)(hk:locOk C x=true:=by exact Eq.refl true)(hs:Af e=true:=by exact Eq.refl true):W S K d m l (.Assign [.Name x pos] e p2::rest) rs:=
 W.assignX (X.ev he λ_ ⟨a,t,e,hN⟩=>e▸h a t hN) hk hs
theorem Ev.keepN{N:Int->Prop}(he:Ev S m l e (isI a))(hN:N a):Ev S m l e λv=>∃a t,v= .int a t/\N a:=he.mono λ_ ⟨t,e⟩=>⟨a,t,e,hN⟩
theorem W.retX(he:X S d m l e λv d' l'=>Rt S K d' l' v):W S K d m l (.Return (some e) pos::rest) rs:=
 ⟨λh9 k A=>wpAny_execs_cons (wpAny_Return_some (he.run h9 k _ A λv d' l' h' k' z A'=>Kont.out (λh=>nomatch h) (z.run h' k' m A')))⟩
theorem W.retI(he:Ev S m l e (isI a))(h:∀t,Rt S K d l (.int a t)):W S K d m l (.Return (some e) pos::rest) rs:=W.retX (X.evI he h)
theorem W.retV(he:Ev S m l e (· =v))(h:Rt S K d l v):W S K d m l (.Return (some e) pos::rest) rs:=W.retX (X.evV he h)
theorem W.via{st:Stmt}(Z:(Loc->Drawn->Led->Prop)->Prop)(hJ:Z λm d l=>W S K d m l rest rs)(h:Z (λm d l=>W S K d m l rest rs)->W S K d m l (st::rest) rs):W S K d m l (st::rest) rs:=h hJ
theorem W.drop{b:List Stmt}{l':Led}(hs:∀p∈l',p∈l)(hd:Aw l->Aw l')(h:W S K d m l' b rs):W S K d m l b rs:=
 ⟨λh9 k A=>h.run h9 k ⟨A.F,λp hp=>A.N p ((lA hp).elim (λh=>lL _ (hs p h)) λh=>lR _ h),hd A.D,λp hp q hq=>A.O p hp q (hs q hq)⟩⟩
theorem Rb:mN x v (mN x u m)=mN x v m:=by
 funext y;unfold mN;split<;>rfl
theorem W.twice{b:List Stmt}(h:W S K d (mN x v m) l b rs):W S K d (mN x v (mN x u m)) l b rs:=by rw [Rb];exact h
theorem W.swap{b:List Stmt}{p9 q9:Addr×Obj}(h:W S K d m (q9::p9::l) b rs):W S K d m (p9::q9::l) b rs:=
 h.drop (λp hp=>((List.Perm.swap p9 q9 l).mem_iff).mp hp) λD=>((List.Perm.swap p9 q9 l).pairwise_iff λh e=>h e.symm).mpr D
theorem W.end(h:Rt S K d l .none)(hK:∀s,K (.ret .none) s->K .next s):W S K d m l [] []:=⟨λh9 k A=>wpAny_execs_nil (hK _ (h.run h9 k m A))⟩
theorem W.drop1{b:List Stmt}{p9:Addr×Obj}(h:W S K d m l b rs):W S K d m (p9::l) b rs:=h.drop (λp hp=> .tail _ hp) λD=>(List.pairwise_cons.mp D).2
theorem W.drop2{b:List Stmt}{p9 q9:Addr×Obj}(h:W S K d m (p9::l) b rs):W S K d m (p9::q9::l) b rs:=h.drop1.swap
end
end
example:(λ(_:OpenLaw) (_:Params->Frag)=>True) PySem.Challenge.rw_nu0172_01 hd.heap_39:=by
 k_fill
 trivial
section
noncomputable abbrev fr(w:World):Frag:=hd.heap_39 w.params
structure CX{C n w}(S:Si C n w)(d:Drawn)(m:Loc)(l:Led)(f:Value)(vs:List Value)(κ:Value->Drawn->Led->Prop):Prop where
 run:∀h k (Q:Value->Shared->Prop),At S h m l->(∀v d' l' h' k',κ v d' l'->At S h' m l'->Q v ⟨h',S.g,d',k',S.o⟩)->wpAny (mdl w) S.A (PySem.call f vs) Q S.E ⟨h,S.g,d,k,S.o⟩
structure Fn(x:Str)(f:Value):Prop where
 ns:∀w:World,nsIn (hd.heap_39 w.params) mainGlobals x=some (some f)
 keep:∀w:World,keepIn (hd.heap_39 w.params) f=true
structure Bi(x:Str)(f:Value):Prop where
 ns:∀w:World,nsIn (hd.heap_39 w.params) mainGlobals x=some none
 bi:bootBuiltins x=some f
section
variable {C:Cd}{n:Nat}{w:World}{x:Str}{pos p2 p3:Pos}{e e1 e2 e3:PySem.Expr}{es:List PySem.Expr}{body orelse rest:List Stmt}{rs:List (List Stmt)}{kd:Nat}{S:Si C n w}{K:Flow->Shared->Prop}{d:Drawn}{m:Loc}{l:Led}{a b i:Int}{t:Tok}{v u f:Value}{vs its:List Value}{P P1 P2:Value->Prop}{p q:Prop}{κ:Value->Drawn->Led->Prop}{κb:Prop->Drawn->Led->Prop}{D:Addr}{cN:Nat}{id:String}
theorem Si.gd(S:Si C n w):(fr w).In S.h₀:=by
 exact S.H.on λV V V V V V V V V V X V V V V V V V=>X
theorem Si.top(S:Si C n w):∃p loose mg mb,TopRead p loose mg mb S.h₀:=by
 exact S.H.on λV V V V V V V V V V V T V V V V V V=>⟨_,_,_,_,topRead_of T⟩
theorem Si.hh(S:Si C n w):S.A.handled=none:=by
 exact S.H.on λV V V V V V V V V V V V hh V V V V V=>hh
theorem Si.less(S:Si C n w)(hk:k<=n):Here w S.A k S.h₀ S.L:=by
 refine S.H.on λp loose mean mg mb env outer A₀ base B X T hh hf hfr hke hd hu=> ?_
 exact .of B X T hh hf hfr hke (Nat.lt_of_le_of_lt (Nat.add_le_add_left hk _) hd) (Nat.lt_of_le_of_lt (Nat.add_le_add_left (Nat.mul_le_mul_left 8 hk) _) hu)
theorem At.gd(A:At S h m l):(fr w).In h:=S.gd.keeps A.F.keep
theorem At.N1(A:At S h m l):News S.h₀ S.L h l:=λp hp=>A.N p (lL _ hp)
theorem Si.glob(S:Si C n w):S.env.globals=mainGlobals/\S.env.builtins=builtinsNs:=by unfold Si.env Cd.env;cases C.fn<;>exact ⟨rfl,rfl⟩
theorem Ev.bi(hb:Bi x f)(hx:glbOk C x=true):Ev S m l (.Name x pos) (· =f):=by
 obtain ⟨p,loose,mg,mb,T⟩:=S.top
 exact ⟨λh d k Q A hq=>Name_function_global (by rw [S.scope];exact glbOk.kind hx) (S.kind▸glbOk.look hx) (loadGlobal_builtin (S.glob.1▸T.g.keeps A.F.keep) (mg_none_of S.gd T.g (hb.ns _)) (S.glob.2▸T.b.keeps A.F.keep) ((T.builtins x (glbOk.nm hx)).trans hb.bi) (hq f h k rfl A)) (glbOk.dbg hx)⟩
theorem Ev.gl(hb:Fn x f)(hx:glbOk C x=true):Ev S m l (.Name x pos) (· =f):=by
 obtain ⟨p,loose,mg,mb,T⟩:=S.top
 exact ⟨λh d k Q A hq=>Name_function_global (by rw [S.scope];exact glbOk.kind hx) (S.kind▸glbOk.look hx) (loadGlobal_global (S.glob.1▸T.g.keeps A.F.keep) (mg_of S.gd T.g (hb.ns _)) (hq f h k rfl A)) (glbOk.dbg hx)⟩
noncomputable def P7(S:Si C n w)(m:Loc)(l:Led)(f:Value)(vs:List Value)(P:Value->Prop):Prop:=∀d,CX S d m l f vs λv d' l'=>P v/\d'=d/\l'=l
theorem Bm:eval (.Call (.Name x9 p2) args [] pos) env=(do callWith pos (<-eval (.Name x9 p2) env) [] (backTo pos (starEach args env)) (backToKw pos (keywordEach [] env))):=by rfl
noncomputable def okB(C:Cd)(x:Str)(es:List PySem.Expr):Bool:=glbOk C x&&es.all Au
theorem Bs(h:okB C x es=true):glbOk C x=true:=((Bool.and_eq_true _ _).mp h).1
theorem Aj(h:okB C x es=true):es.all Au=true:=((Bool.and_eq_true _ _).mp h).2
theorem all1(h:(e::es).all Au=true):Au e=true:=by rw [List.all_cons,Bool.and_eq_true] at h;exact h.1
theorem all2(h:(e::es).all Au=true):es.all Au=true:=by rw [List.all_cons,Bool.and_eq_true] at h;exact h.2
theorem X.b1(hb:Bi x (.builtin id))(ha:X S d m l e1 λv1 d1 l1=>CX S d1 m l1 (.builtin id) [v1] κ)(ok:okB C x [e1]=true:=by exact Eq.refl true):X S d m l (.Call (.Name x p2) [e1] [] pos) κ:=
 ⟨λh k Q A hq=>Call_ ((Ev.bi hb (Bs ok)).run h d k _ A λv h1 k1 hv A1=>by
  subst hv
  exact PyProof.Rows.callWith_builtin1 (args_cons (ha.run h1 k1 _ A1 λv1 d1 l1 h2 k2 z A2=>args_nil (z.run h2 k2 Q A2 hq)) (Ad (all1 (Aj ok)))) (Ad (all1 (Aj ok))) (Bz (all2 (Aj ok)))) Bm⟩
theorem X.b2(hb:Bi x (.builtin id))(ha:X S d m l e1 λv1 d1 l1=>X S d1 m l1 e2 λv2 d2 l2=>CX S d2 m l2 (.builtin id) [v1,v2] κ)(ok:okB C x [e1,e2]=true:=by exact Eq.refl true):X S d m l (.Call (.Name x p2) [e1,e2] [] pos) κ:=
 ⟨λh k Q A hq=>Call_ ((Ev.bi hb (Bs ok)).run h d k _ A λv h1 k1 hv A1=>by
  subst hv
  exact PyProof.Rows.callWith_builtin1 (args_cons (ha.run h1 k1 _ A1 λv1 d1 l1 h2 k2 z A2=>args_cons (z.run h2 k2 _ A2 λv2 d2 l2 h3 k3 z3 A3=>args_nil (z3.run h3 k3 Q A3 hq)) (Ad (all1 (all2 (Aj ok))))) (Ad (all1 (Aj ok)))) (Ad (all1 (Aj ok))) (Bz (all2 (Aj ok)))) Bm⟩
theorem X.t1(hb:Bi x (.type id))(ha:X S d m l e1 λv1 d1 l1=>CX S d1 m l1 (.type id) [v1] κ)(ok:okB C x [e1]=true:=by exact Eq.refl true):X S d m l (.Call (.Name x p2) [e1] [] pos) κ:=
 ⟨λh k Q A hq=>Call_ ((Ev.bi hb (Bs ok)).run h d k _ A λv h1 k1 hv A1=>by
  subst hv
  exact PyProof.Rows.callWith_type1 (args_cons (ha.run h1 k1 _ A1 λv1 d1 l1 h2 k2 z A2=>args_nil (z.run h2 k2 Q A2 hq)) (Ad (all1 (Aj ok)))) (Ad (all1 (Aj ok))) (Bz (all2 (Aj ok)))) Bm⟩
theorem X.f1(hb:Fn x f)(ha:X S d m l e1 λv1 d1 l1=>CX S d1 m l1 f [v1] κ)(ok:okB C x [e1]=true:=by exact Eq.refl true):X S d m l (.Call (.Name x p2) [e1] [] pos) κ:=
 ⟨λh k Q A hq=>Call_ ((Ev.gl hb (Bs ok)).run h d k _ A λv h1 k1 hv A1=>by
  subst hv
  exact callWith_K A1.gd (hb.keep _) (args_cons (ha.run h1 k1 _ A1 λv1 d1 l1 h2 k2 z A2=>args_nil ⟨A2.gd,by rw [List.nil_append];exact z.run h2 k2 Q A2 hq⟩) (Ad (all1 (Aj ok)))) (Ad (all1 (Aj ok))) (Bz (all2 (Aj ok)))) Bm⟩
theorem X.f2(hb:Fn x f)(ha:X S d m l e1 λv1 d1 l1=>X S d1 m l1 e2 λv2 d2 l2=>CX S d2 m l2 f [v1,v2] κ)(ok:okB C x [e1,e2]=true:=by exact Eq.refl true):X S d m l (.Call (.Name x p2) [e1,e2] [] pos) κ:=
 ⟨λh k Q A hq=>Call_ ((Ev.gl hb (Bs ok)).run h d k _ A λv h1 k1 hv A1=>by
  subst hv
  exact callWith_K A1.gd (hb.keep _) (args_cons (ha.run h1 k1 _ A1 λv1 d1 l1 h2 k2 z A2=>args_cons (z.run h2 k2 _ A2 λv2 d2 l2 h3 k3 z3 A3=>args_nil ⟨A3.gd,by rw [List.nil_append];exact z3.run h3 k3 Q A3 hq⟩) (Ad (all1 (all2 (Aj ok))))) (Ad (all1 (Aj ok)))) (Ad (all1 (Aj ok))) (Bz (all2 (Aj ok)))) Bm⟩
theorem Ev.b1(hb:Bi x (.builtin id))(ha:Ev S m l e1 P1)(hc:∀v,P1 v->P7 S m l (.builtin id) [v] P)(ok:okB C x [e1]=true:=by exact Eq.refl true):Ev S m l (.Call (.Name x p2) [e1] [] pos) P:=
 ⟨λh d k Q A hq=>(X.b1 (κ:=λv d' l'=>P v/\d'=d/\l'=l) hb (X.ev ha λv pv=>hc v pv d) ok).run h k Q A λv d' l' h' k' ⟨z,e1,e2⟩ A'=>by subst e1 e2;exact hq v h' k' z A'⟩
theorem G4:Bi (Str.ofString "len") (.builtin "len"):=⟨λw=>by k_is,by rfl⟩
theorem Nd:Bi (Str.ofString "abs") (.builtin "abs"):=⟨λw=>by k_is,by rfl⟩
theorem Ja:Bi (Str.ofString "min") (.builtin "min"):=⟨λw=>by k_is,by rfl⟩
theorem Jb:Bi (Str.ofString "sorted") (.builtin "sorted"):=⟨λw=>by k_is,by rfl⟩
theorem G5:Bi (Str.ofString "range") (.type "range"):=⟨λw=>by k_is,by rfl⟩
theorem Fc:Bi (Str.ofString "list") (.type "list"):=⟨λw=>by k_is,by rfl⟩
theorem Ni:Bi (Str.ofString "set") (.type "set"):=⟨λw=>by k_is,by rfl⟩
theorem By:Bi (Str.ofString "tuple") (.type "tuple"):=⟨λw=>by k_is,by rfl⟩
theorem Ev.len(hd:Ev S m l e (· = .ref D))(hm:(D,listOf its.toArray cN)∈l)(hl:its.length<1000000)(ok:okB C (Str.ofString "len") [e]=true:=by exact Eq.refl true):Ev S m l (.Call (.Name (Str.ofString "len") p2) [e] [] pos) (isI its.length):=
 Ev.b1 G4 hd (λv hv d=>⟨λh k Q A hq=>by
  subst hv
  exact Calls.call_len_list (News.isList A.N1 hm) (by rw [List.size_toArray];omega) (hq _ _ _ _ _ ⟨⟨_,rfl⟩,rfl,rfl⟩ A)⟩) ok
theorem Ev.abs(hd:Ev S m l e (isI a))(ok:okB C (Str.ofString "abs") [e]=true:=by exact Eq.refl true):Ev S m l (.Call (.Name (Str.ofString "abs") p2) [e] [] pos) (isI (if a<0 then-a else a)):=
 Ev.b1 Nd hd (λv ⟨t,hv⟩ d=>⟨λh k Q A hq=>by
  subst hv
  exact call_abs_int λu tk=>hq _ _ _ _ _ ⟨⟨_,rfl⟩,rfl,rfl⟩ A⟩) ok
theorem D7(h:Af e=true):subscripted e false (.ref a9) (.int k9 u9)=operate [.ref a9,.int k9 u9] (getItem (.ref a9) (.int k9 u9)):=by
 cases e<;>first | rfl | exact nbF h
theorem Ev.item(hd:Ev S m l e1 (· = .ref D))(hi:Ev S m l e2 (isI i))(hm:(D,listOf its.toArray cN)∈l)(h0:0<=i)(h1:i<2^63)(hv:its[i.toNat]?=some v)(hp:P v)(ok:Af e2=true:=by exact Eq.refl true):Ev S m l (.Subscript e1 e2 pos) P:=
 ⟨λh d k Q A hq=>Subscript_ (hd.run h d k _ A λv1 h1' k1 hv1 A1=>hi.run h1' d k1 _ A1 λv2 h2 k2 hv2 A2=>by
  obtain ⟨u,hv2⟩:=hv2
  subst hv1 hv2
  exact kba_turn (value':=PySem.Expr.Name (Str.ofString "_") ⟨0,0,0,0⟩) (λV=>rfl) (kim_list A2.N1 hm rfl rfl h0 h1 hv (hq v h2 k2 hp A2) (D7 ok) λV=>rfl))⟩
theorem Ev.itemN{j:Nat}(hd:Ev S m l e1 (· = .ref D))(hi:Ev S m l e2 (isI j))(hm:(D,listOf its.toArray cN)∈l)(hv:its[j]?=some v)(hp:P v)(hj:decide (j<100)=true:=by exact Eq.refl true)(ok:Af e2=true:=by exact Eq.refl true):Ev S m l (.Subscript e1 e2 pos) P:=
 Ev.item hd hi hm (Int.natCast_nonneg _) (by have:=of_decide_eq_true hj;omega) hv hp ok
noncomputable def Fv(e:PySem.Expr):Bool:= ![0,1,3,5,15,19].contains e.ctorIdx
theorem Hp(h:Fv e=true):PySem.isTrue e env whole=(do let v<-whole;standAt e.pos;holding [v] (truthy v)):=by
 cases e<;>first | rfl | exact nbF h
theorem Bv.list(hd:Ev S m l e (· = .ref D))(hm:(D,listOf its.toArray cN)∈l)(hl:its.length<1000000)(ok:Fv e=true:=by exact Eq.refl true):Bv S m l e (its≠ []):=
 ⟨λh d k Q A hq=>isTrue_plain (hd.run h d k _ A λv h1 k1 hv A1=>by
  subst hv
  refine wpAny_truthy_list (News.isList A1.N1 hm) (by rw [List.size_toArray];omega) (hq _ _ _ ?_ A1)
  cases its<;>simp) (Hp ok)⟩
theorem Ih(U:UpdF D o l g):∀o',Upd D o o' l (g o'):=by
 induction U with
 | head h=>exact λo'=> .head h
 | tail h _ ih=>exact λo'=> .tail h (ih o')
theorem W.setItem{g:Obj->Led}{q9:Int->Tok->List Value}{N:Int->Prop}(he:Ev S m l e (isI a))(hN:N a)(hd:Ev S m l e1 (· = .ref D))(hi:Ev S m l e2 (isI i))(h0:0<=i)(h1:i<2^63)(U9:U D (listOf its.toArray cN) l g)(hq:∀a t,ki_setL its i.toNat (.int a t)=some (q9 a t))
  (h:∀a t,N a->W S K d m (g (listOf (q9 a t).toArray cN)) rest rs)(ok:Af e=true:=by exact Eq.refl true):W S K d m l (.Assign [.Subscript e1 e2 pos] e p2::rest) rs:=
 ⟨λh9 k A=>wpAny_execs_cons (wpAny_Assign_Subscript (he.run h9 d k _ A λv h1' k1 pv A1=>hd.run h1' d k1 _ A1 λv1 h2 k2 hv1 A2=>hi.run h2 d k2 _ A2 λv2 h3 k3 hv2 A3=>by
  obtain ⟨u,hv2⟩:=hv2
  obtain ⟨t,hv⟩:=pv
  subst hv1 hv2 hv
  exact ki_set A3.F A3.N h0 h1 (hq a t) (Ih (A3.updF U9) _) λh' F' N'=>(h a t hN).run h' k3 (A3.upd U9 F' N')) (Cg ok))⟩
end
end
section
theorem SubL.cons{q:Addr×Obj}{a b:Led}(h:q∈b)(r:∀p∈a,p∈b):∀p∈q::a,p∈b:=λp hp=>(lC hp).elim (λe=>e▸h) (r p)
theorem Ff(ha:Aw a)(hb:Aw b)(h:∀p∈a,∀q∈b,q.1≠p.1):Aw (a++b):=List.pairwise_append.mpr ⟨ha,hb,h⟩
theorem Pick.perm(h:Pick l a r):(a::r).Perm l:=by
 induction h with
 | here=>exact .refl _
 | there _ ih=>exact (List.Perm.swap _ _ _).trans (ih.cons _)
theorem Pick.app{α:Type}{l r:List α}{a:α}(h:Pick l a r)(o:List α):Pick (l++o) a (r++o):=by
 induction h with
 | here=>exact .here
 | there _ ih=>exact .there ih
theorem C4(h:a.Perm b)(D:Aw a):Aw b:=(h.pairwise_iff (λh e=>h e.symm)).mp D
theorem Em{l:List (Str×Value)}(hnd:(l.map (·.1)).Nodup){p:Str×Value}(hp:p∈l):List.lookup p.1 l.reverse=some p.2:=by
 have key:∀ {l:List (Str×Value)},(l.map (·.1)).Nodup->p∈l->List.lookup p.1 l=some p.2:=by
  intro l
  induction l with
  | nil=>exact λV h=>no h
  | cons q r ih=>
   intro hn h
   obtain ⟨q1,q2⟩:=q
   rw [List.map_cons,List.nodup_cons] at hn
   rw [List.lookup_cons]
   rcases lC h with e | h
   ·subst e;rw [beq_self_eq_true]
   ·rw [beq_eq_false_iff_ne.mpr (show p.1≠q1 from λe=>hn.1 (List.mem_map.mpr ⟨p,h,e⟩))];exact ih hn.2 h
 exact key (by rw [List.map_reverse];exact (List.reverse_perm _).nodup_iff.mpr hnd) (List.mem_reverse.mpr hp)
noncomputable def CurM(m:Loc):List (Str×Value)->Prop->Prop
 | [],q=>q
 | (x,v)::r,q=>m x=some v->CurM m r q
theorem CurM.go:∀ {l:List (Str×Value)},CurM m l q->(∀p∈l,m p.1=some p.2)->q
 | [],h,_=>h
 | (_,_)::_,h,hm=>CurM.go (h (hm _ (.head _))) λp hp=>hm p (.tail _ hp)
theorem Bx:∀(l:Led),(∀p∈l,∀q∈l,p.1=q.1->p=q)->∃l',Aw l'/\∀p,p∈l' ↔ p∈l
 | [],_=>⟨[],.nil,λV=>Iff.rfl⟩
 | p::r,h=>by
  obtain ⟨l',D,hm⟩:=Bx r λa ha b hb=>h a (.tail _ ha) b (.tail _ hb)
  by_cases hp:p∈l'
  ·exact ⟨l',D,λq=>⟨λhq=> .tail _ ((hm q).mp hq),λhq=>(lC hq).elim (λe=>e▸hp) λhq=>(hm q).mpr hq⟩⟩
  ·refine ⟨p::l',List.pairwise_cons.mpr ⟨λq hq e=>hp ?_,D⟩,λq=>⟨λhq=>(lC hq).elim (λe=>e▸ .head _) λhq=> .tail _ ((hm q).mp hq),λhq=>(lC hq).elim (λe=>e▸ .head _) λhq=> .tail _ ((hm q).mpr hq)⟩⟩
   rw [<-h q (.tail _ ((hm q).mp hq)) p (.head _) e];exact hq
theorem Bg(N:News b L h l):∀p∈l,∀q∈l,p.1=q.1->p=q:=λp hp q hq e=>by
 have h1:=(N p hp).1
 rw [e,(N q hq).1] at h1
 obtain ⟨p1,p2⟩:=p;obtain ⟨q1,q2⟩:=q
 cases e;cases h1;rfl
theorem De{w:World}{f:Addr}{j:Nat}{args:Args}{ro:Led}{Post:Value->Led->Led->Prop}{q:Addr×Obj}
  {name qual:Str}{params:Arguments}{body:List Stmt}{scope:Scope}{dV kV doc pm cdv ct oc:Value}{an od:Option Addr}{osl:Array (Option Value)}(binds:List (Str×Value))
  (ho:(hd.heap_39 w.params).lookup f=some ⟨oc,od,.func (fnOf name qual params body scope dV kV doc pm an cdv ct),osl⟩)(hcd:codeIn (hd.heap_39 w.params) cdv qual=true)
  (hbind:∀s:Shared,(hd.heap_39 w.params).In s.heap->BindsTo s (fnOf name qual params body scope dV kV doc pm an cdv ct) args binds)(hloc:∀y∈binds,scope.names.lookup y.1=some .local)(hnd:decide (binds.map (·.1)).Nodup=true)(hap:∀p∈ro,p.1≠q.1)
  (h:∀(S:Si ⟨qual,scope,some f,cdv⟩ j w) (K:Flow->Shared->Prop) (d:Drawn) (m:Loc) (l₁:Led),CurM m binds ((∀p∈ro,p∈l₁)->
   (∀v o new l,Post v [(q.1,o)] new->(∀p∈new,q.1<p.1/\∀r∈l₁,r.1<p.1)->(∀p∈(q.1,o)::(new++l₁),p∈l)->Rt S K d l v)->(∀s,K (.ret .none) s->K .next s)->
   W S K d m (q::l₁) body []))
  (hco:scope.isCoroutine=false) (hgen:scope.isGenerator=false) (hk:scope.kind= .function) (hcell:∀x∈scope.names,x.2≠ .cell):Tel w f (j+1) args [q] ro Post:=by
 refine D8 ho hcd hbind hloc (λdp un gd env outer base g L' h₁ p loose mean mg mb s tk R hd hu B X T F N=> ?_) hco hgen hk hcell
 have Nr:News g L' h₁ ro:=λp hp=>N p (lR _ hp)
 obtain ⟨l₁,hD,hm⟩:=Bx ro (Bg Nr)
 have hbs:∀p∈binds,(λy=>List.lookup y binds.reverse) p.1=some p.2:=λp hp=>Em (of_decide_eq_true hnd) hp
 refine (CurM.go (h {A:=_,L:=L',lc:=L',cl:= [],h₀:=g,g:=s.gens,o:=s.os,E:=_,own:= [],H:=Here.of B X T rfl rfl rfl hk ?_ ?_,hE:= ?_} _ s.drawn _ l₁) hbs (λp hp=>(hm p).mpr hp) ?_ λV z=>z).run h₁ tk ⟨F,λp hp=> ?_,?_,λp hp=>no hp⟩
 ·show dp+1+j<_;omega
 ·show un+3+8*j<_;omega
 ·intro _
  passes_own
 ·intro v o new l hp hl hs
  refine ⟨λh k m A=> ?_⟩
  have N':=A.N
  rw [List.append_nil] at N'
  exact Dt (mu':= [(q.1,o)]) (new:=new) A.F N' (λp hp=>hs p ((lA hp).elim (λe=>lS e▸ .head _) λhp=> .tail _ ((lA hp).elim (lL _) λhp=>lR _ ((hm p).mpr hp)))) (λp hp r hr=>(lA hr).elim (λe=>lS e▸(hl p hp).1) λhr=>(hl p hp).2 r ((hm r).mpr hr)) hp
 ·rw [List.append_nil] at hp
  exact (lC hp).elim (λe=>e▸N _ (.head _)) λhp=>Nr p ((hm p).mp hp)
 ·exact List.pairwise_cons.mpr ⟨λp hp=>hap p ((hm p).mp hp),hD⟩
theorem Cn{w:World}{f:Addr}{j:Nat}{args:Args}{ro:Led}{Post:Value->Led->Led->Prop}
  {name qual:Str}{params:Arguments}{body:List Stmt}{scope:Scope}{dV kV doc pm cdv ct oc:Value}{an od:Option Addr}{osl:Array (Option Value)}(binds:List (Str×Value))
  (ho:(hd.heap_39 w.params).lookup f=some ⟨oc,od,.func (fnOf name qual params body scope dV kV doc pm an cdv ct),osl⟩)(hcd:codeIn (hd.heap_39 w.params) cdv qual=true)
  (hbind:∀s:Shared,(hd.heap_39 w.params).In s.heap->BindsTo s (fnOf name qual params body scope dV kV doc pm an cdv ct) args binds)(hloc:∀y∈binds,scope.names.lookup y.1=some .local)(hnd:decide (binds.map (·.1)).Nodup=true)
  (h:∀(S:Si ⟨qual,scope,some f,cdv⟩ j w) (K:Flow->Shared->Prop) (d:Drawn) (m:Loc) (l₁:Led),CurM m binds ((∀p∈ro,p∈l₁)->
   (∀v new l,Post v [] new->(∀p∈new,∀r∈l₁,r.1<p.1)->(∀p∈(new++l₁),p∈l)->Rt S K d l v)->(∀s,K (.ret .none) s->K .next s)->
   W S K d m (l₁) body []))
  (hco:scope.isCoroutine=false) (hgen:scope.isGenerator=false) (hk:scope.kind= .function) (hcell:∀x∈scope.names,x.2≠ .cell):Tel w f (j+1) args [] ro Post:=by
 refine D8 ho hcd hbind hloc (λdp un gd env outer base g L' h₁ p loose mean mg mb s tk R hd hu B X T F N=> ?_) hco hgen hk hcell
 have Nr:News g L' h₁ ro:=λp hp=>N p (lR _ hp)
 obtain ⟨l₁,hD,hm⟩:=Bx ro (Bg Nr)
 have hbs:∀p∈binds,(λy=>List.lookup y binds.reverse) p.1=some p.2:=λp hp=>Em (of_decide_eq_true hnd) hp
 refine (CurM.go (h {A:=_,L:=L',lc:=L',cl:= [],h₀:=g,g:=s.gens,o:=s.os,E:=_,own:= [],H:=Here.of B X T rfl rfl rfl hk ?_ ?_,hE:= ?_} _ s.drawn _ l₁) hbs (λp hp=>(hm p).mpr hp) ?_ λV z=>z).run h₁ tk ⟨F,λp hp=> ?_,?_,λp hp=>no hp⟩
 ·show dp+1+j<_;omega
 ·show un+3+8*j<_;omega
 ·intro _
  passes_own
 ·intro v new l hp hl hs
  refine ⟨λh k m A=> ?_⟩
  have N':=A.N
  rw [List.append_nil] at N'
  exact Dt (mu':= []) (new:=new) A.F N' (λp hp=>hs p ((lA (show p∈new++ro from hp)).elim (lL _) λhp=>lR _ ((hm p).mpr hp))) (λp hp r hr=>hl p hp r ((hm r).mpr hr)) hp
 ·rw [List.append_nil] at hp
  exact Nr p ((hm p).mp hp)
 ·exact hD
theorem Uz{w:World}{f:Addr}{j:Nat}{args:Args}{ro:Led}{Post:Value->Led->Led->Prop}{q:Addr×Obj}
  {name qual:Str}{params:Arguments}{body:List Stmt}{scope:Scope}{dV kV doc pm cdv ct oc:Value}{an od:Option Addr}{osl:Array (Option Value)}(binds:List (Str×Value))
  (ho:(hd.heap_39 w.params).lookup f=some ⟨oc,od,.func (fnOf name qual params body scope dV kV doc pm an cdv ct),osl⟩)(hcd:codeIn (hd.heap_39 w.params) cdv qual=true)
  (hbind:∀s:Shared,(hd.heap_39 w.params).In s.heap->BindsTo s (fnOf name qual params body scope dV kV doc pm an cdv ct) args binds)(hloc:∀y∈binds,scope.names.lookup y.1=some .local)(hnd:decide (binds.map (·.1)).Nodup=true)(hap:∀p∈ro,p.1≠q.1)
  (h:∀(S:Si ⟨qual,scope,some f,cdv⟩ j w) (K:Flow->Shared->Prop) (d:Drawn) (m:Loc) (l₁:Led),CurM m binds ((∀p∈ro,p∈l₁)->
   (∀v d o new l,Post v [(q.1,o)] new->(∀p∈new,q.1<p.1/\∀r∈l₁,r.1<p.1)->(∀p∈(q.1,o)::(new++l₁),p∈l)->Rt S K d l v)->(∀s,K (.ret .none) s->K .next s)->
   W S K d m (q::l₁) body []))
  (hco:scope.isCoroutine=false) (hgen:scope.isGenerator=false) (hk:scope.kind= .function) (hcell:∀x∈scope.names,x.2≠ .cell):TelD w f (j+1) args [q] ro Post:=by
 refine L5 ho hcd hbind hloc (λdp un gd env outer base g L' h₁ p loose mean mg mb s tk R hd hu B X T F N=> ?_) hco hgen hk hcell
 have Nr:News g L' h₁ ro:=λp hp=>N p (lR _ hp)
 obtain ⟨l₁,hD,hm⟩:=Bx ro (Bg Nr)
 have hbs:∀p∈binds,(λy=>List.lookup y binds.reverse) p.1=some p.2:=λp hp=>Em (of_decide_eq_true hnd) hp
 refine (CurM.go (h {A:=_,L:=L',lc:=L',cl:= [],h₀:=g,g:=s.gens,o:=s.os,E:=_,own:= [],H:=Here.of B X T rfl rfl rfl hk ?_ ?_,hE:= ?_} _ s.drawn _ l₁) hbs (λp hp=>(hm p).mpr hp) ?_ λV z=>z).run h₁ tk ⟨F,λp hp=> ?_,?_,λp hp=>no hp⟩
 ·show dp+1+j<_;omega
 ·show un+3+8*j<_;omega
 ·intro _
  passes_own
 ·intro v d o new l hp hl hs
  refine ⟨λh k m A=> ?_⟩
  have N':=A.N
  rw [List.append_nil] at N'
  exact Ds (mu':= [(q.1,o)]) (new:=new) A.F N' (λp hp=>hs p ((lA hp).elim (λe=>lS e▸ .head _) λhp=> .tail _ ((lA hp).elim (lL _) λhp=>lR _ ((hm p).mpr hp)))) (λp hp r hr=>(lA hr).elim (λe=>lS e▸(hl p hp).1) λhr=>(hl p hp).2 r ((hm r).mpr hr)) hp
 ·rw [List.append_nil] at hp
  exact (lC hp).elim (λe=>e▸N _ (.head _)) λhp=>Nr p ((hm p).mp hp)
 ·exact List.pairwise_cons.mpr ⟨λp hp=>hap p ((hm p).mp hp),hD⟩
theorem Uy{w:World}{f:Addr}{j:Nat}{args:Args}{ro:Led}{Post:Value->Led->Led->Prop}
  {name qual:Str}{params:Arguments}{body:List Stmt}{scope:Scope}{dV kV doc pm cdv ct oc:Value}{an od:Option Addr}{osl:Array (Option Value)}(binds:List (Str×Value))
  (ho:(hd.heap_39 w.params).lookup f=some ⟨oc,od,.func (fnOf name qual params body scope dV kV doc pm an cdv ct),osl⟩)(hcd:codeIn (hd.heap_39 w.params) cdv qual=true)
  (hbind:∀s:Shared,(hd.heap_39 w.params).In s.heap->BindsTo s (fnOf name qual params body scope dV kV doc pm an cdv ct) args binds)(hloc:∀y∈binds,scope.names.lookup y.1=some .local)(hnd:decide (binds.map (·.1)).Nodup=true)
  (h:∀(S:Si ⟨qual,scope,some f,cdv⟩ j w) (K:Flow->Shared->Prop) (d:Drawn) (m:Loc) (l₁:Led),CurM m binds ((∀p∈ro,p∈l₁)->
   (∀v d new l,Post v [] new->(∀p∈new,∀r∈l₁,r.1<p.1)->(∀p∈(new++l₁),p∈l)->Rt S K d l v)->(∀s,K (.ret .none) s->K .next s)->
   W S K d m (l₁) body []))
  (hco:scope.isCoroutine=false) (hgen:scope.isGenerator=false) (hk:scope.kind= .function) (hcell:∀x∈scope.names,x.2≠ .cell):TelD w f (j+1) args [] ro Post:=by
 refine L5 ho hcd hbind hloc (λdp un gd env outer base g L' h₁ p loose mean mg mb s tk R hd hu B X T F N=> ?_) hco hgen hk hcell
 have Nr:News g L' h₁ ro:=λp hp=>N p (lR _ hp)
 obtain ⟨l₁,hD,hm⟩:=Bx ro (Bg Nr)
 have hbs:∀p∈binds,(λy=>List.lookup y binds.reverse) p.1=some p.2:=λp hp=>Em (of_decide_eq_true hnd) hp
 refine (CurM.go (h {A:=_,L:=L',lc:=L',cl:= [],h₀:=g,g:=s.gens,o:=s.os,E:=_,own:= [],H:=Here.of B X T rfl rfl rfl hk ?_ ?_,hE:= ?_} _ s.drawn _ l₁) hbs (λp hp=>(hm p).mpr hp) ?_ λV z=>z).run h₁ tk ⟨F,λp hp=> ?_,?_,λp hp=>no hp⟩
 ·show dp+1+j<_;omega
 ·show un+3+8*j<_;omega
 ·intro _
  passes_own
 ·intro v d new l hp hl hs
  refine ⟨λh k m A=> ?_⟩
  have N':=A.N
  rw [List.append_nil] at N'
  exact Ds (mu':= []) (new:=new) A.F N' (λp hp=>hs p ((lA (show p∈new++ro from hp)).elim (lL _) λhp=>lR _ ((hm p).mpr hp))) (λp hp r hr=>hl p hp r ((hm r).mpr hr)) hp
 ·rw [List.append_nil] at hp
  exact Nr p ((hm p).mp hp)
 ·exact hD
section
variable {C:Cd}{n:Nat}{w:World}{S:Si C n w}{d:Drawn}{m:Loc}{l rest:Led}{vs:List Value}{κ:Value->Drawn->Led->Prop}{f:Addr}{k:Nat}{ro:Led}{Post:Value->Led->Led->Prop}{q:Addr×Obj}
theorem CX.tel1(T:Tel w f k ⟨vs,[]⟩ [q] ro Post)(hp:Pick l q rest)(hro:∀p∈ro,p∈rest)
  (h:∀v mu' new,Post v mu' new->(∀p∈new,∀r∈q::ro,r.1<p.1)->mu'.map (·.1)= [q.1]/\Aw new/\κ v d (mu'++(new++rest)))(hk:decide (k<=n)=true:=by exact Eq.refl true):CX S d m l (.ref f) vs κ:=
 ⟨λh9 k9 Q A hq=>by
  have D:=List.pairwise_cons.mp (C4 hp.perm.symm A.D)
  have hql:q∈l:=hp.sub _ (.head _)
  have hrl:∀p∈rest,p∈l:=λp h=>hp.sub _ (.tail _ h)
  refine T.use1 (S.less (of_decide_eq_true hk)) A.F A.N (hp.app S.own) (λp hp=>lL _ (hro p hp)) (λp hp'=>(lA hp').elim (D.1 p) λh=>A.O p h _ hql) λv mu' new h' tk' hP' F N hlt hne=> ?_
  obtain ⟨e1,e2,z⟩:=h _ _ _ hP' hlt
  have hm:∀p∈mu',p.1=q.1:=λp hp=>by
   have:p.1∈mu'.map (·.1):=List.mem_map_of_mem hp
   rw [e1] at this;exact lS this
  have e3:mu'++(new++(rest++S.own))=(mu'++(new++rest))++S.own:=by simp only [List.append_assoc]
  rw [e3] at N
  refine hq v d _ h' tk' z ⟨F,N,Ff ?_ (Ff e2 D.2 λp hp r hr=>(hne p hp r (lL _ hr)).symm) (λp hp r hr=> ?_),λp hp r hr=> ?_⟩
  ·exact Fh (l:= [q]) (l':=mu') e1 (List.pairwise_singleton _ _)
  ·rw [hm p hp]
   rcases lA hr with h | h
   ·exact Ne.symm (Nat.ne_of_lt (hlt r h q (.head _)))
   ·exact D.1 r h
  ·rcases lA hr with h | h
   ·rw [hm r h];exact A.O p hp q hql
   ·rcases lA h with h | h
    ·exact (hne r h p (lR _ hp)).symm
    ·exact A.O p hp r (hrl r h)⟩
theorem CX.tel0(T:Tel w f k ⟨vs,[]⟩ [] ro Post)(hro:∀p∈ro,p∈l)
  (h:∀v mu' new l',Post v mu' new->(∀p∈l,p∈l')->(∀p∈new,p∈l'/\(∀r∈ro,r.1<p.1)/\∀r∈l,p.1≠r.1)->κ v d l')(hk:decide (k<=n)=true:=by exact Eq.refl true):CX S d m l (.ref f) vs κ:=
 ⟨λh9 k9 Q A hq=>by
  refine T.use0 (S.less (of_decide_eq_true hk)) A.F A.N (λp hp=>lL _ (hro p hp)) λv mu' new h' tk' hP' F N hlt hne=> ?_
  have N1:News S.h₀ S.L h' (new++l):=λp hp=>N p (lR _ ((lA hp).elim (lL _) λh=>lR _ (lL _ h)))
  obtain ⟨l',D',hm⟩:=Bx _ (Bg N1)
  exact hq _ _ _ _ _ (h v mu' new l' hP' (λp hp=>(hm p).mpr (lR _ hp)) λp hp=>⟨(hm p).mpr (lL _ hp),hlt p hp,λr hr=>hne p hp r (lL _ hr)⟩) ⟨F,λp hp=>(lA hp).elim (λh=>N1 p ((hm p).mp h)) λh=>N p (lR _ (lR _ (lR _ h))),D',λp hp q hq=>(lA ((hm q).mp hq)).elim (λh=>(hne q h p (lR _ hp)).symm) (A.O p hp q)⟩⟩
end
end
section
noncomputable def Aft{C n w}(S:Si C n w)(K:Flow->Shared->Prop)(rest:List Stmt)(rs:List (List Stmt)):Flow->Shared->Prop:=
 λf s'=>match f with | .next=>wpAny (mdl w) S.A (execs rest S.env) (Kont S K rs) S.E s' | f=>Kont S K rs f s'
structure Lp{C n w}(S:Si C n w)(K:Flow->Shared->Prop)(d:Drawn)(m:Loc)(l:Led)(x:Str)(cnt:Nat)(Itm:Nat->Value->Prop)(body rest:List Stmt)(rs:List (List Stmt)):Prop where
 run:∀h k I fp wr St,At S h m l->Walks PySem.Challenge.rw_nu0172_01.row.prog w S.A I fp wr cnt Itm St->S.L∉fp->(∀b∈wr,S.h₀.get? b=none)->(∀p∈l++S.own,p.1∉wr)->(∀p∈l++S.own,p.1∉fp)->St 0 h->
  LoopAtV PySem.Challenge.rw_nu0172_01.row.prog w S.A S.h₀ S.env x body (Aft S K rest rs) S.E (.ref I) ⟨h,S.g,d,k,S.o⟩
noncomputable abbrev Fam:=(Loc->Led->Prop)->Prop
section
variable {C:Cd}{n:Nat}{w:World}{S:Si C n w}{m:Loc}{l:Led}
theorem At.push(A:At S h m l)(o:Obj):At S (h.push o) m l:=⟨A.F.push _,λp hp=>⟨hPu _ (A.N p hp).1,(A.N p hp).2⟩,A.D,A.O⟩
theorem At.off(A:At S h m l):∀p∈l++S.own,p.1∉ [h.objs.size]:=λp hp hI=>absurd (Heap.lt_size (A.N p hp).1) ((lS hI)▸Nat.lt_irrefl _)
theorem At.frOff(A:At S h m l):S.L∉ [h.objs.size]:=λhm=>absurd A.F.ns.lt ((lS hm)▸Nat.lt_irrefl _)
theorem At.newOff(A:At S h m l):∀b∈ [h.objs.size],S.h₀.get? b=none:=λb hb=>by rw [List.mem_singleton.mp hb];exact next_is_new A.F
end
section
variable {cn:Str}{cs:Scope}{fa:Addr}{cc:Value}{n:Nat}{w:World}{x:Str}{px pos p2 p3:Pos}{e e1 e2:PySem.Expr}{es:List PySem.Expr}{body rest:List Stmt}{rs:List (List Stmt)}{S:Si (P4 cn cs fa cc) n w}{K:Flow->Shared->Prop}{d:Drawn}{m:Loc}{l:Led}{a b i:Int}{t:Tok}{v u:Value}{vs its:List Value}{P P1 P2:Value->Prop}{p q:Prop}{κ:Value->Drawn->Led->Prop}{cnt:Nat}{Itm:Nat->Value->Prop}{D:Addr}{ns:List Int}{cN:Nat}
theorem Lp.intro(J:Nat->Fam)(hJ:∀i G,(∀m l,(∀G',J i G'->G' m l)->G m l)->J i G)(ha:∀i,J i λV l'=>l'.map (·.1)=l.map (·.1))(h0:∀G,J 0 G->G m l)
  (turn:∀(S':Si (P4 cn cs fa cc) n w) (K':Flow->Shared->Prop) (i:Nat) (v:Value),i<cnt->Itm i v->(∀l v,Rt S K d l v->Rt S' K' d l v)->J (i+1) (λm l=>W S' K' d m l [] [])->J i λm l=>W S' K' d (mN x v m) l body [])
  (done:J cnt λm l=>W S K d m l rest rs):Lp S K d m l x cnt Itm body rest rs:=by
 refine ⟨λh k I fp wr St A Wk hL hwr h1 h2 hst=> ?_⟩
 refine loop_invN (news:=l++S.own) (m₀:=m) (λi m nx=>∃l',nx=l'++S.own/\Aw l'/\∀G,J i G->G m l') Wk hL hwr h1 h2 hst A.F A.N ⟨l,rfl,A.D,h0⟩ ?_ ?_
 ·rintro i v m₁ nx h' tk own hi hv hnx hoff ⟨l',rfl,hD,hG⟩ F N
  have hadr:l'.map (·.1)=l.map (·.1):=hG _ (ha i)
  let S':Si (P4 cn cs fa cc) n w:= {S with own:=S.own++own}
  have A':At S' h' (mN x v m₁) l':=⟨F,by show News _ _ _ (l'++(S.own++own));rw [<-List.append_assoc];exact N,hD,λp hp q hq=>by
   have hq':q.1∈l.map (·.1):=hadr▸List.mem_map_of_mem hq
   rcases lA hp with hp | hp
   ·obtain ⟨r,hr,e⟩:=List.mem_map.mp hq'
    exact e▸A.O p hp r hr
   ·exact hoff p hp q.1 (by rw [List.map_append];exact lL _ hq')⟩
  let K':Flow->Shared->Prop:=InvPostN S.h₀ S.L (λm nx=>∃l',nx=l'++S.own/\Aw l'/\∀G,J (i+1) G->G m l') own ((l++S.own).map (·.1)) ⟨h',S.g,d,tk,S.o⟩ (Aft S K rest rs)
  have hend:∀m l,(∀G',J (i+1) G'->G' m l)->W S' K' d m l [] []:=λm2 l2 hG2=>⟨λh3 k3 A3=>wpAny_execs_nil (by
   have e2:l2.map (·.1)=l.map (·.1):=hG2 _ (ha _)
   refine (⟨h3,k3,m2,l2++(S.own++own),l2++S.own,rfl,A3.F,A3.N,λp hp=> ?_,λp hp=> ?_,?_,l2,rfl,A3.D,hG2⟩:InvEndN S.h₀ S.L (λm nx=>∃l',nx=l'++S.own/\Aw l'/\∀G,J (i+1) G->G m l') own ((l++S.own).map (·.1)) ⟨h',S.g,d,tk,S.o⟩ ⟨h3,S.g,d,k3,S.o⟩)
   ·rw [<-List.append_assoc];exact lL _ hp
   ·exact lR _ (lR _ hp)
   ·rw [List.map_append,List.map_append,e2])⟩
  have ht:=hG _ (turn S' K' i v hi hv (λl v r=>⟨λh3 k3 m3 A3=>Kont.out (λh=>nomatch h) (r.run h3 k3 m3 ⟨A3.F,λp hp=>A3.N p ((lA hp).elim (lL _) λh=>lR _ (lL _ h)),A3.D,λp hp=>A3.O p (lL _ hp)⟩)⟩) (hJ _ _ hend))
  exact ht.run h' tk A'
 ·rintro m₁ nx h' tk ⟨l',rfl,hD,hG⟩ F N
  have hadr:l'.map (·.1)=l.map (·.1):=hG _ (ha _)
  exact (hG _ done).run h' tk ⟨F,N,hD,λp hp q hq=>by
   have hq':q.1∈l.map (·.1):=hadr▸List.mem_map_of_mem hq
   obtain ⟨r,hr,e⟩:=List.mem_map.mp hq'
   exact e▸A.O p hp r hr⟩
theorem Lg{k:Nat}(hk:k<=1000000):Builtin.Range.small 0 (k:Int) 1=true/\Builtin.Range.rangeSize 0 (k:Int) 1=(k:Int):=
 ⟨small_one (by decide) (by decide) (by omega) (by omega),by rw [rangeSize_one];split<;>omega⟩
theorem J0:foldedSetIterable (.Call x9 args kws pos) env v=pure v:=by rfl
theorem Gm(hx:locOk (P4 cn cs fa cc) x=true)(h1:wpAny (mdl w) S.A (eval iter S.env) (λxv s₁=>wpAny (mdl w) S.A (pyIter xv) (λit s₂=>LoopAtV PySem.Challenge.rw_nu0172_01.row.prog w S.A S.h₀ S.env x body (Aft S K rest rs) S.E it s₂) S.E s₁) S.E ⟨h,S.g,d,k,S.o⟩)
  (hs:∀v,foldedSetIterable iter S.env v=pure v):wpAny (mdl w) S.A (execs (.For (.Name x px) iter body [] pos::rest) S.env) (Kont S K rs) S.E ⟨h,S.g,d,k,S.o⟩:=
 wpAny_execs_cons (For_invV S.h₀ (by unfold Env.kindOf;exact locOk.look hx) (by show (cs.kind== .class|| (cs.kind== .module&&_))=false;rw [locOk.kind hx];rfl) h1 hs (S.hE rfl))
theorem Gj{prog:Program}{w:World}{A:Around}{I:Addr}{fp wr:List Addr}{n:Nat}{P P':Nat->Value->Prop}{St:Nat->Heap->Prop}(Wk:Walks prog w A I fp wr n P St)(h:∀i v,P i v->P' i v):Walks prog w A I fp wr n P' St:=
 {sub:=Wk.sub,frame:=Wk.frame,item:=λi s Q E hi st hQ=>Wk.item i s Q E hi st λv h' tk p=>hQ v h' tk (h i v p),done:=Wk.done,self:=Wk.self}
theorem W.forRange(he:X S d m l e λv d' l'=>∃k:Nat,isI k v/\k<=1000000/\Lp S K d' m l' x k (λi v=>isI i v) body rest rs)(hx:locOk (P4 cn cs fa cc) x=true:=by exact Eq.refl true)(ok:okB (P4 cn cs fa cc) (Str.ofString "range") [e]=true:=by exact Eq.refl true):
  W S K d m l (.For (.Name x px) (.Call (.Name (Str.ofString "range") p2) [e] [] p3) body [] pos::rest) rs:=
 ⟨λh k A=>Gm hx (Call_ ((Ev.bi G5 (Bs ok)).run h d k _ A λv h1 k1 hv A1=>by
  subst hv
  refine PyProof.Rows.callWith_type1 (args_cons (he.run h1 k1 _ A1 λv1 d1 l1 h2 k2 z9 A2=>args_nil ?_) (Ad (all1 (Aj ok)))) (Ad (all1 (Aj ok))) (Bz (all2 (Aj ok)))
  obtain ⟨j,⟨t,e⟩,hj,z⟩:=z9
  subst e
  refine call_range_1 (wpAny_pyIter_range (IsRange.new _ _ _ _ _ _ _) (Lg hj).1 ?_)
  have A3:=A2.push {cls:= .type "range",data:= .fields #[.int 0 k2,.int j t,.int 1 (k2+1)]}
  refine z.run _ _ _ [_] [_] _ (A3.push _) (Gj (Walks.range S.hh _ 0 1 j) λi v ⟨t,e⟩=>⟨t,by rw [e];congr 1;omega⟩) A3.frOff A3.newOff A3.off A3.off ?_
  show IsRangeIter _ _ _ _ _
  rw [(Lg hj).2,show (0:Int)+ ((0:Nat):Int)*1=0 from rfl,show (j:Int)- ((0:Nat):Int)=j by omega]
  exact Heap.get?_push_size _ rfl) Bm) λV=>J0⟩
theorem fold_plain(h:Af e=true):foldedSetIterable e env v=pure v:=by
 cases e<;>first | rfl | exact nbF h
structure Nx(S:Si (P4 cn cs fa cc) n w)(J:Fam)(m:Loc)(nx:Led):Prop where
 ex:∃l',nx=l'++S.own/\Aw l'/\(∀p∈S.own,∀q∈l',p.1≠q.1)/\∀G,J G->G m l'
@[elab_as_elim] theorem Nx.on {J:Fam} {nx:Led} (z:Nx S J m nx) {R:Led->Prop} (k:∀l',Aw l'->(∀p∈S.own,∀q∈l',p.1≠q.1)->(∀G,J G->G m l')->R (l'++S.own)):R nx:=by
 obtain ⟨l',e,a,b,c⟩:=z.ex
 exact e▸k l' a b c
theorem LpG{oD:Obj}{I:Addr}{St:Nat->Heap->Prop}{h:Heap}{k:Nat}(J:Nat->Fam)(hJ:∀i G,(∀m l,(∀G',J i G'->G' m l)->G m l)->J i G)(hk:∀i,J i λV l'=>(D,oD)∈l')(h0:∀G,J 0 G->G m l)
  (A:At S h m l)(Wk:Walks PySem.Challenge.rw_nu0172_01.row.prog w S.A I [I,D] [I] cnt Itm St)(hI:∀i h,St i h->∃o,h.get? I=some o)(hIl:∀p∈l++S.own,p.1≠I)(hI0:S.h₀.get? I=none)(hIL:S.L≠I)(hst:St 0 h)
  (turn:∀(S':Si (P4 cn cs fa cc) n w) (K':Flow->Shared->Prop) (i:Nat) (v:Value),i<cnt->Itm i v->(∀l v,Rt S K d l v->Rt S' K' d l v)->J (i+1) (λm l=>W S' K' d m l [] [])->J i λm l=>W S' K' d (mN x v m) l body [])
  (done:J cnt λm l=>W S K d m l rest rs):LoopAtV PySem.Challenge.rw_nu0172_01.row.prog w S.A S.h₀ S.env x body (Aft S K rest rs) S.E (.ref I) ⟨h,S.g,d,k,S.o⟩:=by
 have hm:(D,oD)∈l:=h0 _ (hk 0)
 refine ⟨I,_,_,cnt,Itm,St,m,l++S.own,λi m nx=>Nx S (J i) m nx,rfl,Wk,?_,?_,?_,hst,A.F,A.N,⟨l,rfl,A.D,A.O,h0⟩,?_,?_⟩
 ·intro hL
  rcases lC hL with e | hL
  ·exact hIL e
  ·exact (A.N1 _ hm).2.1 (lS hL).symm
 ·intro b hb;rw [List.mem_singleton.mp hb];exact hI0
 ·intro p hp hq;exact hIl p hp (lS hq)
 ·intro i v m₁ nx s₁ own hs hi hv z
  obtain ⟨h',tk,e⟩:=hs
  subst e
  refine Nx.on z λl' hD hO hG=> ?_
  intro hnw hfp hget hown hst' F N
  obtain ⟨oI,hoI⟩:=hI _ _ hst'
  have hinI:(I,oI)∈own:=hown I (.head _) hI0 _ hoI
  have hmem:(D,oD)∈l':=hG _ (hk i)
  have ownD:∀p∈own,p.1=I\/p=(D,oD):=λp hp=>(lC (hfp p hp)).elim .inl λh=> .inr (by
   have e1:=lS h
   have e2:=hget p hp
   rw [e1,(N _ (List.mem_append_right _ (List.mem_append_left _ hmem))).1] at e2
   exact Prod.ext e1 (sJ e2).symm)
  let S':Si (P4 cn cs fa cc) n w:= {S with own:=S.own++ [(I,oI)]}
  have A':At S' h' (mN x v m₁) l':=⟨F,λp hp=>N p (by
   rcases lA hp with hp | hp
   ·exact lR _ (lL _ hp)
   rcases lA hp with hp | hp
   ·exact lR _ (lR _ hp)
   ·exact lL _ (lS hp▸hinI)),hD,λp hp q hq e=>by
    rcases lA hp with hp | hp
    ·exact hO p hp q hq e
    ·rw [List.mem_singleton.mp hp] at e
     exact hnw q (lL _ hq) (e▸ .head _)⟩
  let K':Flow->Shared->Prop:=LoopStepV S.h₀ S.L [I] own (Nx S (J (i+1))) ⟨h',S.g,d,tk,S.o⟩ (λv s'=>Aft S K rest rs (.ret v) s') λs'=>Aft S K rest rs .next s'
  have ht:=hG _ (turn S' K' i v hi hv (λl v r=>⟨λh3 k3 m3 A3=>Kont.out (λh=>nomatch h) (r.run h3 k3 m3 ⟨A3.F,λp hp=>A3.N p ((lA hp).elim (lL _) λh=>lR _ (lL _ h)),A3.D,λp hp=>A3.O p (lL _ hp)⟩)⟩) (hJ _ _ λm2 l2 hG2=>⟨λh3 k3 A3=>wpAny_execs_nil (by
    refine (⟨rfl,h3,k3,m2,l2++S.own,rfl,A3.F,λp hp=> ?_,λp hp hq=> ?_,l2,rfl,A3.D,λp hp=>A3.O p (lL _ hp),hG2⟩:LoopStepU S.h₀ S.L [I] own (Nx S (J (i+1))) ⟨h',S.g,d,tk,S.o⟩ .next ⟨h3,S.g,d,k3,S.o⟩)
    ·rcases lA hp with hp | hp
     ·rcases ownD p hp with e | e
      ·have e2:=hget p hp
       rw [e,hoI] at e2
       exact A3.N p (lR _ (lR _ (by rw [show p=(I,oI) from Prod.ext e (Option.some.inj e2).symm];exact .head _)))
      ·exact A3.N p (lL _ (e▸hG2 _ (hk _)))
     ·exact A3.N p ((lA hp).elim (lL _) λh=>lR _ (lL _ h))
    ·rcases lA hp with hp | hp
     ·exact A3.O (I,oI) (lR _ (.head _)) p hp (lS hq).symm
     ·exact hIl p (lR _ hp) (lS hq))⟩))
  exact ht.run h' tk A'
 ·intro h' tk m₁ nx F N _ z
  revert F N
  refine Nx.on z λl' hD hO hG F N=> ?_
  exact (hG _ done).run h' tk ⟨F,N,hD,hO⟩
theorem W.forList(J:Nat->Fam)(hJ:∀i G,(∀m l,(∀G',J i G'->G' m l)->G m l)->J i G)(he:Ev S m l e (· = .ref D))(hI:IntsAre vs ns)(hk:∀i,J i λV l'=>(D,listOf vs.toArray cN)∈l')(h0:∀G,J 0 G->G m l)
  (turn:∀(S':Si (P4 cn cs fa cc) n w) (K':Flow->Shared->Prop) (i:Nat) (a:Int) (t:Tok),ns[i]?=some a->(∀l v,Rt S K d l v->Rt S' K' d l v)->J (i+1) (λm l=>W S' K' d m l [] [])->J i λm l=>W S' K' d (mN x (.int a t) m) l body [])
  (done:J ns.length λm l=>W S K d m l rest rs)(hx:locOk (P4 cn cs fa cc) x=true:=by exact Eq.refl true)(ok:Af e=true:=by exact Eq.refl true):W S K d m l (.For (.Name x px) e body [] pos::rest) rs:=
 ⟨λh9 k9 A9=>Gm hx (he.run h9 d k9 _ A9 λv h k hv A=>by
  subst hv
  have hol:=(A.N1 _ (h0 _ (hk 0))).1
  have hls:h.IsList D vs.toArray:=⟨_,hol,rfl,cN,rfl⟩
  have hne:D≠h.objs.size:=Nat.ne_of_lt (Heap.lt_size hol)
  refine wpAny_pyIter_list hls ?_
  have hlen:vs.toArray.size=ns.length:=by rw [List.size_toArray,IntsAre.length hI]
  rw [<-hlen] at done
  exact LpG J hJ hk h0 (A.push _) (Walks.list S.hh h.objs.size D hne vs.toArray) (λi h' st=>⟨_,st.1.choose_spec.1⟩) (λp hp e=>A.off p hp (e▸ .head _)) (next_is_new A.F) (λe=>A.frOff (e▸ .head _)) ⟨⟨_,Heap.get?_push_size _ rfl,rfl,rfl⟩,hls.at λo e=>hPu _ e⟩ (λS' K' i v hi hv hr hn=>by
   obtain ⟨a,t,rfl,ha⟩:=IntsAre.at hI i v (by simpa using hv)
   exact turn S' K' i a t ha hr hn) done) λV=>fold_plain ok⟩
theorem W.forTup(J:Nat->Fam)(hJ:∀i G,(∀m l,(∀G',J i G'->G' m l)->G m l)->J i G)(he:Ev S m l e (· = .ref D))(hI:IntsAre vs ns)(hk:∀i,J i λV l'=>(D,({cls:= .type "tuple",data:= .seq vs.toArray cN}:Obj))∈l')(h0:∀G,J 0 G->G m l)
  (turn:∀(S':Si (P4 cn cs fa cc) n w) (K':Flow->Shared->Prop) (i:Nat) (a:Int) (t:Tok),ns[i]?=some a->(∀l v,Rt S K d l v->Rt S' K' d l v)->J (i+1) (λm l=>W S' K' d m l [] [])->J i λm l=>W S' K' d (mN x (.int a t) m) l body [])
  (done:J ns.length λm l=>W S K d m l rest rs)(hx:locOk (P4 cn cs fa cc) x=true:=by exact Eq.refl true)(ok:Af e=true:=by exact Eq.refl true):W S K d m l (.For (.Name x px) e body [] pos::rest) rs:=
 ⟨λh9 k9 A9=>Gm hx (he.run h9 d k9 _ A9 λv h k hv A=>by
  subst hv
  have hol:=(A.N1 _ (h0 _ (hk 0))).1
  have hls:h.IsTuple D vs.toArray:=⟨_,hol,rfl,cN,rfl⟩
  have hne:D≠h.objs.size:=Nat.ne_of_lt (Heap.lt_size hol)
  refine wpAny_pyIter_tuple hls ?_
  have hlen:vs.toArray.size=ns.length:=by rw [List.size_toArray,IntsAre.length hI]
  rw [<-hlen] at done
  exact LpG J hJ hk h0 (A.push _) (Walks.tuple S.hh h.objs.size D hne vs.toArray) (λi h' st=>⟨_,st.1.choose_spec.1⟩) (λp hp e=>A.off p hp (e▸ .head _)) (next_is_new A.F) (λe=>A.frOff (e▸ .head _)) ⟨⟨_,Heap.get?_push_size _ rfl,rfl,rfl⟩,hls.at λo e=>hPu _ e⟩ (λS' K' i v hi hv hr hn=>by
   obtain ⟨a,t,rfl,ha⟩:=IntsAre.at hI i v (by simpa using hv)
   exact turn S' K' i a t ha hr hn) done) λV=>fold_plain ok⟩
theorem W.while(J:Nat->Fam)(n₀:Nat)(hJ:∀i G,(∀m l,(∀G',J i G'->G' m l)->G m l)->J i G)(h0:∀G,J n₀ G->G m l)
  (turn:∀(K':Flow->Shared->Prop) (i:Nat),(∀l v,Rt S K d l v->Rt S K' d l v)->(∀j,j<i->J j λm l=>W S K' d m l [] [])->J i λm l=>∃p,Bv S m l test p/\(p->W S K' d m l body [])/\(¬p->W S K d m l rest rs)):
  W S K d m l (.While test body [] pos::rest) rs:=
 ⟨λh k A=>by
  refine wpAny_execs_cons (wpAny_While (codeAny_whileLoop (λn s'=>∃h' k' m' l',s'=(⟨h',S.g,d,k',S.o⟩:Shared)/\At S h' m' l'/\∀G,J n G->G m' l') ?_ n₀ ⟨h,k,m,l,rfl,A,h0⟩))
  rintro i s' ⟨h1,k1,m1,l1,rfl,A1,hG⟩
  let K':Flow->Shared->Prop:=λf s₃=>match f with
   | .next | .cont=>∃j,j<i/\∃h' k' m' l',s₃=(⟨h',S.g,d,k',S.o⟩:Shared)/\At S h' m' l'/\∀G,J j G->G m' l'
   | .brk=>Aft S K rest rs .next s₃
   | .ret v=>Aft S K rest rs (.ret v) s₃
  obtain ⟨p,hb,z1,z2⟩:=hG _ (turn K' i (λl v r=>⟨λh3 k3 m3 A3=>Kont.out (λh=>nomatch h) (r.run h3 k3 m3 A3)⟩) λj hj=>hJ _ _ λm2 l2 hG2=>⟨λh3 k3 A3=>wpAny_execs_nil ⟨j,hj,h3,k3,m2,l2,rfl,A3,hG2⟩⟩)
  have hw:wpAny (mdl w) S.A (PySem.isTrue test S.env (eval test S.env)) (λb s₂=>if b=true then wpAny (mdl w) S.A (execs body S.env) K' S.E s₂ else Aft S K rest rs .next s₂) S.E ⟨h1,S.g,d,k1,S.o⟩:=hb.run h1 d k1 _ A1 λb h2 k2 hi A2=>by
   cases b with
   | true=>exact (z1 (hi.mp rfl)).run h2 k2 A2
   | false=>exact (z2 λh=>nbF (hi.mpr h)).run h2 k2 A2
  refine wpAny_mono hw (λb s₂ h₂=> ?_) (S.hE rfl)
  cases b with
  | false=>
   simp only [Bool.false_eq_true,if_false] at h₂ ⊢
   exact wpAny_execs_nil h₂
  | true=>
   simp only [if_true] at h₂ ⊢
   refine wpAny_mono h₂ (λf s₃ h₃=> ?_) (S.hE rfl)
   cases f with
   | next=>obtain ⟨j,hj,r⟩:=h₃;exact ⟨j,hj,r⟩
   | cont=>obtain ⟨j,hj,r⟩:=h₃;exact ⟨j,hj,r⟩
   | brk=>exact h₃
   | ret v=>exact h₃⟩
end
end
section
namespace Li
noncomputable def add:List Int->List Int->List Int
 | [],q=>q
 | p,[]=>p
 | a::p,b::q=>(a+b)::add p q
noncomputable def scale(k:Int)(p:List Int):List Int:=p.map (k* ·)
noncomputable def ev:List Int->List Int->Int
 | c::cs,x::xs=>c*x+ev cs xs
 | _,_=>0
theorem ev_nil(xs:List Int):ev [] xs=0:=by cases xs<;>rfl
theorem ev_add(p q xs:List Int):ev (add p q) xs=ev p xs+ev q xs:=by
 induction p generalizing q xs with
 | nil=>show ev q xs=ev [] xs+_;rw [ev_nil,Int.zero_add]
 | cons a p ih=>
  cases q with
  | nil=>show ev (a::p) xs=_+ev [] xs;rw [ev_nil,Int.add_zero]
  | cons b q=>
   cases xs with
   | nil=>rfl
   | cons x xs=>
    show (a+b)*x+ev (add p q) xs=(a*x+ev p xs)+ (b*x+ev q xs)
    rw [ih,Int.add_mul,Int.add_assoc,Int.add_assoc,Int.add_left_comm (b*x)]
theorem ev_scale(k:Int)(p xs:List Int):ev (scale k p) xs=k*ev p xs:=by
 induction p generalizing xs with
 | nil=>show ev [] xs=_;rw [ev_nil,Int.mul_zero]
 | cons a p ih=>
  cases xs with
  | nil=>exact (Int.mul_zero k).symm
  | cons x xs=>
   show (k*a)*x+ev (scale k p) xs=k* (a*x+ev p xs)
   rw [ih,Int.mul_add,Int.mul_assoc]
noncomputable def unit:Nat->List Int
 | 0=> [1]
 | i+1=>0::unit i
theorem ev_unit(i:Nat)(xs:List Int):ev (unit i) xs=xs.getD i 0:=by
 induction i generalizing xs with
 | zero=>cases xs with
  | nil=>rfl
  | cons x xs=>show 1*x+ev [] xs=x;rw [ev_nil,Int.one_mul,Int.add_zero]
 | succ i ih=>cases xs with
  | nil=>rfl
  | cons x xs=>show 0*x+ev (unit i) xs=_;rw [ih,Int.zero_mul,Int.zero_add];rfl
inductive T
 | v (i:Nat) | k (n:Nat) | a (x y:T) | m (n:Nat) (x:T) | s (x y:T) | c (x:T) | n (x:T)
noncomputable def denN(ns:List Nat):T->Nat
 | .v i=>ns.getD i 0
 | .k n=>n
 | .a x y=>denN ns x+denN ns y
 | .m n x=>n*denN ns x
 | _=>0
noncomputable def denI(ns:List Nat)(is:List Int):T->Int
 | .v i=>is.getD i 0
 | .k n=>(n:Int)
 | .a x y=>denI ns is x+denI ns is y
 | .m n x=>(n:Int)*denI ns is x
 | .s x y=>denI ns is x- denI ns is y
 | .c x=>(denN ns x:Int)
 | .n x=> -denI ns is x
noncomputable def envOf(ns:List Nat)(is:List Int):List Int:=1::(is++ns.map Int.ofNat)
noncomputable def linN(o:Nat):T->List Int
 | .v i=>unit (o+i+1)
 | .k n=> [(n:Int)]
 | .a x y=>add (linN o x) (linN o y)
 | .m n x=>scale n (linN o x)
 | _=> []
noncomputable def linI(o:Nat):T->List Int
 | .v i=>if i<o then unit (i+1) else []
 | .k n=> [(n:Int)]
 | .a x y=>add (linI o x) (linI o y)
 | .m n x=>scale n (linI o x)
 | .s x y=>add (linI o x) (scale (-1) (linI o y))
 | .c x=>linN o x
 | .n x=>scale (-1) (linI o x)
theorem ev_one(n:Int)(xs:List Int):ev [n] (1::xs)=n:=by show n*1+ev [] xs=n;rw [ev_nil,Int.mul_one,Int.add_zero]
theorem linN_ok(ns:List Nat)(is:List Int)(t:T):ev (linN is.length t) (envOf ns is)=(denN ns t:Int):=by
 induction t with
 | v i=>
  show ev (unit (is.length+i+1)) _=((ns.getD i 0:Nat):Int)
  rw [ev_unit]
  show (is++ns.map Int.ofNat).getD (is.length+i) 0=_
  rw [List.getD_eq_getElem?_getD,List.getElem?_append_right (Nat.le_add_right _ _),Nat.add_sub_cancel_left,List.getElem?_map,List.getD_eq_getElem?_getD]
  cases ns[i]?<;>rfl
 | k n=>exact ev_one _ _
 | a x y hx hy=>show ev (add _ _) _=((_+_:Nat):Int);rw [ev_add,hx,hy,Int.natCast_add]
 | m n x hx=>show ev (scale _ _) _=((_*_:Nat):Int);rw [ev_scale,hx,Int.natCast_mul]
 | s x y=>exact ev_nil _
 | c x=>exact ev_nil _
 | n x=>exact ev_nil _
theorem linI_ok(ns:List Nat)(is:List Int)(t:T):ev (linI is.length t) (envOf ns is)=denI ns is t:=by
 induction t with
 | v i=>
  show ev (if i<is.length then _ else _) _=is.getD i 0
  by_cases h:i<is.length
  ·rw [if_pos h,ev_unit]
   show (is++ns.map Int.ofNat).getD i 0=_
   rw [List.getD_eq_getElem?_getD,List.getElem?_append_left h,List.getD_eq_getElem?_getD]
  ·rw [if_neg h,ev_nil,List.getD_eq_getElem?_getD,List.getElem?_eq_none (Nat.le_of_not_lt h)];rfl
 | k n=>exact ev_one _ _
 | a x y hx hy=>show ev (add _ _) _=_+_;rw [ev_add,hx,hy]
 | m n x hx=>show ev (scale _ _) _=_*_;rw [ev_scale,hx]
 | s x y hx hy=>show ev (add _ (scale _ _)) _=_- _;rw [ev_add,ev_scale,hx,hy,Int.neg_one_mul,Int.sub_eq_add_neg]
 | c x _=>exact linN_ok ns is x
 | n x hx=>show ev (scale _ _) _= -_;rw [ev_scale,hx,Int.neg_one_mul]
noncomputable def RI(o:Nat)(a b:Int):Prop:=
 match o with
 | 0=>a<=b
 | 1=>a<b
 | 2=>a=b
 | 3=>¬a<=b
 | _=>¬a<b
noncomputable def RN(o:Nat)(a b:Nat):Prop:=
 match o with
 | 0=>a<=b
 | 1=>a<b
 | 2=>a=b
 | 3=>¬a<=b
 | _=>¬a<b
theorem RN.int:∀ {o:Nat},RN o a b->RI o a b
 | 0=>Int.ofNat_le.mpr
 | 1=>Int.ofNat_lt.mpr
 | 2=>congrArg Int.ofNat
 | 3=>λh k=>h (Int.ofNat_le.mp k)
 | _+4=>λh k=>h (Int.ofNat_lt.mp k)
noncomputable def denF(ns:List Nat)(is:List Int)(o:Nat)(x y:T):Prop:=bif Nat.blt o 5 then RN o (denN ns x) (denN ns y) else RI (o- 5) (denI ns is x) (denI ns is y)
noncomputable def lf(o:Nat)(p q:List Int):List Int:=
 match o with
 | 0=>add p (scale (-1) q)
 | 1=>add [1] (add p (scale (-1) q))
 | 2=>add p (scale (-1) q)
 | 3=>add [1] (add q (scale (-1) p))
 | _=>add q (scale (-1) p)
noncomputable def linF(k:Nat)(o:Nat)(x y:T):List Int:=bif Nat.blt o 5 then lf o (linN k x) (linN k y) else lf (o- 5) (linI k x) (linI k y)
theorem ev_sub(p q e:List Int):ev (add p (scale (-1) q)) e=ev p e- ev q e:=by rw [ev_add,ev_scale,Int.neg_one_mul,Int.sub_eq_add_neg]
theorem ev_lt(h:ev p (1::e)<ev q (1::e)):ev (add [1] (add p (scale (-1) q))) (1::e)<=0:=by
 rw [ev_add,ev_one,ev_sub,<-Int.add_sub_assoc,Int.add_comm 1];exact Int.sub_nonpos_of_le h
theorem lf_ok:∀ {o:Nat},RI o (ev p (1::e)) (ev q (1::e))->ev (lf o p q) (1::e)<=0/\(o=2->ev (lf o p q) (1::e)=0)
 | 0,h=>⟨(ev_sub p q _).symm▸Int.sub_nonpos_of_le h,Nat.noConfusion⟩
 | 1,h=>⟨ev_lt h,λk=>absurd k (by decide)⟩
 | 2,h=>have z:=(ev_sub p q _).trans (Int.sub_eq_zero.mpr h);⟨Int.le_of_eq z,λV=>z⟩
 | 3,h=>⟨ev_lt (Int.not_le.mp h),λk=>absurd k (by decide)⟩
 | n+4,h=>⟨(ev_sub q p _).symm▸Int.sub_nonpos_of_le (Int.not_lt.mp h),λk=>Nat.noConfusion (Nat.succ.inj (Nat.succ.inj k))⟩
theorem linF_ok(h:denF ns is o x y):ev (linF is.length o x y) (envOf ns is)<=0/\((o=2\/o=7)->ev (linF is.length o x y) (envOf ns is)=0):=by
 unfold denF at h
 unfold linF
 cases hb:Nat.blt o 5 with
 | true=>
  rw [hb] at h
  have z:=lf_ok (p:=linN is.length x) (q:=linN is.length y) (e:=is++ns.map Int.ofNat) (o:=o) (by
   have:=RN.int h
   rw [<-linN_ok ns is,<-linN_ok ns is] at this;exact this)
  exact ⟨z.1,λk=>z.2 (k.resolve_right λe=>by rw [e] at hb;exact Bool.noConfusion hb)⟩
 | false=>
  rw [hb] at h
  have z:=lf_ok (p:=linI is.length x) (q:=linI is.length y) (e:=is++ns.map Int.ofNat) (o:=o- 5) (by
   have h:RI (o- 5) _ _:=h
   rw [<-linI_ok ns is,<-linI_ok ns is] at h;exact h)
  exact ⟨z.1,λk=>z.2 (k.elim (λe=>by rw [e] at hb;exact Bool.noConfusion hb) λe=>by rw [e])⟩
noncomputable def sum(k:Nat):List (Int×Nat×T×T)->List Int
 | []=> []
 | (n,o,x,y)::r=>add (scale n (linF k o x y)) (sum k r)
theorem sum_ok:∀ {fs:List (Int×Nat×T×T)},(∀f∈fs,denF ns is f.2.1 f.2.2.1 f.2.2.2)->(fs.all λf=>decide (0<=f.1)||f.2.1==2||f.2.1==7)=true->ev (sum is.length fs) (envOf ns is)<=0:=by
 intro fs
 induction fs with
 | nil=>exact λV V=>Int.le_of_eq (ev_nil _)
 | cons f fs ih=>
  intro h hc
  obtain ⟨n,o,x,y⟩:=f
  rw [List.all_cons,Bool.and_eq_true] at hc
  have h1:=ih (λg hg=>h g (.tail _ hg)) hc.2
  have h2:=linF_ok (h _ (.head _))
  show ev (add (scale n _) _) _<=0
  rw [ev_add,ev_scale]
  rw [Bool.or_eq_true,Bool.or_eq_true] at hc
  have z:∀ {a:Int},a=0->n*a<=0:=λe=>by rw [e,Int.mul_zero];exact Int.le_refl _
  exact Int.add_nonpos (hc.1.elim (λh3=>h3.elim (λh3=>Int.mul_nonpos_of_nonneg_of_nonpos (of_decide_eq_true h3) h2.1) λh3=>z (h2.2 (.inl (eq_of_beq h3)))) λh3=>z (h2.2 (.inr (eq_of_beq h3)))) h1
noncomputable def bad:Nat->List Int->Bool
 | _,[]=>false
 | k,c::p=>decide (0<c)&& (p.take k).all (· ==0)&& (p.drop k).all λa=>decide (0<=a)
theorem ev_zero:∀ {p xs:List Int},(p.all (· ==0))=true->ev p xs=0
 | [],xs,_=>ev_nil xs
 | _::_,[],_=>rfl
 | a::p,x::xs,h=>by
  rw [List.all_cons,Bool.and_eq_true] at h
  show a*x+ev p xs=0
  rw [ev_zero h.2,eq_of_beq h.1,Int.zero_mul];rfl
theorem ev_pos:∀ {p:List Int} {ns:List Nat},(p.all λa=>decide (0<=a))=true->0<=ev p (ns.map Int.ofNat)
 | [],ns,_=>Int.le_of_eq (ev_nil _).symm
 | _::_,[],_=>Int.le_refl _
 | a::p,x::xs,h=>by
  rw [List.all_cons,Bool.and_eq_true] at h
  show 0<=a* (x:Int)+ev p (xs.map Int.ofNat)
  exact Int.add_nonneg (Int.mul_nonneg (of_decide_eq_true h.1) (Int.natCast_nonneg _)) (ev_pos h.2)
theorem ev_app:∀ {p is:List Int} {ys:List Int},ev p (is++ys)=ev (p.take is.length) is+ev (p.drop is.length) ys
 | [],is,ys=>by rw [List.take_nil,List.drop_nil,ev_nil,ev_nil,ev_nil];rfl
 | _::_,[],_=>(Int.zero_add _).symm
 | a::p,x::xs,ys=>by
  show a*x+ev p (xs++ys)=(a*x+ev (p.take xs.length) xs)+ev (p.drop xs.length) ys
  rw [ev_app,Int.add_assoc]
theorem bad_ok(h:bad is.length p=true):0<ev p (envOf ns is):=by
 match p,h with
 | c::p,h=>
  rw [bad,Bool.and_eq_true,Bool.and_eq_true] at h
  show 0<c*1+ev p (is++ns.map Int.ofNat)
  rw [ev_app,ev_zero h.1.2]
  rw [Int.mul_one,Int.zero_add]
  exact Int.add_pos_of_pos_of_nonneg (of_decide_eq_true h.1.1) (ev_pos h.2)
noncomputable def neg:Nat->Nat
 | 0=>3 | 1=>4 | 3=>0 | 4=>1 | 5=>8 | 6=>9 | 8=>5 | 9=>6 | _=>2
noncomputable def goalP(ns:List Nat)(is:List Int):Option (Int×Nat×T×T)->Prop
 | none=>False
 | some (_,o,x,y)=>denF ns is o x y
noncomputable def stm(ns:List Nat)(is:List Int)(G:Prop):List (Int×Nat×T×T)->Prop
 | []=>G
 | (_,o,x,y)::r=>denF ns is o x y->stm ns is G r
theorem stm_of:∀ {fs:List (Int×Nat×T×T)},((∀f∈fs,denF ns is f.2.1 f.2.2.1 f.2.2.2)->G)->stm ns is G fs
 | [],h=>h λV h=>absurd h List.not_mem_nil
 | _::_,h=>λhf=>stm_of λhr=>h λf hm=>(lC hm).elim (λe=>e▸hf) (hr f)
noncomputable def chk(k:Nat)(fs:List (Int×Nat×T×T)):Option (Int×Nat×T×T)->Bool
 | none=>(fs.all λf=>decide (0<=f.1)||f.2.1==2||f.2.1==7)&&bad k (sum k fs)
 | some (n,o,x,y)=> !(o==2)&& !(o==7)&&decide (o<10)&&decide (0<=n)&& (fs.all λf=>decide (0<=f.1)||f.2.1==2||f.2.1==7)&&bad k (sum k ((n,neg o,x,y)::fs))
theorem neg_ok(h2:¬o=2)(h7:¬o=7)(h10:o<10)(h:¬denF ns is o x y):denF ns is (neg o) x y:=by
 rcases o with _ | _ | _ | _ | _ | _ | _ | _ | _ | _ | o
 all_goals first | exact absurd rfl h2 | exact absurd rfl h7 | exact h | exact Classical.not_not.mp h | exact absurd h10 (Nat.not_lt.mpr (Nat.le_add_left _ _))
theorem lin_ok(ok:chk is.length fs g=true):stm ns is (goalP ns is g) fs:=by
 refine stm_of λh=> ?_
 match g,ok with
 | none,ok=>
  rw [chk,Bool.and_eq_true] at ok
  exact absurd (sum_ok h ok.1) (Int.not_le.mpr (bad_ok ok.2))
 | some (n,o,x,y),ok=>
  simp only [chk,Bool.and_eq_true,Bool.not_eq_true',beq_eq_false_iff_ne,decide_eq_true_eq] at ok
  obtain ⟨⟨⟨⟨⟨h2,h7⟩,h10⟩,hn⟩,hf⟩,hb⟩:=ok
  refine Classical.byContradiction λhg=> ?_
  have:=neg_ok h2 h7 h10 hg
  refine absurd (sum_ok (fs:=(n,neg o,x,y)::fs) (λf hm=>(lC hm).elim (λe=>e▸this) (h f)) ?_) (Int.not_le.mpr (bad_ok hb))
  rw [List.all_cons,hf,Bool.and_true,decide_eq_true hn];rfl
noncomputable def dT:Nat->Nat->(T->Nat->β)->β
 | 0,c,k=>k (.k 0) c
 | f+1,c,k=>bif Nat.blt (c%32) 10 then k (.v (c%32)) (c/32) else bif Nat.blt (c%32) 20 then k (.k (c%32- 10)) (c/32)
  else bif Nat.beq (c%32) 20 then dT f (c/32) λx r=>dT f r λy r=>k (.a x y) r
  else bif Nat.beq (c%32) 21 then k (.k (c/32%32+32* (c/1024%32)+1024* (c/32768%32)+32768* (c/1048576%32))) (c/33554432)
  else bif Nat.beq (c%32) 22 then dT f (c/32) λx r=>dT f r λy r=>k (.s x y) r
  else bif Nat.beq (c%32) 23 then dT f (c/32) λx r=>k (.c x) r
  else bif Nat.beq (c%32) 31 then dT f (c/32) λx r=>k (.n x) r
  else dT f (c/32) λx r=>k (.m (c%32- 22) x) r
noncomputable def dF(c:Nat)(k:Int×Nat×T×T->Nat->β):β:=dT 30 (c/1024) λx r=>dT 30 r λy r=>k (Int.subNatNat (c/32%32) 8,c%32,x,y) r
noncomputable def dL:Nat->Nat->List (Int×Nat×T×T)
 | 0,_=> []
 | f+1,c=>bif Nat.beq c 0 then [] else dF c λx r=>x::dL f r
noncomputable def dG(c:Nat):Option (Int×Nat×T×T):=bif Nat.beq (c%32) 31 then none else dF c λx V=>some x
noncomputable def dH(c:Nat):List (Int×Nat×T×T):=bif Nat.beq (c%32) 31 then dL 30 (c/32) else dF c λV r=>dL 30 r
end Li
theorem lin(ns:List Nat)(is:List Int)(c:Nat)(ok:true=Li.chk is.length (Li.dH c) (Li.dG c)):Li.stm ns is (Li.goalP ns is (Li.dG c)) (Li.dH c):=Li.lin_ok ok.symm
section
variable {a b d e f g:Nat}{u v w x:Int}(c:Nat)
theorem zn1(ok:true=Li.chk 0 (Li.dH c) (Li.dG c)):Li.stm [a] [] (Li.goalP [a] [] (Li.dG c)) (Li.dH c):=Li.lin_ok ok.symm
theorem zn2(ok:true=Li.chk 0 (Li.dH c) (Li.dG c)):Li.stm [a,b] [] (Li.goalP [a,b] [] (Li.dG c)) (Li.dH c):=Li.lin_ok ok.symm
theorem zn3(ok:true=Li.chk 0 (Li.dH c) (Li.dG c)):Li.stm [a,b,d] [] (Li.goalP [a,b,d] [] (Li.dG c)) (Li.dH c):=Li.lin_ok ok.symm
theorem zn4(ok:true=Li.chk 0 (Li.dH c) (Li.dG c)):Li.stm [a,b,d,e] [] (Li.goalP [a,b,d,e] [] (Li.dG c)) (Li.dH c):=Li.lin_ok ok.symm
theorem zn5(ok:true=Li.chk 0 (Li.dH c) (Li.dG c)):Li.stm [a,b,d,e,f] [] (Li.goalP [a,b,d,e,f] [] (Li.dG c)) (Li.dH c):=Li.lin_ok ok.symm
theorem zn6(ok:true=Li.chk 0 (Li.dH c) (Li.dG c)):Li.stm [a,b,d,e,f,g] [] (Li.goalP [a,b,d,e,f,g] [] (Li.dG c)) (Li.dH c):=Li.lin_ok ok.symm
theorem zi1(ok:true=Li.chk 1 (Li.dH c) (Li.dG c)):Li.stm [] [u] (Li.goalP [] [u] (Li.dG c)) (Li.dH c):=Li.lin_ok ok.symm
theorem zi2(ok:true=Li.chk 2 (Li.dH c) (Li.dG c)):Li.stm [] [u,v] (Li.goalP [] [u,v] (Li.dG c)) (Li.dH c):=Li.lin_ok ok.symm
theorem zi3(ok:true=Li.chk 3 (Li.dH c) (Li.dG c)):Li.stm [] [u,v,w] (Li.goalP [] [u,v,w] (Li.dG c)) (Li.dH c):=Li.lin_ok ok.symm
theorem zi4(ok:true=Li.chk 4 (Li.dH c) (Li.dG c)):Li.stm [] [u,v,w,x] (Li.goalP [] [u,v,w,x] (Li.dG c)) (Li.dH c):=Li.lin_ok ok.symm
end
theorem Aa(x y:Nat):x<=x- y+y:=Nat.sub_le_iff_le_add.mp (Nat.le_refl _)
theorem Rp(x k:Nat)(h:true=Nat.blt 0 k):x%k<k:=Nat.mod_lt x (show k>0 from Nat.blt_eq.mp h.symm)
theorem Hm(x k:Int)(h:true=decide (0<k)):0<=x%k:=Int.emod_nonneg _ (Int.ne_of_gt (of_decide_eq_true h.symm))
theorem Hl(x k:Int)(h:true=decide (0<k)):x%k<k:=Int.emod_lt_of_pos _ (of_decide_eq_true h.symm)
theorem Fi(x k:Nat)(h:true=Nat.blt 0 k):x<k* (x/k)+k:=by
 exact Nat.lt_mul_div_succ x (Nat.blt_eq.mp h.symm)
theorem p63:(1000000:Int)<=2^63:=by decide
end
local macro_rules | `(tactic| omega)=> `(tactic| lia)
local macro_rules | `(tactic| k_room)=> `(tactic| (simp only [depth_under_make,depth_under_kw,depth_in1,depth_deeper];omega))
example:Fl:=by walk_at "zF"
section
example:True:=by
 k_with "mem"=>repeat (first | exact List.Mem.head _ | apply List.Mem.tail)
 k_with "ev"=>first
  | exact Ev.nameI rfl
  | exact Ev.nameV rfl
  | exact Ev.nameI (by assumption)
  | exact Ev.nameV (by assumption)
  | exact Ev.int
  | (refine' Ev.itemN ?q1 Ev.int ?im ?iv ?ip;(case q1=>walk_at "ev");(case im=>walk_at "mem");(case iv=>exact rfl);(case ip=>first | exact ⟨_,rfl⟩ | exact rfl))
  | (refine' Ev.add ?q1 ?q2;(case q1=>walk_at "ev");(case q2=>walk_at "ev"))
  | (refine' Ev.sub ?q1 ?q2;(case q1=>walk_at "ev");(case q2=>walk_at "ev"))
 trivial
theorem ints_get{cs:List Value}{ns:List Int}(hi:IntsAre cs ns):∀ {k:Nat},k<cs.length->∃n t,cs[k]?=some (.int n t):=by
 induction hi with
 | nil=>exact λh=>absurd h (Nat.not_lt_zero _)
 | cons n t r ih=>
  intro k h
  cases k with
  | zero=>exact ⟨n,t,rfl⟩
  | succ k=>exact ih (Nat.lt_of_succ_lt_succ h)
theorem Cb(a:Int)(hb:0<b):0<=a.fmod b/\a.fmod b<b:=⟨Int.fmod_nonneg_of_pos _ hb,Int.fmod_lt_of_pos _ hb⟩
theorem L9{w:World}{P C:Addr}{seat rest many:Int}{t1 t2 u:Tok}{n nc:Nat}{cs:List Value}{ns:List Int}(hPC:C≠P)(hi:IntsAre cs ns)(hs0:0<=seat)(hs1:seat<1000000)(hr:0<=rest)(hm:0<many)(hm':many<=1000)(hlen:ns.length<=40):
  Tel w 387 2 ⟨[.ref P,.int many u],[]⟩ [(P,listOf #[.ref C,.int seat t1,.int rest t2] n)] [(C,listOf cs.toArray nc)]
   (λv mu' new=>∃r t seat' rest' t1' t2',v= .int r t/\mu'= [(P,listOf #[.ref C,.int seat' t1',.int rest' t2'] n)]/\new= []/\0<=r/\r<many/\seat<=seat'/\seat'<=seat+1/\0<=rest'):=by
 refine' De (j:=1) [(Str.ofString "pen",.ref P),(Str.ofString "many",.int many u)] ?k6 ?k7 ?k9 ?kB ?kn ?kd ?_ ?c2 ?c3 ?c4 ?c5
 case k6=>k_is
 case k7=>k_is
 case k9=>exact λV V=>BindsTo.of_eq rfl
 case kB=>exact locs rfl
 case kn=>exact Eq.refl true
 case kd=>exact λp hp=>lS hp▸hPC
 case c2=>exact rfl
 case c3=>exact rfl
 case c4=>exact rfl
 case c5=>decide
 intro S K d m l₁ m1 m2 hro hK hN
 have hC:=hro _ (.head _)
 have R:∀r t seat' rest' t1' t2',0<=r->r<many->seat<=seat'->seat'<=seat+1->0<=rest'->Rt S K d ((P,listOf #[.ref C,.int seat' t1',.int rest' t2'] n)::l₁) (.int r t):=
  λr t seat' rest' t1' t2' a1 a2 a3 a4 a5=>hK _ _ [] _ ⟨r,t,seat',rest',t1',t2',rfl,rfl,rfl,a1,a2,a3,a4,a5⟩ (λV h=>no h) λV h=>h
 clear hK
 refine W.ite (Bv.gt (a:=rest) (b:=0) (by walk_at "ev") (by walk_at "ev")) (λhc=> ?_) (λhc=> ?_)
 ·refine W.assignI (Ev.mod (by walk_at "ev") (by walk_at "ev") hm) (λt3=> ?_)
  refine W.setItem (N:=λn=>0<=n) (Ev.div (by walk_at "ev") (by walk_at "ev") hm (Int.le_trans hm' (by decide))) (Int.fdiv_nonneg hr (Int.le_of_lt hm)) (Ev.nameV m1) Ev.int (by decide) (by decide) .head (λV V=>rfl) (λr4 t4 h4=> ?_)
  exact W.retI (by walk_at "ev") λt5=>R _ _ _ _ _ _ (Cb _ hm).1 (Cb _ hm).2 (Int.le_refl _) (Int.le_add_one (Int.le_refl _)) h4
 refine W.nil (W.assignI (by walk_at "ev") λt6=> ?_)
 refine W.setItem (N:=λn=>n=seat+1) (by walk_at "ev") rfl (Ev.nameV m1) Ev.int (by decide) (by decide) .head (λV V=>rfl) (λs7 t7 h7=> ?_)
 have hcl:=IntsAre.length hi
 refine W.assignN (N:=λV=>True) (Ev.ite (Bv.list (D:=C) (its:=cs) (cN:=nc) (by walk_at "ev") (.tail _ hC) (by exact zn2 39964669791695319786941219105 rfl hlen hcl)) (λhne=> ?_) λV=>Ev.keepN Ev.int trivial) (λc t8 V=> ?_)
 ·have hpos:0<cs.length:=List.length_pos_iff.mpr hne
  have hb:(0:Int)< (cs.length:Nat):=Int.ofNat_lt.mpr hpos
  have i0:=Cb seat hb
  obtain ⟨n9,t9,e9⟩:=ints_get hi (k:=(seat.fmod (cs.length:Nat)).toNat) (by exact lin [_,_] [_] 839043611296301345 rfl i0.2 (iTo (zi1 11044661541 rfl i0.1)))
  exact Ev.item (D:=C) (its:=cs) (cN:=nc) (by walk_at "ev") (Ev.mod (by walk_at "ev") (Ev.len (D:=C) (its:=cs) (cN:=nc) (by walk_at "ev") (.tail _ hC) (by exact zn2 39964669791695319786941219105 rfl hlen hcl)) hb) (.tail _ hC) i0.1 (by exact lin [_,_] [_,_] 2723025454886623210735558088763895273521446 rfl hlen hcl i0.2 p63) e9 ⟨n9,t9,rfl,trivial⟩
 refine W.ite (Bv.and (Bv.lt (a:=seat) (by walk_at "ev") (Ev.len (D:=C) (its:=cs) (cN:=nc) (by walk_at "ev") (.tail _ hC) (by exact zn2 39964669791695319786941219105 rfl hlen hcl))) λV=>Bv.ge (Ev.abs (by walk_at "ev")) (Ev.pow (a:=10) (b:=18) Ev.int Ev.int (by decide) (by decide) (by decide))) (λhc2=> ?_) (λhc2=> ?_)
 ·refine W.assignI (Ev.sub (Ev.abs (by walk_at "ev")) (Ev.pow (a:=10) (b:=18) Ev.int Ev.int (by decide) (by decide) (by decide))) (λt9=> ?_)
  have hg:0<= (if c<0 then-c else c)- 10^ (18:Int).toNat:=Int.sub_nonneg.mpr hc2.2
  refine W.setItem (N:=λn=>0<=n) (Ev.div (by walk_at "ev") (by walk_at "ev") hm (Int.le_trans hm' (by decide))) (Int.fdiv_nonneg hg (Int.le_of_lt hm)) (Ev.nameV m1) Ev.int (by decide) (by decide) .head (λV V=>rfl) (λr4 t4 h4=> ?_)
  exact W.retI (Ev.mod (by walk_at "ev") (by walk_at "ev") hm) λt5=>R _ _ _ _ _ _ (Cb _ hm).1 (Cb _ hm).2 (by exact zi2 387716603740453 rfl h7) (by exact zi2 398146671681863973 rfl h7) h4
 have pb:∀x:Int,0<=x.fmod 2147483587/\x.fmod 2147483587<2147483587:=λx=>Cb x (by decide)
 have pc:∀x:Int,0<=x.fmod 2147483579/\x.fmod 2147483579<2147483579:=λx=>Cb x (by decide)
 have pa:=Cb c (b:=2147483629) (by decide)
 refine W.nil ?_
 refine' W.assignN (N:=λn=>0<=n/\n<2147483587) ?h1 ?h2
 case h1=>
  refine Ev.keepN (Ev.mod (Ev.pow (b:=3) (Ev.add (a:=c.fmod 2147483629+40503*seat) (b:=977) (Ev.add (Ev.mod (by walk_at "ev") Ev.int ?d1) (Ev.mul Ev.int (by walk_at "ev") ?m1)) Ev.int) Ev.int ?d2 ?d3 ?p1) Ev.int ?d4) (pb _)
  case d1=>decide
  case d2=>decide
  case d3=>decide
  case d4=>decide
  case m1=>mul_fits
  case p1=>lia
 intro b1 tb1 hb1
 refine' W.assignN (N:=λn=>0<=n/\n<2147483579) ?h1b ?h2b
 case h1b=>
  have q1:0<=b1* (2*seat+5003)/\b1* (2*seat+5003)<=2147483587*2005003:=⟨Int.mul_nonneg hb1.1 (by exact zi1 380644412429699787045 rfl hs0),Int.mul_le_mul (by omega) (by omega) (by exact zi1 380644412429699787045 rfl hs0) (by decide)⟩
  have q2:0<=seat*seat/\seat*seat<=1000000*1000000:=⟨Int.mul_nonneg hs0 hs0,Int.mul_le_mul (by exact zi1 1152922261535889369497893 rfl hs1) (by exact zi1 1152922261535889369497893 rfl hs1) (by exact zi1 11044661541 rfl hs0) (by decide)⟩
  subst h7
  refine Ev.keepN (Ev.mod (Ev.pow (b:=3) (Ev.add (a:=b1* (2*seat+5003)+seat*seat) (b:=11) (Ev.add (Ev.mul (by walk_at "ev") (Ev.add (Ev.mul Ev.int (by walk_at "ev") ?m1b) Ev.int) ?m2b) (Ev.mul (by walk_at "ev") (by walk_at "ev") ?m3b)) Ev.int) Ev.int ?d2b ?d3b ?p1b) Ev.int ?d4b) (pc _)
  case d2b=>decide
  case d3b=>decide
  case d4b=>decide
  case m1b=>mul_fits
  case m2b=>mul_fits
  case m3b=>mul_fits
  case p1b=>lia
 intro b2 tb2 hb2
 exact W.retI (Ev.mod (Ev.div (by walk_at "ev") Ev.int (by decide) (by decide)) (by walk_at "ev") hm) λt5=>R _ _ _ _ _ _ (Cb _ hm).1 (Cb _ hm).2 (by exact zi2 387716603740453 rfl h7) (by exact zi2 398146671681863973 rfl h7) hr
noncomputable abbrev Bb(C:Addr)(seat:Int)(t1:Tok)(rest:Int)(t2:Tok)(n:Nat):Obj:=listOf #[.ref C,.int seat t1,.int rest t2] n
end
example:Fl:=by walk_at "zF"
section
section
variable {prog:Program}{w:World}{A:Around}{I:Addr}{fp wr:List Addr}{G:Array GenState->Array GenState->Prop}{n:Nat}{P:Nat->Value->Prop}{St:Nat->Shared->Prop}
theorem Wf(W:WalksS prog w A I fp wr G n P St)(acc:Array Value):
  WalksS prog w A I fp wr G (acc.size+n) (λi v=>if i<acc.size then acc[i]?=some v else P (i- acc.size) v) (λi s=>acc.size<=i/\St (i- acc.size) s) where
 sub:=W.sub
 grefl:=W.grefl
 gtrans:=W.gtrans
 frame:=λi s h' tk st ht hk=>⟨st.1,W.frame _ s h' tk st.2 ht hk⟩
 item:=λi s Q E hi st hQ=>W.item _ s Q E (by exact zn4 79123023568304230924577 rfl hi (Ab (zn2 34661761312 rfl st.1))) st.2 λv s' hP st' hm=>hQ v s' (by rw [if_neg (by exact zn2 1375764772 rfl st.1)];exact hP) ⟨by exact zn2 35493980537120 rfl st.1,by rw [show i+1- acc.size=i- acc.size+1 by exact Nat.le_antisymm (zn4 439008137155326393044874952992 rfl (Aa _ _) (Nat.sub_add_cancel (zn2 35493980537120 rfl st.1))) (zn4 82966503632649218505491632416 rfl (Aa _ _) (Nat.sub_add_cancel (zn2 34661761312 rfl st.1)))];exact st'⟩ hm
 done:=λs Q E st hQ=>W.done s Q E (by have:=st.2;rwa [Nat.add_sub_cancel_left] at this) hQ
 self:=λi s Q E st hQ=>W.self _ s Q E st.2 hQ
theorem P9(acc:Array Value):ItemsOf (λi v=>if i<acc.size then acc[i]?=some v else P (i- acc.size) v) acc acc.size:=
 ⟨rfl,λj v h=>by
  have hj:j<acc.size:=(Array.getElem?_eq_some_iff.mp h).1
  show (if j<acc.size then acc[j]?=some v else P (j- acc.size) v)
  rw [if_pos hj];exact h⟩
end
theorem P6{vs:List Value}{ns:List Int}{a:Int}{n:Nat}{acc':Array Value}(hi:IntsAre vs ns)
  (h:ItemsOf (λi v=>if i<vs.toArray.size then vs.toArray[i]?=some v else ∃t,v= .int (a+ ((i- vs.toArray.size:Nat):Int)*1) t) acc' (vs.toArray.size+n)):IntsAre acc'.toList (ns++rangeKs a n):=by
 obtain ⟨hsz,hit⟩:=h
 have hl:=IntsAre.length hi
 simp only [List.size_toArray] at hsz hit
 have key:∀(l:List Value) (ms:List Int),l.length=ms.length->(∀(j:Nat) v m,l[j]?=some v->ms[j]?=some m->∃t,v= .int m t)->IntsAre l ms:=by
  intro l
  induction l with
  | nil=>intro ms h1 _;cases ms with
   | nil=>exact .nil
   | cons _ _=>cases h1
  | cons v l ih=>
   intro ms h1 h2
   cases ms with
   | nil=>cases h1
   | cons m ms=>
    obtain ⟨t,rfl⟩:=h2 0 v m rfl rfl
    exact .cons m t (ih ms (by simpa using h1) λj v' m' e1 e2=>h2 (j+1) v' m' (by simpa using e1) (by simpa using e2))
 refine key _ _ (by simp [hsz,hl,rangeKs_length]) λj v m e1 e2=> ?_
 have e1':acc'[j]?=some v:=by simpa using e1
 have:=hit j v e1'
 split at this
 ·rename_i hj
  have hj':j<ns.length:=zn3 72375389709697313 rfl hl hj
  rw [List.getElem?_append_left hj'] at e2
  obtain ⟨t,ht⟩:=hi.get j m e2
  have h3:vs[j]?=some v:=by simpa using this
  rw [ht] at h3
  exact ⟨t,(sJ h3).symm⟩
 ·rename_i hj
  obtain ⟨t,rfl⟩:=this
  have hjn:j<vs.length+n:=by
   have:=(Array.getElem?_eq_some_iff.mp e1').1
   exact zn4 113670063794494239277345 rfl hsz this
  rw [List.getElem?_append_right (by exact zn3 73504553724576032 rfl hl hj)] at e2
  have hjn2:j- ns.length<n:=zn5 162194666074271845205588082977 rfl hl hjn (Ab (zn3 73504553724576032 rfl hl hj))
  have hk:(rangeKs a n)[j- ns.length]?=some (a+ ((j- ns.length:Nat):Int)):=by simp [rangeKs,hjn2]
  rw [hk] at e2
  refine ⟨t,?_⟩
  have:=sJ e2
  rw [<-this,<-hl]
  congr 1
  omega
section
variable {prog:Program}{w:World}{A:Around}{E:Value->Shared->Prop}{s:Shared}{h₀:Heap}{L:Addr}{m:Str->Option Value}{news:List (Addr×Obj)}{g:Obj->List (Addr×Obj)}
theorem Cw(F:Fr h₀ L h m)(N:News h₀ L h news)(U:UpdF D o news g)(hk:∀b x,b≠D->h.get? b=some x->h'.get? b=some x)(hD:h'.get? D=some o'):
  Fr h₀ L h' m/\News h₀ L h' (g o'):=by
 obtain ⟨pre,post,rfl,hg,h1,h2⟩:=U.split
 have hm:=N (D,o) (lR _ (.head _))
 obtain ⟨oL,es,ep,hL,r⟩:=F.ns
 refine ⟨⟨⟨oL,es,ep,hk L oL (Ne.symm hm.2.1) hL,r⟩,λb x e=>hk b x (λq=> ?_) (F.keep b x e),F.above⟩,?_⟩
 ·have:=hm.2.2;rw [q] at e;rw [show h₀.get? D=some x from e] at this;cases this
 ·rw [hg]
  intro p hp
  rcases lA hp with q | q
  ·have P:=N p (lL _ q);exact ⟨hk _ _ (h1 p q) P.1,P.2⟩
  ·rcases lC q with rfl | q
   ·exact ⟨hD,hm.2⟩
   ·have P:=N p (lR _ (.tail _ q));exact ⟨hk _ _ (h2 p q) P.1,P.2⟩
theorem Ox{D r:Addr}{vs:List Value}{ns:List Int}{a b:Int}{t u v:Tok}{c n:Nat}{Q:Value->Shared->Prop}(hh:A.handled=none)(F:Fr h₀ L s.heap m)(N:News h₀ L s.heap news)(U:UpdF D (listOf vs.toArray c) news g)
  (hi:IntsAre vs ns)(hr:IsRange s.heap r a b 1 t u v)(hsmall:Builtin.Range.small a b 1=true)(hn:Builtin.Range.rangeSize a b 1=(n:Int))(hlen:vs.length+n<=2^20)
  (h:∀h' tk vs' c',Fr h₀ L h' m->News h₀ L h' (g (listOf vs'.toArray c'))->IntsAre vs' (ns++rangeKs a n)->Q .none {s with heap:=h',toks:=tk}):
  wpAny (model prog w) A (call (.builtin "list.extend") [.ref D,.ref r]) Q E s:=by
 have hS:s.heap.get? D=some {cls:= .type "list",data:= .seq vs.toArray c}:=by
  obtain ⟨pre,post,rfl,_⟩:=U.split
  exact (N (D,_) (lR _ (.head _))).1
 refine wpAny_call (codeAny_call_builtin PySem.F.slot_list_extend.plain PySem.F.entry_list_extend (PySem.F.slot_list_extend.check _ _ _ _ _ _ _ _ ⟨_,hS,rfl⟩ (PySem.F.args_list_extend_2 _ _) ?_))
 have hSr:D≠r:=λe=>by rw [e,hr] at hS;simp at hS
 have hSlt:D<s.heap.objs.size:=Heap.lt_size hS
 have hSI:D≠s.heap.objs.size:=Nat.ne_of_lt hSlt
 have hSf:D∉ [s.heap.objs.size]:=λhm=>hSI (lS hm)
 have W:=Wf (Walks.range (prog:=prog) (w:=w) (A:=A.in1) hh s.heap.objs.size a 1 n).toS vs.toArray
 have key:∀(h₁:Heap) (c₁ tk:Nat),IsRangeIter h₁ s.heap.objs.size a (n:Int) 1->(∀b o,b≠D->s.heap.get? b=some o->h₁.get? b=some o)->
   h₁.get? D=some {cls:= .type "list",data:= .seq vs.toArray c₁}->
   codeAny (model prog w) A (.builtin "list.extend.loop" ⟨[.ref D,.ref s.heap.objs.size,.none],[]⟩) (λr s'=>match r with | .ok (.ret v)=>Q v s' | .ok _=>False | .error e=>E e s') {s with heap:=h₁,toks:=tk}:=by
  intro h₁ c₁ tk hit hk hS₁
  refine codeAny_extend_loopS W (by rw [sizeLine_eq];simp only [List.size_toArray];omega) D hSf .none n vs.toArray.size _ vs.toArray c₁ (by exact Ac (zn3 38986505076637984 rfl (Ab (zn2 34210080 rfl))) (zn3 73887271882883360 rfl (Aa _ _))) (by exact zn2 34210080 rfl) ⟨Nat.le_refl _,?_⟩ hS₁ (P9 (P:=λi v=>∃t,v= .int (a+ (i:Int)*1) t) _) λs' acc' c' hm hS' hacc=> ?_
  ·show IsRangeIter _ _ _ _ _
   simpa using hit
  ·obtain ⟨f1,n1⟩:=Cw (h':=s'.heap) F N U (λb o hb e=>hm.heap b o (λhmem=>by
    rcases lC hmem with e' | hmem
    ·exact hb e'
    ·exact absurd (Heap.lt_size e) (by rw [List.mem_singleton.mp hmem];exact Nat.lt_irrefl _)) (hk b o hb e)) hS'
   have e:=Moved.eq_with hm
   rw [e]
   exact h s'.heap s'.toks acc'.toList c' f1 (by simpa using n1) (P6 hi hacc)
 show wpAny _ _ (Builtin.List.listExtendWith (.ref D) (.ref r) .none) _ _ s
 refine wpAny_bind (wpAny_typeOf (T:="range") ⟨_,hr,rfl⟩ ?_)
 have h1:Builtin.List.listSameRef (.ref D) (.ref r)=false:=by simp [Builtin.List.listSameRef,hSr]
 have h2:(Value.type "range"==Value.type "list")=false:=by decide
 have h3:(Value.type "range"==Value.type "tuple")=false:=by decide
 refine wpAny_ite_false (decide_eq_false (by rw [h1,h2,h3];exact Bool.false_ne_true)) ?_
 refine wpAny_bind (wpAny_pyIter_range hr hsmall ?_)
 refine wpAny_bind (wpAny_holding (wpAny_hint_range (n:=n) (hPu _ hr) hn (by omega) ?_))
 have hit₁:IsRangeIter (s.heap.push {cls:= .type "range_iterator",data:= .fields #[rawInt a,rawInt (Builtin.Range.rangeSize a b 1),rawInt 1]}) s.heap.objs.size a (n:Int) 1:=by
  show IsRangeIter _ _ _ _ _;rw [hn];exact Heap.get?_push_size _ rfl
 have hS₁:=hPu {cls:= .type "range_iterator",data:= .fields #[rawInt a,rawInt (Builtin.Range.rangeSize a b 1),rawInt 1]} hS
 refine wpAny_ite_split (λV=> ?_) (λV=>wpAny_pure ⟨plainId_quiet PySem.F.plain_extend_loop _,key _ c _ hit₁ (λb o V e=>hPu _ e) hS₁⟩)
 refine wpAny_bind (wpAny_rule ?_)
 refine wpAny_bind ?_
 show wpAny _ _ (updateSeq D (·.push .none)>>= λV=>updateSeq D (·.pop)) _ _ _
 refine wpAny_bind (wpAny_updateSeq hS₁ rfl ?_ (by rw [sizeLine_eq];simp only [List.size_toArray];omega) (by rw [sizeLine_eq];simp only [Array.size_push,List.size_toArray];omega))
 have hS₂:=Heap.get?_update_self (Obj.mapSeq (·.push Value.none)) hS₁ rfl
 refine wpAny_updateSeq hS₂ rfl ?_ (by rw [sizeLine_eq];simp only [Array.size_push,List.size_toArray];omega) (by rw [sizeLine_eq];simp only [Array.size_pop,Array.size_push,List.size_toArray];omega)
 have hS₃:=get?_update_seq (get?_update_seq hS₁ (·.push Value.none)) (·.pop)
 rw [Array.pop_push] at hS₃
 refine wpAny_pure ⟨plainId_quiet PySem.F.plain_extend_loop _,key _ _ _ ?_ (λb o hb e=> ?_) hS₃⟩
 ·exact (Heap.get?_update_other _ _ hSI).trans ((Heap.get?_update_other _ _ hSI).trans hit₁)
 ·exact (Heap.get?_update_other _ _ (Ne.symm hb)).trans ((Heap.get?_update_other _ _ (Ne.symm hb)).trans (hPu _ e))
theorem Re{value slice:PySem.Expr}{l:Addr}{vs:List Value}{ns:List Int}{c:Nat}{k lo hi:Int}{u:Tok}{Q:Value->Shared->Prop}(N:News h₀ L s.heap news)(hm:(l,listOf vs.toArray c)∈news)(hI:IntsAre vs ns)
  (h0:0<=k)(hk:k<ns.length)(hsz:ns.length<1000)(hall:∀x∈ns,lo<=x/\x<=hi)(h:∀x t,lo<=x->x<=hi->Q (.int x t) s)
  (hs:subscripted slice false (.ref l) (.int k u)=operate [.ref l,.int k u] (getItem (.ref l) (.int k u)):=by with_unfolding_all rfl):
  wpAny (model prog w) A (subscriptTail value slice (.ref l) (.int k u)) Q E s:=by
 have hl:s.heap.IsList l vs.toArray:=⟨_,(N _ hm).1,rfl,c,rfl⟩
 have hkn:k.toNat<ns.length:=lin [_,_] [_] 839043611296301345 rfl hk (iTo (zi1 11044661541 rfl h0))
 obtain ⟨t,ht⟩:=hI.get k.toNat ns[k.toNat] (by simp [hkn])
 have hb:=hall ns[k.toNat] (List.getElem_mem _)
 exact tail_any hl.typeIs slot_list_getitem.lookup (wpAny_getItem_list hl h0 (by exact lin [_] [_,_] 2596879439243777076592486229875917094 rfl hk hsz p63) (by simpa using ht) (h _ t hb.1 hb.2)) hs
end
end
section
noncomputable def Asc(xs:Array Nat):Prop:=∀i j,i<j->j<xs.size->xs.getD i 0<xs.getD j 0
structure Cut(xs:Array Nat)(j r:Nat):Prop where
 a:r<=xs.size
 b:∀i,i<r->xs.getD i 0<j
 c:∀i,r<=i->i<xs.size->j<=xs.getD i 0
theorem Nb(ha:Asc xs)(j:Nat)(fuel:Nat):∀(lo hi:Nat),hi- lo<=fuel->lo<=hi->hi<=xs.size->(∀i,i<lo->xs.getD i 0<j)->(∀i,hi<=i->i<xs.size->j<=xs.getD i 0)->Cut xs j (SetTable.below.go xs j fuel lo hi):=by
 induction fuel with
 | zero=>exact λlo hi h1 h2 h3 h4 h5=>⟨nTr h2 h3,h4,(Ac h2 (zn3 39920224102407766304 rfl h1 (Aa _ _)):lo=hi)▸h5⟩
 | succ fuel ih=>
  intro lo hi h1 h2 h3 h4 h5
  show Cut xs j (if lo<hi then if xs.getD ((lo+hi)/2) j<j then SetTable.below.go xs j fuel ((lo+hi)/2+1) hi else SetTable.below.go xs j fuel lo ((lo+hi)/2) else lo)
  by_cases hlt:lo<hi
  ·have hb:(lo+hi)/2<xs.size:=zn4 2616144139962101168169058625 rfl h3 hlt (Nat.mul_div_le _ 2)
   have hmid:xs.getD ((lo+hi)/2) j=xs.getD ((lo+hi)/2) 0:=by rw [Array.getD_eq_getD_getElem?,Array.getD_eq_getD_getElem?,Array.getElem?_eq_getElem hb];rfl
   rw [if_pos hlt,hmid]
   by_cases hm:xs.getD ((lo+hi)/2) 0<j
   ·rw [if_pos hm]
    refine ih _ _ (by exact zn6 6356426890250902057353043164852971383384531042624 rfl h1 (Fi _ 2 rfl) (Aa _ _) (Ab (zn3 1308123510167869211038016 rfl hlt (Nat.mul_div_le _ 2)))) (by exact zn3 1308123510167869211038016 rfl hlt (Nat.mul_div_le _ 2)) h3 (λi hi'=> ?_) h5
    exact (Nat.lt_or_eq_of_le (Nat.le_of_lt_succ hi')).elim (λh=>Nat.lt_trans (ha i _ h hb) hm) λe=>e▸hm
   ·rw [if_neg hm]
    refine ih _ _ (by exact zn6 4356478383161010991245957966894299936227648 rfl h1 (Nat.mul_div_le _ 2) (Aa _ _) (Ab (zn3 14573963164577508745052480 rfl hlt (Fi _ 2 rfl)))) (by exact zn3 14573963164577508745052480 rfl hlt (Fi _ 2 rfl)) (Nat.le_of_lt hb) h4 λi h6 h7=> ?_
    exact (Nat.lt_or_eq_of_le h6).elim (λh=>nTr (Nat.not_lt.mp hm) (Nat.le_of_lt (ha _ i h h7))) λe=>e▸Nat.not_lt.mp hm
  ·rw [if_neg hlt]
   exact ⟨nTr h2 h3,h4,(Ac h2 (Nat.not_lt.mp hlt):lo=hi)▸h5⟩
theorem I8(ha:Asc xs)(j:Nat):Cut xs j (SetTable.below xs j):=
 Nb ha j xs.size 0 xs.size (Nat.sub_le _ _) (Nat.zero_le _) (Nat.le_refl _) (λi h=>absurd h (Nat.not_lt_zero _)) (λi h1 h2=>absurd h2 (Nat.not_lt.mpr h1))
theorem Fp{xs:Array Nat}{i:Nat}(h:i<xs.size):xs.getD i 0=xs[i]:=by simp [Array.getD,h]
theorem below_at(ha:Asc xs)(hi:i<=xs.size)(h1:∀k,k<i->xs.getD k 0<j)(h2:i<xs.size->j<=xs.getD i 0):SetTable.below xs j=i:=by
 have ⟨a,b,c⟩:=I8 ha j
 rcases Nat.lt_trichotomy (SetTable.below xs j) i with h | h | h
 ·have:=c _ (Nat.le_refl _) (by exact zn3 72375389707600161 rfl hi h)
  exact absurd (h1 _ h) (Nat.not_lt.mpr this)
 ·exact h
 ·have:=b i h
  exact absurd (h2 (by exact zn3 72375389707600161 rfl a h)) (Nat.not_le.mpr this)
theorem M5{xs:Array Nat}(ha:Asc xs){j:Nat}(hn:xs[SetTable.below xs j]?≠some j):Asc (SetTable.insertAt xs (SetTable.below xs j) j):=by
 have ⟨a,b,c⟩:=I8 ha j
 generalize hp:SetTable.below xs j=p at a b c hn
 have hsz:(SetTable.insertAt xs p j).size=xs.size+1:=by
  rw [<-Array.length_toList,SetTable.toList_insertAt,List.length_append,List.length_cons,List.length_take,List.length_drop,Array.length_toList]
  exact Ac (zn4 83005189257315560726208729376 rfl (Nat.min_le_left _ _) (Ab (zn2 34661761312 rfl a))) (zn4 120353517482088035202626507040 rfl (Aa _ _) (Nat.min_eq_left (zn2 34661761312 rfl a)))
 have hget:∀i,i<xs.size+1->(SetTable.insertAt xs p j).getD i 0=if i<p then xs.getD i 0 else if i=p then j else xs.getD (i- 1) 0:=by
  intro i hi
  have e:(SetTable.insertAt xs p j).getD i 0=((SetTable.insertAt xs p j).toList)[i]?.getD 0:=by
   rw [Array.getElem?_toList];simp [Array.getD_eq_getD_getElem?]
  rw [e,SetTable.toList_insertAt]
  by_cases h1:i<p
  ·rw [if_pos h1,List.getElem?_append_left (by rw [List.length_take,Array.length_toList];exact zn3 73432052595196193 rfl h1 (Nat.min_eq_left (zn2 34661761312 rfl a))),List.getElem?_take_of_lt h1,Array.getElem?_toList,Array.getD_eq_getD_getElem?]
  ·rw [if_neg h1,List.getElem?_append_right (by rw [List.length_take,Array.length_toList];exact zn3 72374323486163232 rfl h1 (Nat.min_le_left _ _))]
   have hl:(List.take p xs.toList).length=p:=by rw [List.length_take,Array.length_toList];exact Ac (zn2 34661761312 rfl (Nat.min_le_left _ _)) (zn2 1310753056 rfl (Nat.min_eq_left (zn2 34661761312 rfl a)))
   rw [hl]
   by_cases h2:i=p
   ·rw [if_pos h2,h2,Nat.sub_self];rfl
   ·rw [if_neg h2]
    have e3:i- p=(i- 1- p)+1:=Ac (zn5 170073434560351935481315964126626080 rfl (Aa _ _) (Aa _ _) (Ab (zn2 1379959072 rfl h1))) (zn5 97543537547366417405733631803019552 rfl (Aa _ _) (Ab (zn3 74112750185164603680 rfl (Aa _ _) (Nat.lt_of_le_of_ne (zn2 1379959072 rfl h1) (Ne.symm h2)))) (Ab (zn2 1376791840 rfl (Nat.lt_of_le_of_ne (zn2 1379959072 rfl h1) (Ne.symm h2)))))
    rw [e3,List.getElem?_cons_succ,List.getElem?_drop,Array.getElem?_toList,Array.getD_eq_getD_getElem?]
    congr 2
    congr 1
    exact Ac (zn5 166300906374072725070693184176148768 rfl e3 (Aa _ _) (Ab (zn2 1379959072 rfl h1))) (zn3 38984593580884256 rfl (Aa _ _))
 intro i k hik hk
 rw [hsz] at hk
 rw [hget i (by exact zn3 417489343174956289753377 rfl hik hk),hget k hk]
 have hjp:p<xs.size->j<xs.getD p 0:=by
  intro h
  have h3:=c p (Nat.le_refl _) h
  have h4:xs.getD p 0≠j:=by
   intro e
   apply hn
   rw [Fp h] at e
   rw [Array.getElem?_eq_getElem h,e]
  exact zn2 34662809889 rfl (Nat.lt_of_le_of_ne (zn2 34661761312 rfl h3) (Ne.symm h4))
 by_cases h1:k<p
 ·rw [if_pos h1,if_pos (by exact zn3 38598424715624737 rfl hik h1)]
  exact ha i k hik (by exact zn3 72375389707600161 rfl a h1)
 ·rw [if_neg h1]
  by_cases h2:k=p
  ·rw [if_pos h2,if_pos (by exact zn3 38599524227252513 rfl hik h2)]
   exact b i (by exact zn3 38599524227252513 rfl hik h2)
  ·rw [if_neg h2]
   by_cases h3:i<p
   ·rw [if_pos h3]
    exact Nat.lt_of_lt_of_le (b i h3) (c (k- 1) (by exact zn3 74112750185164603680 rfl (Aa _ _) (Nat.lt_of_le_of_ne (zn2 1379959072 rfl h1) (Ne.symm h2))) (by exact zn3 88567756883688218984737 rfl hk (Ab (zn2 1376791840 rfl hik))))
   ·rw [if_neg h3]
    by_cases h4:i=p
    ·rw [if_pos h4]
     have:=hjp (by exact zn4 2762992098041373156999457 rfl hik hk h3)
     by_cases h5:k- 1=p
     ·rw [h5];exact this
     ·exact Nat.lt_trans this (ha p (k- 1) (by exact zn2 34662809889 rfl (Nat.lt_of_le_of_ne (zn3 74112750185164603680 rfl (Aa _ _) (Nat.lt_of_le_of_ne (zn3 2572894019289376 rfl hik h3) (Ne.symm h2))) (Ne.symm h5))) (by exact zn3 88567756883688218984737 rfl hk (Ab (zn2 1376791840 rfl hik))))
    ·rw [if_neg h4]
     exact ha (i- 1) (k- 1) (by exact zn4 92870024242071382781401792801 rfl hik (Aa _ _) (Ab (zn2 1376791840 rfl (Nat.lt_of_le_of_ne (zn2 1379959072 rfl h3) (Ne.symm h4))))) (by exact zn3 88567756883688218984737 rfl hk (Ab (zn2 1376791840 rfl hik)))
theorem Iz(n:Nat):Asc (Array.range n):=by
 intro i j hij hj
 rw [Array.size_range] at hj
 simp only [Array.getD_eq_getD_getElem?,Array.getElem?_range]
 simp [hj,Nat.lt_trans hij hj,hij]
theorem M6:Asc #[]:=λV V V h=>absurd h (Nat.not_lt_zero _)
structure Bu(by_:Bool)(t:SetTable):Prop where
 asc:Asc t.place
 nodum:t.dummies= #[]
 led:t.led= !by_
theorem So(hd:t.dummies= #[])(hashAt:Nat->Int)(h:Int)(j:Nat)(d:Option Nat)(fuel:Nat):∀p:SetTable.Probe,p.dummy=none->SetTable.probe.go t hashAt h fuel p=some (.empty j d)->d=none/\t.place[SetTable.below t.place j]?≠some j:=by
 induction fuel with
 | zero=>exact λV V e=>nn e
 | succ fuel ih=>
  intro p hp e
  have e:(match t.slot p.j with
   | .empty=>some (.empty p.j p.dummy)
   | .dummy=>SetTable.probe.go t hashAt h fuel (t.advance {p with dummy:=some p.j})
   | .live i=>if hashAt i==h then some (.candidate p.j i (t.advance p)) else SetTable.probe.go t hashAt h fuel (t.advance p))=some (.empty j d):=e
  have hs:t.slot p.j=if t.place[SetTable.below t.place p.j]?==some p.j then .live (SetTable.below t.place p.j) else .empty:=by
   show (if _ then _ else if SetTable.has t.dummies p.j then _ else _)=_
   rw [hd];rfl
  have ha:(t.advance p).dummy=none:=by unfold SetTable.advance;split<;>exact hp
  rw [hs] at e
  by_cases hb:t.place[SetTable.below t.place p.j]?=some p.j
  ·rw [if_pos (beq_iff_eq.mpr hb)] at e
   have e:(if (hashAt (SetTable.below t.place p.j)==h)=true then some (.candidate p.j (SetTable.below t.place p.j) (t.advance p)) else SetTable.probe.go t hashAt h fuel (t.advance p))=some (.empty j d):=e
   split at e
   ·cases e
   ·exact ih _ ha e
  ·rw [if_neg λq=>hb (beq_iff_eq.mp q)] at e
   cases e
   exact ⟨hp,hb⟩
theorem Qv(T:Bu b t)(es:Array (Int×Value))(h:Int)(x:Value):Bu b (layNew t es h x).2.1:=by
 have hst:∀(t':SetTable) n,Bu b t'->Bu b (t'.standIn n):=λt' n T'=>⟨Iz n,rfl,T'.led⟩
 unfold layNew
 cases hf:t.freeSlot h with
 | none=>exact hst _ _ T
 | some p=>
  obtain ⟨slot,wd⟩:=p
  dsimp only
  have hput:Bu b (t.put slot).1:=by
   unfold SetTable.freeSlot at hf
   split at hf
   ·rename_i j dummy hp
    obtain ⟨hd,hj⟩:=So T.nodum _ _ _ _ _ _ rfl hp
    subst hd
    cases hf
    unfold SetTable.put
    refine ⟨M5 T.asc hj,?_,T.led⟩
    have:SetTable.has t.dummies j=false:=by rw [T.nodum];simp [SetTable.has]
    show (if SetTable.has t.dummies j=true then SetTable.eraseAt t.dummies (SetTable.below t.dummies j) else t.dummies)= #[]
    simp only [this,Bool.false_eq_true,if_false]
    exact T.nodum
   ·cases hf
  unfold SetTable.orStandIn
  split
  ·exact hput
  ·exact hst _ _ hput
theorem Tj{b:Bool}{t:SetTable}(T:Bu b t)(es:Array (Int×Value))(wanted:Nat):Bu b (relayAll t es wanted).2.1:=by
 have hst:∀n,Bu b (t.standIn n):=λn=>⟨Iz n,rfl,T.led⟩
 unfold relayAll
 cases hr:t.relaid (es.map (·.1)) wanted with
 | none=>exact hst _
 | some p=>
  obtain ⟨t',order⟩:=p
  dsimp only
  split
  ·unfold SetTable.relaid SetTable.laid at hr
   cases ho:SetTable.layClean (SetTable.sizeAbove wanted- 1) (es.map (·.1)) with
   | none=>rw [ho] at hr;cases hr
   | some owner=>
    rw [ho] at hr
    simp only [bind,Option.bind,pure,Option.some.injEq,Prod.mk.injEq] at hr
    obtain ⟨rfl, -⟩:=hr
    refine ⟨?_,rfl,T.led⟩
    dsimp only
    have key:∀(l:List Nat),l.Pairwise (· < ·)->((l.filterMap λj=>(owner.getD j none).map (j,·)).map (·.1)).Pairwise (· < ·):=by
     intro l hl
     induction l with
     | nil=>exact .nil
     | cons a l ih=>
      obtain ⟨h1,h2⟩:=List.pairwise_cons.mp hl
      rw [List.filterMap_cons]
      cases hg:(owner.getD a none).map (a,·) with
      | none=>exact ih h2
      | some q=>
       have hq:q.1=a:=by
        cases hh:owner.getD a none with
        | none=>rw [hh] at hg;cases hg
        | some z=>rw [hh] at hg;cases hg;rfl
       rw [List.map_cons,List.pairwise_cons]
       refine ⟨λy hy=> ?_,ih h2⟩
       obtain ⟨r,hr,rfl⟩:=List.mem_map.mp hy
       obtain ⟨c,hc,hcr⟩:=List.mem_filterMap.mp hr
       have hr1:r.1=c:=by
        cases hh:owner.getD c none with
        | none=>rw [hh] at hcr;cases hcr
        | some z=>rw [hh] at hcr;cases hcr;rfl
       rw [hq,hr1]
       exact h1 c hc
    have hp:=key (List.range (SetTable.sizeAbove wanted- 1+1)) List.pairwise_lt_range
    intro i j hij hj
    rw [List.size_toArray] at hj
    have hg:=List.pairwise_iff_getElem.mp hp i j (Nat.lt_trans hij hj) hj hij
    rw [Fp (by rw [List.size_toArray];exact zn3 38598424715624737 rfl hij hj),Fp (by rw [List.size_toArray];exact hj)]
    simpa using hg
  ·exact hst _
noncomputable def B8(prog:Program)(w:World)(o:Obj)(vs:List Value)(ks:List Int):Prop:=
 ∃es ep t,o= {cls:= .type "set",dict:=none,data:= .set es ep t}/\ElemsOf (intKind prog w) es.toList/\es.toList.map (·.2)=vs/\IntsAre vs ks/\ks.Nodup/\t.fits es.size=true/\Bu (w.params.followText "set-order") t
section
variable {prog:Program}{w:World}{A:Around}{E:Value->Shared->Prop}{s:Shared}
theorem Ke(h:IntsAre vs ks)(p:vs'.Perm vs):∃ks',IntsAre vs' ks'/\ks'.Perm ks:=by
 refine ⟨vs'.map numOf,intsAre_map _ λv hv=>h.all v (p.mem_iff.mp hv),?_⟩
 rw [<-h.nums]
 exact p.map _
theorem Kh(h:IntsAre vs ks)(k:Int):(∃v∈vs,(intKind prog w).is k v=true) ↔ k∈ks:=by
 induction h with
 | nil=>simp
 | cons n t _ ih=>
  rw [List.mem_cons,<-ih]
  constructor
  ·rintro ⟨v,hv,e⟩
   rcases lC hv with rfl | hv
   ·exact .inl ((intKind prog w).inj _ _ _ e (intKind_is prog w n t))
   ·exact .inr ⟨v,hv,e⟩
  ·rintro (rfl | ⟨v,hv,e⟩)
   ·exact ⟨_,.head _,intKind_is prog w _ t⟩
   ·exact ⟨v,.tail _ hv,e⟩
theorem Gc(h:Q (w.params.followText "set-order") s):wpAny (model prog w) A setsByText Q E s:=by
 unfold setsByText
 exact wpAny_bind (wpAny_askSetting (wpAny_pure h))
noncomputable abbrev Ex(es:Array (Int×Value))(ep:Nat)(t:SetTable):Obj:= {cls:= .type "set",dict:=none,data:= .set es ep t}
theorem Uc{es es2:Array (Int×Value)}{vs:List Value}{ks:List Int}{k h:Int}{tk:Tok}{t2:SetTable}{ep2:Nat}(hI:IntsAre vs ks)(hnd:ks.Nodup)(hnin:k∉ks)(hvs:es.toList.map (·.2)=vs)(hel:ElemsOf (intKind prog w) es2.toList)(hp:es2.toList.Perm (es.toList++ [(h,.int k tk)]))(hf2:t2.fits es2.size=true)(T2:Bu (w.params.followText "set-order") t2):
  ∃vs' ks',B8 prog w (Ex es2 ep2 t2) vs' ks'/\(∀x,x∈ks' ↔ x∈ks\/x=k)/\ks'.length<=ks.length+1:=by
 have hp2:(es2.toList.map (·.2)).Perm (vs++ [Value.int k tk]):=by
  have:=hp.map (·.2)
  rw [List.map_append,hvs] at this
  exact this
 obtain ⟨ks',hk1,hk2⟩:=Ke (IntsAre.append hI (.cons k tk .nil)) hp2
 refine ⟨_,ks',⟨es2,ep2,t2,rfl,hel,rfl,hk1,hk2.nodup_iff.mpr (List.nodup_append.mpr ⟨hnd,List.nodup_cons.mpr ⟨List.not_mem_nil,.nil⟩,λx hx y hy e=>hnin (lS hy▸e▸hx)⟩),hf2,T2⟩,λx=> ?_,Nat.le_of_eq (hk2.length_eq.trans List.length_append)⟩
 rw [hk2.mem_iff,List.mem_append,List.mem_singleton]
theorem gaveWay(hq:Q' () s₁):wpAny (model prog w) A (match b with | true=>rule "set.scan.the-table-gave-way" | false=>pure ()) Q' E s₁:=by cases b<;>first | exact wpAny_pure hq | exact wpAny_rule hq
theorem Lq(ho:s.heap.get? a=some (Ex es ep t))(hf2:t2.fits es1.size=true)(T2:Bu b t2)(hsz:es1.size<scanBound)
  (done:∀es2 t3 ep2 h',es2.toList.Perm es1.toList->t3.fits es2.size=true->Bu b t3->Heap.SameBut a s.heap h'->h'.get? a=some (Ex es2 ep2 t3)->Q (some true) {s with heap:=h'}):
  wpAny (model prog w) A (do
   storeSet a es1 t2
   if (!wd&&t2.tooFull)=true then do
     (match (relayAll t2 es1 (SetTable.grown es1.size)).2.2 with | true=>rule "set.scan.the-table-gave-way" | false=>pure ())
     storeSet a (relayAll t2 es1 (SetTable.grown es1.size)).1 (relayAll t2 es1 (SetTable.grown es1.size)).2.1
     pure (some true)
    else pure (some true)) Q E s:=by
 have hg1:(s.heap.update a (Obj.putSet es1 t2)).get? a=some (Ex es1 (ep+1) t2):=Heap.get?_update_self (Obj.putSet es1 t2) ho rfl
 have hsb1:=Heap.SameBut.update s.heap a (Obj.putSet es1 t2)
 have hp:=relayAll_perm t2 es1 (SetTable.grown es1.size)
 refine wpAny_bind (wpAny_storeSet_of ho rfl (wpAny_ite_split (λV=>wpAny_bind (gaveWay (wpAny_bind (wpAny_storeSet_of (s:= {s with heap:=s.heap.update a (Obj.putSet es1 t2)}) hg1 rfl (wpAny_pure ?_) (fits_of_scanBound ?_))))) λV=>wpAny_pure (done _ _ _ _ (.refl _) hf2 T2 hsb1 hg1)) (fits_of_scanBound hsz))
 ·exact done _ _ _ _ hp (relayAll_fits t2 es1 (SetTable.grown es1.size)) (Tj T2 es1 (SetTable.grown es1.size)) (hsb1.trans (Heap.SameBut.update _ a _)) (Heap.get?_update_self (Obj.putSet _ _) hg1 rfl)
 ·rw [<-Array.length_toList,hp.length_eq,Array.length_toList];exact hsz
theorem Tx(ho:s.heap.get? a=some o)(S:B8 prog w o vs ks)(hroom:ks.length+1<scanBound)
  (h:∀h' tk' o' vs' ks' b,Heap.SameBut a s.heap h'->h'.get? a=some o'->B8 prog w o' vs' ks'->(∀x,x∈ks' ↔ x∈ks\/x=k)->ks'.length<=ks.length+1->Q b {s with heap:=h',toks:=tk'}):
  wpAny (model prog w) A (setAdd a (.int k tk)) Q E s:=by
 obtain ⟨es,ep,t,rfl,hel,hvs,hI,hnd,hf,T⟩:=S
 have hkey:=intKind_is prog w k tk
 have hlen:es.size=ks.length:=by rw [<-IntsAre.length hI,<-hvs,List.length_map,Array.length_toList]
 refine wpAny_holding (wpAny_bind ((intKind prog w).pyHash hkey (wpAny_holding (wpAny_bind (wpAny_setState_of (s:= {s with toks:=s.toks+1}) ho rfl hf ?_)))))
 refine wpAny_ite_true (decide_eq_true (byScan_of (knd:=intKind prog w) rfl (by exact zn3 74113534637319946529 rfl hroom hlen) hel)) ?_
 refine wpAny_bind (wpAny_bind (wpAny_rule (wpAny_bind (wpAny_setScan_of (knd:=intKind prog w) (s:= {s with toks:=s.toks+1}) hkey ho rfl hf hel ?_))))
 cases hr:List.findIdx? (λe=>(intKind prog w).is k e.2) es.toList with
 | some j=>
  obtain ⟨hj,hpj,_⟩:=List.findIdx?_eq_some_iff_getElem.mp hr
  have hin:k∈ks:=(Kh (prog:=prog) (w:=w) hI k).mp ⟨(es.toList[j]).2,hvs▸List.mem_map_of_mem (List.getElem_mem hj),hpj⟩
  exact wpAny_pure (wpAny_pure (h s.heap _ _ vs ks false (Heap.SameBut.refl a s.heap) ho ⟨es,ep,t,rfl,hel,hvs,hI,hnd,hf,T⟩ (λx=>⟨.inl,λhx=>hx.elim id λe=>e▸hin⟩) (Nat.le_succ _)))
 | none=>
  have hnin:k∉ks:=λhin=>by
   obtain ⟨v,hv,e⟩:=(Kh (prog:=prog) (w:=w) hI k).mpr hin
   rw [<-hvs] at hv
   obtain ⟨q,hq,e2⟩:=List.mem_map.mp hv
   have:=List.findIdx?_eq_none_iff.mp hr q hq
   rw [e2,e] at this;exact nbT this
  have hperm:=layNew_perm t es ((intKind prog w).hash k) (.int k tk)
  have hfits:=layNew_fits t es ((intKind prog w).hash k) (.int k tk)
  have hT:=Qv T es ((intKind prog w).hash k) (.int k tk)
  rw [Array.toList_push] at hperm
  generalize layNew t es ((intKind prog w).hash k) (.int k tk)=L at hperm hfits hT ⊢
  obtain ⟨es1,t1,wd,gave⟩:=L
  have hel1:=(hel.push hkey rfl).perm hperm
  have hsz1:es1.size=ks.length+1:=by rw [<-Array.length_toList,hperm.length_eq,List.length_append,Array.length_toList,hlen];rfl
  have fin:∀es2 t3 ep2 h',es2.toList.Perm es1.toList->t3.fits es2.size=true->Bu (w.params.followText "set-order") t3->Heap.SameBut a s.heap h'->h'.get? a=some (Ex es2 ep2 t3)->wpAny (model prog w) A (pure true) Q E {s with heap:=h',toks:=s.toks+1}:=λes2 t3 ep2 h' hp hf2 T2 hsb hg=>by
   obtain ⟨vs',ks',hS,hm,hln⟩:=Uc (ep2:=ep2) hI hnd hnin hvs (hel1.perm hp) (hp.trans hperm) hf2 T2
   exact wpAny_pure (h h' _ _ vs' ks' true hsb hg hS hm hln)
  exact wpAny_bind (gaveWay (wpAny_ite_split (λV=>wpAny_bind (wpAny_of_eq (hashByValue_scannable 8 rfl) (Lq (s:= {s with toks:=s.toks+1}) ho hfits hT (hsz1▸hroom) fin))) λV=>wpAny_bind (wpAny_pure (Lq (s:= {s with toks:=s.toks+1}) ho hfits hT (hsz1▸hroom) fin))))
end
theorem plain_set_update_loop:plainId "set.update.loop"=true:=by decide+kernel
theorem entry_set_update_loop:entryFor table "set.update.loop"=some Builtin.«set.update.loop»:=entryFor_of_tree (by kernel_rfl)
section
variable {prog:Program}{w:World}{A:Around}{E:Value->Shared->Prop}{s:Shared}
theorem Ol
  (h:Q₁ (.ref s.heap.objs.size) {s with heap:=s.heap.push {cls:= .type "set",dict:=none,data:= .set #[] 0 (.fresh 0 0 (!w.params.followText "set-order"))}}):
  codeAny (model prog w) A (.call (.builtin "set.__new__") ⟨[.type "set",x],[]⟩) (wants Q₁ E) s:=by
 refine codeAny_of_tree ?_
 show wpAny _ A.in1 (do checkBuiltinCall "set.__new__" ⟨[.type "set",x],[]⟩;again (.builtin "set.__new__" ⟨[.type "set",x],[]⟩)) _ _ s
 refine wpAny_bind (wpAny_of_eq (PySem.F.newCall_set_1 x) (wpAny_pure ⟨plainId_quiet PySem.F.plain_set_new _,codeAny_builtin PySem.F.entry_set_new ?_⟩))
 rw [Around.under_plainId PySem.F.plain_set_new _]
 unfold Builtin.«set.__new__» Builtin.Frozenset.newClass
 have hsub:=sub_set_self
 obtain ⟨hp,g,d,tk,os⟩:=s
 dsimp only
 wp_walk
 refine wpAny_askSetting (wpAny_pure ?_)
 dsimp only
 refine wpAny_bind (wpAny_alloc (wpAny_pure ?_))
 exact wpAny_pure h
theorem Ue{S I l:Addr}{items:List Value}{ns:List Int}{R:Result->Shared->Prop}(hh:A.handled=none)(hSI:S≠I)(hlI:l≠I)(hlS:l≠S)(hI:IntsAre items ns)(hb:ns.length<scanBound):
  ∀(k i:Nat) (s:Shared) (o:Obj) (vs:List Value) (ks:List Int),ns.length- i=k->i<=ns.length->s.heap.IsListIter I l i->s.heap.IsList l items.toArray->s.heap.get? S=some o->B8 prog w o vs ks->(∀x,x∈ks ↔ x∈ns.take i)->ks.length<=i->
  (∀h' tk' o' vs' ks',(∀b ob,b≠S->b≠I->s.heap.get? b=some ob->h'.get? b=some ob)->h'.get? S=some o'->B8 prog w o' vs' ks'->(∀x,x∈ks' ↔ x∈ns)->ks'.length<=ns.length->R (.ok (.ret .none)) {s with heap:=h',toks:=tk'})->
  codeAny (model prog w) A (.builtin "set.update.loop" ⟨[.ref S,.ref I],[]⟩) R s:=by
 have hlen:=IntsAre.length hI
 intro k
 induction k with
 | zero=>
  intro i s o vs ks hk hi hit hl hS hO hm hsz hR
  have hin:i=ns.length:=Ac (zn2 34661761312 rfl hi) (zn3 39920224102409863456 rfl hk (Aa _ _))
  refine codeAny_builtin entry_set_update_loop ?_
  rw [Around.under_plainId plain_set_update_loop _]
  show wpAny _ A.in1 (pyNext (.ref I)>>=_) _ _ s
  refine wpAny_bind (wpAny_pyNext_list_end hh hit hl (by simp;exact zn3 73432052596244768 rfl hlen hin) λh' he'=> ?_)
  refine wpAny_pure (hR h' s.toks o vs ks (λb ob h1 h2 e=>he' b ob h2 e) (he' S o hSI hS) hO (λx=>by rw [hm,hin,List.take_length]) (by exact zn3 72374290195972384 rfl hi hsz))
 | succ k ih=>
  intro i s o vs ks hk hi hit hl hS hO hm hsz hR
  have hlt:i<ns.length:=zn4 37876104171333328339233 rfl hk (Ab (zn2 34661761312 rfl hi))
  obtain ⟨t,hx⟩:=hI.get i ns[i] (by simp [hlt])
  refine codeAny_builtin entry_set_update_loop ?_
  rw [Around.under_plainId plain_set_update_loop _]
  show wpAny _ A.in1 (pyNext (.ref I)>>=_) _ _ s
  refine wpAny_bind (wpAny_pyNext_list_item hit hl (x:= .int ns[i] t) (by simpa using hx) λh₁ hit₁ hs₁=> ?_)
  have hS₁:h₁.get? S=some o:=(hs₁.2 S hSI).trans hS
  refine wpAny_bind (wpAny_holding (Tx (s:= {s with heap:=h₁}) hS₁ hO (by exact zn4 81339331897328795751829793 rfl hb hsz hlt) λh₂ tk₂ o₂ vs₂ ks₂ V hs₂ hS₂ hO₂ hm₂ hln₂=> ?_))
  refine wpAny_pure ⟨plainId_quiet plain_set_update_loop _,?_⟩
  refine ih (i+1) _ o₂ vs₂ ks₂ (by exact Ac (zn5 139081578364183908974328963622011168 rfl hk (Aa _ _) (Ab (zn2 35494728585504 rfl hlt))) (zn5 129914263547536347408130051932193056 rfl hk (Aa _ _) (Ab (zn2 34662809888 rfl hlt)))) hlt ?_ ?_ hS₂ hO₂ (λx=> ?_) ?_ λh' tk' o' vs' ks' k1 k2 k3 k4 k5=> ?_
  ·obtain ⟨oI,e1,e2⟩:=hit₁
   exact ⟨oI,(hs₂.2 I (Ne.symm hSI)).trans e1,e2⟩
  ·obtain ⟨ol,e1,e2⟩:=hl
   exact ⟨ol,(hs₂.2 l hlS).trans ((hs₁.2 l hlI).trans e1),e2⟩
  ·rw [hm₂,hm,List.take_add_one]
   simp only [hlt,List.getElem?_eq_getElem,Option.toList_some,List.mem_append,List.mem_singleton]
  ·exact zn3 418667627793778157945120 rfl hsz hln₂
  ·exact hR h' tk' o' vs' ks' (λb ob h1 h2 e=>k1 b ob h1 h2 ((hs₂.2 b h1).trans ((hs₁.2 b h2).trans e))) k2 k3 k4 k5
theorem T6{S l:Addr}{items:List Value}{ns:List Int}{Q:PySem.Fin->Shared->Prop}(hh:A.handled=none)(hS:s.heap.get? S=some {cls:= .type "set",dict:=none,data:= .set #[] 0 (.fresh 0 0 (!w.params.followText "set-order"))})(hl:s.heap.IsList l items.toArray)(hne:l≠S)(hI:IntsAre items ns)(hb:ns.length<scanBound)
  (h:∀h' tk' o' vs' ks',(∀b ob,b≠S->s.heap.get? b=some ob->h'.get? b=some ob)->h'.get? S=some o'->B8 prog w o' vs' ks'->(∀x,x∈ks' ↔ x∈ns)->ks'.length<=ns.length->Q (.done (.ret .none)) {s with heap:=h',toks:=tk'}):
  wpAny (model prog w) A (Builtin.«set.__init__» ⟨[.ref S,.ref l],[]⟩) Q E s:=by
 have hT:s.TypeIs (.ref S) "set":=⟨_,hS,rfl⟩
 have hpy:∀ {A':Around} {Q':Value->Shared->Prop} {E':Value->Shared->Prop},_->wpAny (model prog w) A' (pyIter (.ref l)) Q' E' s:=
  λ {A' Q' E'} h=>wpAny_pyIter_list (A:=A') (Q:=Q') (E:=E') hl h
 unfold Builtin.«set.__init__» noKeywords
 obtain ⟨ol,hol,hcl,nl,hdl⟩:=id hl
 obtain ⟨cl,dl,dtl,sll⟩:=ol
 simp only at hcl hdl
 subst hcl hdl
 have hs1:isSubtype (.type "list") (.type "set")=pure false:=by rw [isSubtype_type];kernel_rfl
 have hs2:isSubtype (.type "list") (.type "frozenset")=pure false:=by rw [isSubtype_type];kernel_rfl
 wp_walk using hpy
 refine Ue (l:=l) (items:=items) (ns:=ns) hh (Nat.ne_of_lt (Heap.lt_size hS)) (Nat.ne_of_lt (Heap.lt_size hol)) hne hI hb ns.length 0 _ _ [] [] (Nat.sub_zero _) (Nat.zero_le _) ⟨_,Heap.get?_push_size _ rfl,rfl,rfl⟩ (hl.at λo e=>hPu _ e) (hPu _ hS) ?_ (λx=>by simp) (Nat.le_refl _) ?_
 ·exact ⟨#[],0,_,rfl,(λe he=>no he),rfl,.nil,.nil,rfl,M6,rfl,rfl⟩
 intro h' tk' o' vs' ks' k1 k2 k3 k4 k5
 exact wpAny_pure (wpAny_pure (h h' tk' o' vs' ks' (λb ob hb e=>k1 b ob hb (Nat.ne_of_lt (Heap.lt_size e)) (hPu _ e)) k2 k3 k4 k5))
theorem call_set_list{l:Addr}{items:List Value}{ns:List Int}{Q:Value->Shared->Prop}(hh:A.handled=none)(hl:s.heap.IsList l items.toArray)(hI:IntsAre items ns)(hb:ns.length<scanBound)
  (h:∀S h' tk' o' vs' ks',s.heap.objs.size<=S->(∀b ob,s.heap.get? b=some ob->h'.get? b=some ob)->h'.get? S=some o'->B8 prog w o' vs' ks'->(∀x,x∈ks' ↔ x∈ns)->ks'.length<=ns.length->Q (.ref S) {s with heap:=h',toks:=tk'}):
  wpAny (model prog w) A (call (.type "set") [.ref l]) Q E s:=by
 obtain ⟨c,tl,hmro⟩:=PySem.F.called_set.mro
 have hmade:=PySem.F.called_set.made
 have hsub:=PySem.F.called_set.sub
 refine wpAny_call (codeAny_of_tree ?_)
 show wpAny _ _ (callAny (.type "set") _) _ _ _
 refine wpAny_pure ⟨Code.quiet_builtin _ (by decide+kernel),codeAny_builtin PySem.F.entry_type_call ?_⟩
 rw [Around.under_plain (weight_type_call_type "set" [.ref l] []) rfl]
 have h1:=PySem.F.called_set.notType
 have h2:=PySem.F.called_set.canCreate
 have hct:=PySem.F.typeCall_set_1 (.ref l)
 repeat (any_goals (first | assumption | wp_step))
 refine codeAny_mono (Ol (E:=E) (Q₁:=λobj s₁=>obj= .ref s.heap.objs.size/\s₁= {s with heap:=s.heap.push {cls:= .type "set",dict:=none,data:= .set #[] 0 (.fresh 0 0 (!w.params.followText "set-order"))}}) ⟨rfl,rfl⟩) λr s₁ hr=> ?_
 cases r with
 | error e=>exact hr
 | ok fl=>
  cases fl with
  | ret obj=>
   obtain ⟨rfl,rfl⟩:=hr
   have hS:(s.heap.push {cls:= .type "set",dict:=none,data:= .set #[] 0 (.fresh 0 0 (!w.params.followText "set-order"))}).get? s.heap.objs.size=some {cls:= .type "set",dict:=none,data:= .set #[] 0 (.fresh 0 0 (!w.params.followText "set-order"))}:=Heap.get?_push_size _ rfl
   have hT:Shared.TypeIs {s with heap:=s.heap.push {cls:= .type "set",dict:=none,data:= .set #[] 0 (.fresh 0 0 (!w.params.followText "set-order"))}} (.ref s.heap.objs.size) "set":=⟨_,hS,rfl⟩
   have hli:=PySem.F.called_set.init.lookup
   have hbi:=PySem.F.called_set.init.bind (.ref s.heap.objs.size)
   repeat (any_goals (first | assumption | wp_step))
   refine codeAny_mono (codeAny_call_builtin (R:=wants (λr s₂=>r= .none/\Q (.ref s.heap.objs.size) s₂) E) PySem.F.called_set.init.plain PySem.F.entry_set_init (PySem.check_set_init_1 hT ?_)) λr₂ s₂ hr₂=> ?_
   ·refine T6 hh hS (hl.at λo e=>hPu _ e) (by obtain ⟨o,e,_⟩:=hl;exact Nat.ne_of_lt (Heap.lt_size e)) hI hb ?_
    exact λh' tk' o' vs' ks' k1 k2 k3 k4 k5=>⟨rfl,h _ h' tk' o' vs' ks' (Nat.le_refl _) (λb ob e=>k1 b ob (Nat.ne_of_lt (Heap.lt_size e)) (hPu _ e)) k2 k3 k4 k5⟩
   ·cases r₂ with
    | error e=>exact hr₂
    | ok fl₂=>
     cases fl₂ with
     | ret r=>
      obtain ⟨rfl,hq⟩:=hr₂
      repeat (any_goals (first | assumption | wp_step))
     | _=>exact hr₂.elim
  | _=>exact hr.elim
end
end
section
theorem Ou:entryFor table "set.__iter__"=some Builtin.«frozenset.__iter__»:=
 entryFor_alias (id':="frozenset.__iter__") (by rw [fastTable_eq_tree];kernel_rfl) rfl (by decide+kernel) (by rw [fastTable_eq_tree];kernel_rfl)
theorem K5:Manifest.owners.lookup (String.ofList ['r','o','t','a','r','e','t','i','_','t','e','s'].reverse)=some Manifest.sig_set_iterator:=by kernel_rfl
theorem slot_set_iterator_next:Slot "set_iterator" "__next__" "set_iterator.__next__":=
 .of (owner:="set_iterator") (n:="__next__") (by rw [typeLookup_type,builtinLookup_eq_fast];kernel_rfl) (by decide+kernel) (by decide+kernel) (by decide+kernel)
  (by first | exact .inl (by decide+kernel) | exact .inr (by decide+kernel)) (by rw [isSubtype_type];kernel_rfl)
theorem Fk:entryFor table "set_iterator.__next__"=some Builtin.«set_iterator.__next__»:=entryFor_of_tree (by kernel_rfl)
theorem E9(a:Value):argsOk "set_iterator.__next__" ⟨[a],[]⟩:=by
 unfold argsOk;rw [signature?_of (id:="set_iterator.__next__") (n:= ['_','_','t','x','e','n','_','_']) (o:= ['r','o','t','a','r','e','t','i','_','t','e','s']) (by kernel_rfl) K5];kernel_rfl
theorem Gd:Slot "set_iterator" "__iter__" "set_iterator.__iter__":=
 .of (owner:="set_iterator") (n:="__iter__") (by rw [typeLookup_type,builtinLookup_eq_fast];kernel_rfl) (by decide+kernel) (by decide+kernel) (by decide+kernel)
  (by first | exact .inl (by decide+kernel) | exact .inr (by decide+kernel)) (by rw [isSubtype_type];kernel_rfl)
theorem Jm:entryFor table "set_iterator.__iter__"=some Builtin.«dict_keyiterator.__iter__»:=
 entryFor_alias (id':="dict_keyiterator.__iter__") (by rw [fastTable_eq_tree];kernel_rfl) (by first | rfl | decide+kernel) (by decide+kernel) (by rw [fastTable_eq_tree];kernel_rfl)
theorem Ix(a:Value):argsOk "set_iterator.__iter__" ⟨[a],[]⟩:=by
 unfold argsOk;rw [signature?_of (id:="set_iterator.__iter__") (n:= ['_','_','r','e','t','i','_','_']) (o:= ['r','o','t','a','r','e','t','i','_','t','e','s']) (by kernel_rfl) K5];kernel_rfl
theorem Jq(h:i<l.length):(l[i]::l.eraseIdx i).Perm l:=by
 rw [List.eraseIdx_eq_take_drop_succ]
 have e:l=l.take i++l[i]::l.drop (i+1):=by rw [List.getElem_cons_drop,List.take_append_drop]
 calc (l[i]::(l.take i++l.drop (i+1))).Perm (l.take i++l[i]::l.drop (i+1)):=List.perm_middle.symm
  _=l:=e.symm
theorem Sl(next:Nat->Nat)(fuel:Nat):∀(k:Nat) (left:List α) (out:Array α),left.length=fuel->(pickOrder.go next fuel k left out).toList.Perm (out.toList++left):=by
 induction fuel with
 | zero=>exact λk left out h=>by rw [List.length_eq_zero_iff.mp h,List.append_nil];exact .refl _
 | succ fuel ih=>
  intro k left out h
  have hlt:next k%left.length<left.length:=Nat.mod_lt _ (zn2 388815036360993 rfl h)
  show (match left[next k%left.length]? with
   | some x=>pickOrder.go next fuel (k+1) (left.eraseIdx (next k%left.length)) (out.push x)
   | none=>out).toList.Perm _
  rw [List.getElem?_eq_getElem hlt]
  refine (ih (k+1) _ _ (by rw [List.length_eraseIdx_of_lt hlt,h];rfl)).trans ?_
  rw [Array.toList_push,List.append_assoc]
  exact List.Perm.append_left _ (Jq hlt)
theorem Sm(next:Nat->Nat)(xs:Array α):(pickOrder next xs).toList.Perm xs.toList:=by
 have:=Sl next xs.size 0 xs.toList #[] (by simp)
 simpa [pickOrder] using this
section
variable {prog:Program}{w:World}{A:Around}{E:Value->Shared->Prop}{s:Shared}
theorem Of(hn:0<n)(hq:∀i dr',i<n->Q i {s with drawn:=dr'}):wpAny (model prog w) A (choose .order n) Q E s:=λΓ p V=>by
 show Sem.wp _ _ (Sem.choose _ _ _) _ _ _ _
 rw [Sem.wp_choose]
 exact ⟨Nat.ne_of_gt hn,hq _ _ (Nat.mod_lt _ hn)⟩
theorem Oq(n:Nat):∀(xs:List α) (s:Shared) (Q:List α->Shared->Prop),xs.length=n->(∀ys dr',ys.Perm xs->Q ys {s with drawn:=dr'})->wpAny (model prog w) A (drawOrder n xs) Q E s:=by
 induction n with
 | zero=>exact λxs s Q hl h=>wpAny_pure (h [] s.drawn (List.length_eq_zero_iff.mp hl▸ .refl _))
 | succ n ih=>
  intro xs s Q hl h
  cases xs with
  | nil=>exact Nat.noConfusion hl
  | cons x xs=>
   show wpAny _ _ (choose .order (x::xs).length>>= λi=>match (x::xs)[i]? with
    | some y=>drawOrder n ((x::xs).eraseIdx i)>>= λys=>pure (y::ys)
    | none=>unsupported "internal:drawOrder") _ _ _
   refine wpAny_bind (Of (Nat.succ_pos _) λi dr' hi=> ?_)
   rw [List.getElem?_eq_getElem hi]
   exact wpAny_bind (ih ((x::xs).eraseIdx i) _ _ (by rw [List.length_eraseIdx_of_lt hi];exact Nat.succ.inj hl) λys dr'' hp=>wpAny_pure (h _ dr'' ((List.Perm.cons _ hp).trans (Jq hi))))
noncomputable abbrev B7(first:Value)(i n ep:Nat)(S:Addr):Obj:= {cls:= .type "set_iterator",data:= .fields #[first,rawInt i,.ref S,rawInt n,rawInt ep]}
theorem L3(hh:A.handled=none)
  (h:∀h' e,(∀b ob,s.heap.get? b=some ob->h'.get? b=some ob)->h'.get? e=some {cls:= .type "StopIteration",data:= .fields #[.ref s.heap.objs.size,.none,.none,.none,.bool false,.none]}->E (.ref e) {s with heap:=h'}):
  wpAny M A (do raiseNew (<-newExc (.type "StopIteration") [])) Q E s:=by
 refine wpAny_bind ?_
 simp only [newExc,newTuple]
 refine wpAny_bind (wpAny_newObj_type ?_ (by size_fits))
 refine wpAny_bind (m:=firstArgMember _ _) (wpAny_of_eq (a:=Value.none) (by first | rfl | (simp only [firstArgMember];rfl)) ?_)
 refine wpAny_newObj_type ?_ (by size_fits)
 unfold raiseNew
 refine wpAny_bind (wpAny_handled ?_)
 rw [hh]
 refine wpAny_bind (wpAny_pure (wpAny_throw ?_))
 exact h _ _ (λb ob e=>hPu _ (hPu _ e)) (Heap.get?_push_size _ rfl)
theorem Eu(hS:s.heap.get? S=some {cls:= .type "set",dict:=none,data:= .set es ep t})(hf:t.fits es.size=true)(h:Q es s):
  wpAny (model prog w) A (setEntries S) Q E s:=by
 unfold setEntries
 exact wpAny_bind (wpAny_setState_of hS rfl hf (wpAny_pure h))
theorem Mi(hh:A.handled=none)(hIS:S≠I)(hf:t.fits es.size=true)(slots:Nat->Nat)(order:List Value)
  (hnext:∀i x,order[i]?=some x->∀(A':Around) (Q:Option (Value×Nat)->Shared->Prop) (E:Value->Shared->Prop) (s:Shared),s.heap.get? S=some {cls:= .type "set",dict:=none,data:= .set es ep t}->Q (some (x,slots (i+1))) s->wpAny (model prog w) A' (setNext S (slots i) i ep) Q E s)
  (hend:∀(A':Around) (Q:Option (Value×Nat)->Shared->Prop) (E:Value->Shared->Prop) (s:Shared),s.heap.get? S=some {cls:= .type "set",dict:=none,data:= .set es ep t}->Q none s->wpAny (model prog w) A' (setNext S (slots order.length) order.length ep) Q E s):
  Walks prog w A I [I,S] [I] order.length (λi v=>order[i]?=some v) (λi h=>h.get? I=some (B7 (rawInt (slots i)) i es.size ep S)/\h.get? S=some {cls:= .type "set",dict:=none,data:= .set es ep t}) where
 sub:=λb hb=>by simp at hb;simp [hb]
 frame:=λV V V st hk=>⟨hk I (by simp) _ st.1,hk S (by simp) _ st.2⟩
 item:=λi s Q E hi st hQ=>by
  obtain ⟨hit,hS⟩:=st
  have hT:s.TypeIs (.ref I) "set_iterator":=⟨_,hit,rfl⟩
  unfold pyNext
  refine wpAny_bind (wpAny_attempt (wpAny_callSpecial?_slot (name:=Str.ofString "__next__") hT slot_set_iterator_next
   (wpAny_call_entry slot_set_iterator_next hT Fk ?_ (E9 _))))
  show wpAny _ _ (fieldsOf (.ref I)>>=_) _ _ s
  refine wpAny_bind (wpAny_fieldsOf hit rfl ?_)
  dsimp only [B7,rawInt]
  refine wpAny_bind (Eu hS hf ?_)
  rw [if_neg (by simp)]
  refine wpAny_bind (hnext i order[i] (List.getElem?_eq_getElem hi) _ _ _ _ hS ?_)
  dsimp only
  refine wpAny_bind (wpAny_setField hit rfl (by simp) ?_)
  have hit1:=Heap.get?_update_self (Obj.mapFields (·.setIfInBounds 0 (rawInt (slots (i+1))))) hit rfl
  refine wpAny_bind (wpAny_setField (s:= {s with heap:=_}) hit1 rfl (by simp) ?_)
  have hit2:=Heap.get?_update_self (Obj.mapFields (·.setIfInBounds 1 (rawInt ((i:Int)+1)))) hit1 rfl
  refine wpAny_pure ⟨_,rfl,wpAny_pure (hQ _ _ s.toks (List.getElem?_eq_getElem hi) ⟨?_,?_⟩ λb o hb e=> ?_)⟩
  ·exact hit2
  ·exact (Heap.get?_update_other _ _ (Ne.symm hIS)).trans ((Heap.get?_update_other _ _ (Ne.symm hIS)).trans hS)
  ·have hb':I≠b:=λe=>hb (by simp [e])
   exact (Heap.get?_update_other _ _ hb').trans ((Heap.get?_update_other _ _ hb').trans e)
 done:=λs Q E st hQ=>by
  obtain ⟨hit,hS⟩:=st
  have hT:s.TypeIs (.ref I) "set_iterator":=⟨_,hit,rfl⟩
  unfold pyNext
  refine wpAny_bind (wpAny_attempt (wpAny_callSpecial?_slot (name:=Str.ofString "__next__") hT slot_set_iterator_next
   (wpAny_call_entry slot_set_iterator_next hT Fk ?_ (E9 _))))
  show wpAny _ _ (fieldsOf (.ref I)>>=_) _ _ s
  refine wpAny_bind (wpAny_fieldsOf hit rfl ?_)
  dsimp only [B7,rawInt]
  refine wpAny_bind (Eu hS hf ?_)
  rw [if_neg (by simp)]
  refine wpAny_bind (hend _ _ _ _ hS ?_)
  dsimp only
  refine wpAny_bind (wpAny_setField hit rfl (by simp) ?_)
  refine L3 hh λh' e hk he=> ?_
  refine wpAny_bind (wpAny_isInstance (T:="StopIteration") (b:=true) ⟨_,he,rfl⟩ isSubtype_stop ?_)
  refine wpAny_pure (hQ h' s.toks λb o hb e=>hk b o ?_)
  have hb':I≠b:=λe=>hb (by simp [e])
  exact (Heap.get?_update_other _ _ hb').trans e
 self:=λV s V V st hQ=>by
  have hT:s.TypeIs (.ref I) "set_iterator":=⟨_,st.1,rfl⟩
  refine wpAny_pyIter_slot hT Gd (wpAny_call_entry Gd hT Jm ?_ (Ix _))
  show wpAny _ _ (ret (.ref I)) _ _ s
  exact wpAny_pure ⟨_,rfl,"set_iterator",_,hT,slot_set_iterator_next.lookup,hQ⟩
theorem We(hh:A.handled=none)(hIS:S≠I)(hIT:T≠I)(hf:t.fits es.size=true)(places:List Nat)(order:List Value)
  (hlen:order.length=places.length)(hpl:∀(i:Nat) x,order[i]?=some x->∃pl h,places[i]?=some pl/\es[pl]?=some (h,x)):
  Walks prog w A I [I,S,T] [I] order.length (λi v=>order[i]?=some v) (λi h=>h.get? I=some (B7 (.ref T) i es.size ep S)/\h.get? S=some {cls:= .type "set",dict:=none,data:= .set es ep t}/\
   h.get? T=some {cls:= .type "tuple",data:= .seq (places.map λ(i:Nat)=>rawInt i).toArray}) where
 sub:=λb hb=>by simp at hb;simp [hb]
 frame:=λV V V st hk=>⟨hk I (by simp) _ st.1,hk S (by simp) _ st.2.1,hk T (by simp) _ st.2.2⟩
 item:=λi s Q E hi st hQ=>by
  obtain ⟨hit,hS,hTt⟩:=st
  have hT:s.TypeIs (.ref I) "set_iterator":=⟨_,hit,rfl⟩
  obtain ⟨pl,hx,hp1,hp2⟩:=hpl i order[i] (List.getElem?_eq_getElem hi)
  unfold pyNext
  refine wpAny_bind (wpAny_attempt (wpAny_callSpecial?_slot (name:=Str.ofString "__next__") hT slot_set_iterator_next
   (wpAny_call_entry slot_set_iterator_next hT Fk ?_ (E9 _))))
  show wpAny _ _ (fieldsOf (.ref I)>>=_) _ _ s
  refine wpAny_bind (wpAny_fieldsOf hit rfl ?_)
  refine wpAny_bind (Eu hS hf ?_)
  refine wpAny_ite_false (decide_eq_false (by simp)) ?_
  refine wpAny_bind (wpAny_seqItems hTt rfl ?_)
  have e1:(places.map λ(i:Nat)=>rawInt i).toArray[(i:Int).toNat]?=some (rawInt pl):=by
   simp only [Int.toNat_natCast,List.getElem?_toArray,List.getElem?_map,hp1,Option.map_some]
  dsimp only
  rw [e1]
  dsimp only [rawInt]
  refine wpAny_bind ?_
  unfold setNextDrawn
  refine wpAny_bind (wpAny_setState_of hS rfl hf ?_)
  refine wpAny_ite_false (decide_eq_false (by simp)) ?_
  simp only [Int.toNat_natCast,hp2]
  refine wpAny_pure ?_
  refine wpAny_bind (wpAny_setField hit rfl (by simp) ?_)
  have hit1:=Heap.get?_update_self (Obj.mapFields (·.setIfInBounds 1 (rawInt ((i:Int)+1)))) hit rfl
  refine wpAny_pure ⟨_,rfl,wpAny_pure (hQ _ _ s.toks (List.getElem?_eq_getElem hi) ⟨hit1,?_,?_⟩ λb o hb e=> ?_)⟩
  ·exact (Heap.get?_update_other _ _ (Ne.symm hIS)).trans hS
  ·exact (Heap.get?_update_other _ _ (Ne.symm hIT)).trans hTt
  ·have hb':I≠b:=λe=>hb (by simp [e])
   exact (Heap.get?_update_other _ _ hb').trans e
 done:=λs Q E st hQ=>by
  obtain ⟨hit,hS,hTt⟩:=st
  have hT:s.TypeIs (.ref I) "set_iterator":=⟨_,hit,rfl⟩
  unfold pyNext
  refine wpAny_bind (wpAny_attempt (wpAny_callSpecial?_slot (name:=Str.ofString "__next__") hT slot_set_iterator_next
   (wpAny_call_entry slot_set_iterator_next hT Fk ?_ (E9 _))))
  show wpAny _ _ (fieldsOf (.ref I)>>=_) _ _ s
  refine wpAny_bind (wpAny_fieldsOf hit rfl ?_)
  dsimp only [B7,rawInt]
  refine wpAny_bind (Eu hS hf ?_)
  refine wpAny_ite_false (decide_eq_false (by simp)) ?_
  refine wpAny_bind (wpAny_seqItems hTt rfl ?_)
  have e1:(places.map λ(i:Nat)=>rawInt i).toArray[(order.length:Int).toNat]?=none:=by
   rw [Int.toNat_natCast,List.getElem?_toArray,List.getElem?_map,List.getElem?_eq_none (by exact zn2 1310753056 rfl hlen)];rfl
  dsimp only
  rw [e1]
  dsimp only
  refine wpAny_bind (wpAny_setField hit rfl (by simp) ?_)
  have hit1:=Heap.get?_update_self (Obj.mapFields (·.setIfInBounds 0 (rawInt 0))) hit rfl
  refine wpAny_bind (wpAny_setField (s:= {s with heap:=_}) hit1 rfl (by simp) ?_)
  refine L3 hh λh' e hk he=> ?_
  refine wpAny_bind (wpAny_isInstance (T:="StopIteration") (b:=true) ⟨_,he,rfl⟩ isSubtype_stop ?_)
  refine wpAny_pure (hQ h' s.toks λb o hb e=>hk b o ?_)
  have hb':I≠b:=λe=>hb (by simp [e])
  exact (Heap.get?_update_other _ _ hb').trans ((Heap.get?_update_other _ _ hb').trans e)
 self:=λV s V V st hQ=>by
  have hT:s.TypeIs (.ref I) "set_iterator":=⟨_,st.1,rfl⟩
  refine wpAny_pyIter_slot hT Gd (wpAny_call_entry Gd hT Jm ?_ (Ix _))
  exact wpAny_pure ⟨_,rfl,"set_iterator",_,hT,slot_set_iterator_next.lookup,hQ⟩
theorem Ty(hS:s.heap.get? S=some {cls:= .type "set",dict:=none,data:= .set es ep t})(hf:t.fits es.size=true)
  (h:Q (!w.params.followText "set-order"&& (!t.plain&&decide (es.size>1))) s):wpAny (model prog w) A (setDrawn S) Q E s:=by
 unfold setDrawn
 refine wpAny_bind (wpAny_setState_of hS rfl hf (wpAny_bind (Gc (wpAny_pure ?_))))
 exact h
theorem Ln{S:Addr}{es:Array (Int×Value)}{ep slot given:Nat}{t:SetTable}{Q:Option (Value×Nat)->Shared->Prop}(hS:s.heap.get? S=some {cls:= .type "set",dict:=none,data:= .set es ep t})(hf:t.fits es.size=true)
  (hby:w.params.followText "set-order"=false)(hpl:(!t.plain&&decide (es.size>1))=false)(hled:t.led=true)
  (h:Q (match es[SetTable.below t.place slot]?,t.place[SetTable.below t.place slot]? with | some (_,x),some j=>some (x,j+1) | _,_=>none) s):wpAny (model prog w) A (setNext S slot given ep) Q E s:=by
 unfold setNext
 refine wpAny_bind (wpAny_setState_of hS rfl hf (wpAny_bind (Gc ?_)))
 rw [hby]
 refine wpAny_ite_false rfl ?_
 refine wpAny_ite_split (λhab=>absurd (show (!t.plain&&decide (es.size>1))=true from hab) (by rw [hpl];exact Bool.false_ne_true)) (λV=> ?_)
 refine wpAny_bind ?_
 show wpAny _ _ (if (!t.led&& !es.isEmpty)=true then (unsupported "set:maker-not-led":Sem Unit) else pure ()) _ _ _
 refine wpAny_ite_false (decide_eq_false (by rw [hled];simp)) ?_
 exact wpAny_pure (wpAny_pure h)
theorem Lo{S:Addr}{es:Array (Int×Value)}{ep slot given:Nat}{t:SetTable}{Q:Option (Value×Nat)->Shared->Prop}(hS:s.heap.get? S=some {cls:= .type "set",dict:=none,data:= .set es ep t})(hf:t.fits es.size=true)
  (hby:w.params.followText "set-order"=true)
  (h:Q (((pickOrder (w.params.setOrder S ep) es)[given]?).map λe=>(e.2,slot)) s):wpAny (model prog w) A (setNext S slot given ep) Q E s:=by
 unfold setNext
 refine wpAny_bind (wpAny_setState_of hS rfl hf (wpAny_bind (Gc ?_)))
 rw [hby]
 refine wpAny_ite_true rfl (wpAny_ite_false (decide_eq_false (by simp)) ?_)
 unfold setWalk
 refine wpAny_bind (wpAny_bind (wpAny_setState_of hS rfl hf (wpAny_bind (Gc ?_))))
 rw [hby]
 exact wpAny_bind (wpAny_askSetting (wpAny_pure (wpAny_pure h)))
theorem I7{t:SetTable}(asc:Asc t.place)(hi:i<=t.place.size):SetTable.below t.place (if i=0 then 0 else t.place.getD (i- 1) 0+1)=i:=by
 refine below_at asc hi (λk hk=> ?_) λhi'=> ?_
 ·rw [if_neg (Nat.ne_of_gt (Nat.lt_of_le_of_lt (Nat.zero_le _) hk))]
  rcases Nat.lt_or_ge k (i- 1) with h1 | h1
  ·exact Nat.lt_succ_of_lt (asc k (i- 1) h1 (Nat.lt_of_lt_of_le (Nat.sub_lt (Nat.lt_of_le_of_lt (Nat.zero_le _) hk) Nat.one_pos) hi))
  ·rw [Nat.le_antisymm (Nat.le_sub_one_of_lt hk) h1];exact Nat.lt_succ_self _
 ·by_cases h0:i=0
  ·rw [if_pos h0];exact Nat.zero_le _
  ·rw [if_neg h0];exact asc (i- 1) i (Nat.sub_lt (Nat.pos_of_ne_zero h0) Nat.one_pos) hi'
theorem Ua{S:Addr}{o:Obj}{vs:List Value}{ks:List Int}{Q:Value->Shared->Prop}(hS:s.heap.get? S=some o)(hO:B8 prog w o vs ks)(hb:ks.length<scanBound)
  (h:∀(I:Addr) (fp:List Addr) (order:List Value) (St:Nat->Heap->Prop) (h':Heap) (dr':Drawn),s.heap.objs.size<=I->(∀b ob,s.heap.get? b=some ob->h'.get? b=some ob)->order.Perm vs->
   (∀A':Around,A'.handled=none->Walks prog w A' I fp [I] order.length (λi v=>order[i]?=some v) St)->St 0 h'->I∈fp->(∀b∈fp,b<h'.objs.size)->(∀b∈fp,b=S\/s.heap.objs.size<=b)->Q (.ref I) {s with heap:=h',drawn:=dr'}):
  wpAny (model prog w) A (pyIter (.ref S)) Q E s:=by
 obtain ⟨es,ep,t,rfl,hel,hvs,hI,hnd,hf,T⟩:=hO
 have hT:s.TypeIs (.ref S) "set":=⟨_,hS,rfl⟩
 have hlt:S<s.heap.objs.size:=Heap.lt_size hS
 have hsz:es.size=vs.length:=by rw [<-hvs,List.length_map,Array.length_toList]
 refine wpAny_pyIter_slot hT PySem.F.slot_set_iter (wpAny_call_entry PySem.F.slot_set_iter hT Ou ?_ (PySem.F.args_set_iter_1 _))
 show wpAny _ _ (do
  let n<-Builtin.Frozenset.sizeOf S
  let first<-if<-setDrawn S then newTuple ((<-drawOrder n (List.range n)).map λ(i:Nat)=>rawInt i) else pure (rawInt 0)
  ret (<-newFields "set_iterator" [first,rawInt 0,.ref S,rawInt n,rawInt (<-setEpoch S)])) _ _ s
 refine wpAny_bind ?_
 unfold Builtin.Frozenset.sizeOf
 refine wpAny_bind (Eu hS hf (wpAny_pure ?_))
 refine wpAny_bind (Ty hS hf ?_)
 have leave:∀(I:Addr) (first:Value) (h₁:Heap) (dr₁:Drawn),h₁.get? S=some {cls:= .type "set",dict:=none,data:= .set es ep t}->I=h₁.objs.size->Q (.ref I) {s with heap:=h₁.push (B7 first 0 es.size ep S),drawn:=dr₁}->
   wpAny (model prog w) A.in1 (do ret (<-newFields "set_iterator" [first,rawInt 0,.ref S,rawInt es.size,rawInt (<-setEpoch S)]))
    (λfin s'=>∃v,fin= .done (.ret v)/\∃T' r,s'.TypeIs v T'/\typeLookup (.type T') "__next__"=pure (some r)/\Q v s') E {s with heap:=h₁,drawn:=dr₁}:=by
  intro I first h₁ dr₁ hS₁ hI₁ hq
  refine wpAny_bind (wpAny_setEpoch_of (s:= {s with heap:=h₁,drawn:=dr₁}) hS₁ rfl hf ?_)
  subst hI₁
  exact wpAny_bind (wpAny_newObj_type (wpAny_pure ⟨_,rfl,"set_iterator",_,⟨_,Heap.get?_push_size _ rfl,rfl⟩,slot_set_iterator_next.lookup,hq⟩))
 cases hdr:(!w.params.followText "set-order"&& (!t.plain&&decide (es.size>1))) with
 | false=>
  refine wpAny_bind (wpAny_pure ?_)
  refine leave s.heap.objs.size (rawInt 0) s.heap s.drawn hS rfl ?_
  have hSI:S≠s.heap.objs.size:=Nat.ne_of_lt hlt
  have hfp2:∀b∈ [s.heap.objs.size,S],b=S\/s.heap.objs.size<=b:=by
   intro b hb
   rcases lC hb with rfl | hb
   ·exact .inr (Nat.le_refl _)
   ·exact .inl (lS hb)
  have hfp:∀b∈ [s.heap.objs.size,S],b< (s.heap.push (B7 (rawInt 0) 0 es.size ep S)).objs.size:=by
   intro b hb
   rw [size_push']
   rcases lC hb with rfl | hb
   ·exact Nat.lt_succ_self _
   ·rw [List.mem_singleton.mp hb];exact Nat.lt_succ_of_lt hlt
  cases hby:w.params.followText "set-order" with
  | true=>
   have hp:=Sm (w.params.setOrder S ep) es
   have hW:∀A':Around,A'.handled=none->Walks prog w A' s.heap.objs.size [s.heap.objs.size,S] [s.heap.objs.size] ((pickOrder (w.params.setOrder S ep) es).toList.map (·.2)).length
     (λi v=>((pickOrder (w.params.setOrder S ep) es).toList.map (·.2))[i]?=some v) (λi h=>h.get? s.heap.objs.size=some (B7 (rawInt 0) i es.size ep S)/\h.get? S=some {cls:= .type "set",dict:=none,data:= .set es ep t}):=by
    intro A' hA'
    refine Mi hA' hSI hf (λV=>0) _ (λi x hx A'' Q' E' s' hs' hq=>Lo hs' hf hby ?_) (λA'' Q' E' s' hs' hq=>Lo hs' hf hby ?_)
    ·rw [List.getElem?_map,Array.getElem?_toList] at hx
     cases hg:(pickOrder (w.params.setOrder S ep) es)[i]? with
     | none=>rw [hg] at hx;cases hx
     | some e=>rw [hg] at hx;cases hx;exact hq
    ·rw [Array.getElem?_eq_none (by simp)];exact hq
   exact h _ _ _ _ _ s.drawn (Nat.le_refl _) (λb ob e=>hPu _ e) (by rw [<-hvs];exact hp.map _) hW ⟨Heap.get?_push_size _ rfl,hPu _ hS⟩ (.head _) hfp hfp2
  | false=>
   rw [hby] at hdr
   simp only [Bool.not_false,Bool.true_and] at hdr
   have hled:t.led=true:=by rw [T.led,hby];rfl
   have hps:t.place.size=es.size:=by
    simp only [SetTable.fits,Bool.and_eq_true,beq_iff_eq,decide_eq_true_eq] at hf
    exact hf.1
   have hW:∀A':Around,A'.handled=none->Walks prog w A' s.heap.objs.size [s.heap.objs.size,S] [s.heap.objs.size] vs.length
     (λi v=>vs[i]?=some v) (λi h=>h.get? s.heap.objs.size=some (B7 (rawInt ((if i=0 then 0 else t.place.getD (i- 1) 0+1:Nat):Int)) i es.size ep S)/\h.get? S=some {cls:= .type "set",dict:=none,data:= .set es ep t}):=by
    intro A' hA'
    refine Mi hA' hSI hf (λi=>if i=0 then 0 else t.place.getD (i- 1) 0+1) vs (λi x hx A'' Q' E' s' hs' hq=>Ln hs' hf hby hdr hled ?_) (λA'' Q' E' s' hs' hq=>Ln hs' hf hby hdr hled ?_)
    ·have hi:i<es.size:=by rw [hsz];exact (List.getElem?_eq_some_iff.mp hx).1
     rw [I7 T.asc (Nat.le_of_lt (hps.symm▸hi))]
     rw [<-hvs,List.getElem?_map,Array.getElem?_toList] at hx
     cases hg:es[i]? with
     | none=>rw [hg] at hx;cases hx
     | some e=>
      rw [hg] at hx
      cases hx
      have hpi:t.place[i]?=some (t.place.getD i 0):=by rw [Fp (by exact zn3 72375422928584993 rfl hps hi),Array.getElem?_eq_getElem (by exact zn3 72375422928584993 rfl hps hi)]
      rw [hpi]
      simp only [Nat.succ_ne_zero,if_false,Nat.add_sub_cancel] at hq
      exact hq
    ·rw [<-hsz,I7 T.asc (Nat.le_of_eq hps.symm),Array.getElem?_eq_none (by exact zn1 288 rfl)]
     exact hq
   exact h _ _ vs _ _ s.drawn (Nat.le_refl _) (λb ob e=>hPu _ e) (List.Perm.refl _) hW ⟨Heap.get?_push_size _ rfl,hPu _ hS⟩ (.head _) hfp hfp2
 | true=>
  refine wpAny_bind (Oq es.size (List.range es.size) _ _ List.length_range λplaces dr' hp=> ?_)
  refine wpAny_bind (wpAny_newTuple ?_ (by rw [List.length_map,hp.length_eq,List.length_range,hsz,IntsAre.length hI];exact fits_of_scanBound hb))
  have hSI:S≠s.heap.objs.size+1:=Nat.ne_of_lt (Nat.lt_succ_of_lt hlt)
  refine leave (s.heap.objs.size+1) (.ref s.heap.objs.size) _ dr' (hPu _ hS) (by rw [size_push']) ?_
  have hall:∀pl∈places,pl<es.size:=λpl hpl=>List.mem_range.mp (hp.mem_iff.mp hpl)
  have hlen:places.length=es.size:=by rw [hp.length_eq,List.length_range]
  have hW:∀A':Around,A'.handled=none->Walks prog w A' (s.heap.objs.size+1) [s.heap.objs.size+1,S,s.heap.objs.size] [s.heap.objs.size+1] (places.filterMap λi=>es[i]?.map (·.2)).length
    (λi v=>(places.filterMap λi=>es[i]?.map (·.2))[i]?=some v) (λi h=>h.get? (s.heap.objs.size+1)=some (B7 (.ref s.heap.objs.size) i es.size ep S)/\h.get? S=some {cls:= .type "set",dict:=none,data:= .set es ep t}/\
     h.get? s.heap.objs.size=some {cls:= .type "tuple",data:= .seq (places.map λ(i:Nat)=>rawInt i).toArray}):=by
   intro A' hA'
   have hm:places.filterMap (λi=>es[i]?.map (·.2))=places.map λi=>(es[i]?.map (·.2)).getD .none:=by
    have key:∀(l:List Nat),(∀p∈l,p<es.size)->l.filterMap (λi=>es[i]?.map (·.2))=l.map λi=>(es[i]?.map (·.2)).getD .none:=by
     intro l
     induction l with
     | nil=>intro _;rfl
     | cons a l ih=>
      intro h
      have ha:=h a (.head _)
      rw [List.filterMap_cons,List.map_cons,<-ih λp hp=>h p (.tail _ hp),Array.getElem?_eq_getElem ha]
      rfl
    exact key places hall
   refine We hA' hSI (Nat.ne_of_lt (Nat.lt_succ_self _)) hf places _ (by rw [hm,List.length_map]) λi x hx=> ?_
   rw [hm,List.getElem?_map] at hx
   cases hg:places[i]? with
   | none=>rw [hg] at hx;cases hx
   | some pl=>
    rw [hg] at hx
    have hpl:=hall pl (List.mem_of_getElem? hg)
    rw [Option.map_some,Array.getElem?_eq_getElem hpl] at hx
    cases hx
    exact ⟨pl,es[pl].1,rfl,by rw [Array.getElem?_eq_getElem hpl];rfl⟩
  have hord:(places.filterMap λi=>es[i]?.map (·.2)).Perm vs:=by
   refine (hp.filterMap _).trans ?_
   rw [<-hvs,<-filterMap_getElem?_range es,List.map_filterMap]
  refine h _ _ _ _ _ dr' (Nat.le_succ _) (λb ob e=>hPu _ (hPu _ e)) hord hW ⟨?_,hPu _ (hPu _ hS),hPu _ (Heap.get?_push_size _ rfl)⟩ (.head _) ?_ ?_
  ·have:=Heap.get?_push_size (s.heap.push {cls:= .type "tuple",data:= .seq (places.map λ(i:Nat)=>rawInt i).toArray}) (o:=B7 (.ref s.heap.objs.size) 0 es.size ep S) rfl
   rwa [size_push'] at this
  ·intro b hb
   rw [size_push',size_push']
   rcases lC hb with rfl | hb
   ·exact Nat.lt_succ_self _
   ·rcases lC hb with rfl | hb
    ·exact Nat.lt_succ_of_lt (Nat.lt_succ_of_lt hlt)
    ·rw [List.mem_singleton.mp hb];exact Nat.lt_succ_of_lt (Nat.lt_succ_self _)
  ·intro b hb
   rcases lC hb with rfl | hb
   ·exact .inr (Nat.le_succ _)
   ·rcases lC hb with rfl | hb
    ·exact .inl rfl
    ·rw [List.mem_singleton.mp hb];exact .inr (Nat.le_refl _)
end
end
section
noncomputable def Cj:Bool->Keyed->Array Keyed->Nat->Nat->Nat->StateT SortSt Sem (Option Nat):=sortPriv%PySem.Builtin.gallop
noncomputable def Ew:Nat->StateT SortSt Sem Unit:=sortPriv%PySem.Builtin.setMinGallop
noncomputable def Ht:Array Keyed->Array Keyed->StateT SortSt Sem (Array Keyed):=sortPriv%PySem.Builtin.mergeLo
noncomputable def Hs:Array Keyed->Array Keyed->StateT SortSt Sem (Array Keyed):=sortPriv%PySem.Builtin.mergeHi
noncomputable def beyond(left:Bool)(key:Keyed)(arr:Array Keyed)(base i:Nat):StateT SortSt Sem (Option Bool):=do
 let x<-elem' arr (base+i)
 if left then lt' x key else return (<-lt' key x).map (!·)
noncomputable abbrev GSt:=Option (Option Nat)×Nat×Nat
noncomputable def Hj(left:Bool)(key:Keyed)(arr:Array Keyed)(base:Nat)(pos:Nat->Nat)(mx:Nat)(nb:Bool->Bool)(c:GSt):StateT SortSt Sem (ForInStep GSt):=
 if c.2.2 ≥ mx then pure (.done (none,c.2.1,c.2.2)) else do
  let r<-beyond left key arr base (pos c.2.2)
  match r with
  | some more=>if nb more=true then pure (.done (none,c.2.1,c.2.2)) else pure (.yield (none,c.2.2,2*c.2.2+1))
  | _=>pure (.done (some none,c.2.1,c.2.2))
noncomputable def Hi(left:Bool)(key:Keyed)(arr:Array Keyed)(base:Nat)(c:GSt):StateT SortSt Sem (ForInStep GSt):=
 if c.2.1 ≥ c.2.2 then pure (.done (none,c.2.1,c.2.2)) else do
  let r<-beyond left key arr base (c.2.1+ (c.2.2- c.2.1)/2)
  match r with
  | some more=>if more=true then pure (.yield (none,c.2.1+ (c.2.2- c.2.1)/2+1,c.2.2)) else pure (.yield (none,c.2.1,c.2.1+ (c.2.2- c.2.1)/2))
  | _=>pure (.done (some none,c.2.1,c.2.2))
noncomputable def J3(left:Bool)(key:Keyed)(arr:Array Keyed)(base n lo hi:Nat):StateT SortSt Sem (Option Nat):=do
 let c<-forIn [0:n] ((none,lo,hi):GSt) λV c=>Hi left key arr base c
 match c.1 with
 | some r=>pure r
 | none=>pure (some c.2.2)
noncomputable def gGo(left:Bool)(key:Keyed)(arr:Array Keyed)(base n:Nat)(pos:Nat->Nat)(mx:Nat)(nb:Bool->Bool)(to:GSt->Nat×Nat):StateT SortSt Sem (Option Nat):=do
 let c<-forIn [0:n] ((none,0,1):GSt) λV c=>Hj left key arr base pos mx nb c
 match c.1 with
 | some r=>pure r
 | none=>J3 left key arr base n (to c).1 (to c).2
theorem Pg(left:Bool)(key:Keyed)(arr:Array Keyed)(base n hint:Nat):Cj left key arr base n hint=(do
 let r<-beyond left key arr base hint
 match r with
 | some right=>if right=true then gGo left key arr base n (λo=>hint+o) (n- hint) (λb=> !b) (λc=>(hint+c.2.1+1,hint+min c.2.2 (n- hint))) else gGo left key arr base n (λo=>hint- o) (hint+1) (λb=>b) (λc=>(hint+1- min c.2.2 (hint+1),hint- c.2.1))
 | _=>pure none):=by kernel_rfl
theorem Tz(g:Nat):Ew g=modify (λs=>SortSt.mk' (kindOf s) (arrOf s) (pendingOf s) g (failedOf s)):=rfl
noncomputable def IsK(p:Keyed):Prop:=∃n t,p.1=Value.int n t
noncomputable def kf(p:Keyed):Int:=numOf p.1
section
variable {prog:Program}{w:World}{A:Around}{E:Value->Shared->Prop}{s:Shared}
theorem Gk{st:SortSt}{p q:Keyed}{Q:Option Bool->SortSt->Prop}(hk:kindOf st=oneType')(hp:IsK p)(hq:IsK q)(h:Q (some (decide (kf p<kf q))) st):
  wpS (model prog w) A E s (lt' p q) Q st:=by
 obtain ⟨a,t,ha⟩:=hp
 obtain ⟨b,u,hb⟩:=hq
 rw [lt'_eq]
 refine wpS_bind (wpS_get ?_)
 rw [hk,keyLt'_oneType,ha,hb]
 refine wpS_bind (wpS_lift (wpAny_attempt (oneLt_int ⟨rfl,?_⟩)))
 have e1:kf p=a:=by unfold kf;rw [ha];rfl
 have e2:kf q=b:=by unfold kf;rw [hb];rfl
 rw [e1,e2] at h
 exact wpS_pure h
theorem Be{st:SortSt}{arr:Array Keyed}{i:Nat}{p:Keyed}{Q:Keyed->SortSt->Prop}{M:Model}(hi:arr[i]?=some p)(h:Q p st):wpS M A E s (elem' arr i) Q st:=by
 rw [elem'_eq,hi];exact wpS_pure h
noncomputable def bey(left:Bool)(key:Keyed)(arr:Array Keyed)(base i:Nat):Bool:=if left then decide (kf ((arr[base+i]?).getD key)<kf key) else !decide (kf key<kf ((arr[base+i]?).getD key))
theorem Wp{st:SortSt}{left:Bool}{key:Keyed}{arr:Array Keyed}{base i:Nat}{Q:Option Bool->SortSt->Prop}(hk:kindOf st=oneType')(hi:base+i<arr.size)(hp:IsK key)(hq:∀p∈arr.toList,IsK p)(h:Q (some (bey left key arr base i)) st):
  wpS (model prog w) A E s (beyond left key arr base i) Q st:=by
 have e:arr[base+i]?=some arr[base+i]:=Array.getElem?_eq_getElem hi
 have hq':IsK arr[base+i]:=hq _ (by simp)
 refine wpS_bind (Be e ?_)
 unfold bey at h
 rw [e,Option.getD_some] at h
 cases left with
 | true=>simp only [if_true] at h ⊢;exact Gk hk hq' hp h
 | false=>
  simp only [Bool.false_eq_true,if_false] at h ⊢
  exact wpS_bind (Gk hk hp hq' (wpS_pure h))
noncomputable def SP(D Y:β->σ->Prop):ForInStep β->σ->Prop
 | .done c,st=>D c st
 | .yield c,st=>Y c st
theorem Cr{σ β:Type}{M:Model}{n:Nat}{f:Nat->β->StateT σ Sem (ForInStep β)}(I:Nat->β->σ->Prop){Q:β->σ->Prop}(hstep:∀i c st,i<n->I i c st->wpS M A E s (f i c) (SP Q (I (i+1))) st)(hend:∀c st,I n c st->Q c st){c:β}{st:σ}(h:I 0 c st):wpS M A E s (forIn [0:n] c f) Q st:=
 wpS_forRange I (λi c st V h2 h3=>wpS_mono (hstep i c st h2 h3) λr st' z=>by cases r<;>exact z) (λc st z=>hend c st (Nat.max_eq_right (Nat.zero_le n)▸z)) h
structure GP(left:Bool)(key:Keyed)(arr:Array Keyed)(base n:Nat)(st:SortSt):Prop where
 hk:kindOf st=oneType'
 hp:IsK key
 hq:∀p∈arr.toList,IsK p
 hn:base+n<=arr.size
 hm:∀i j,i<=j->j<n->bey left key arr base j=true->bey left key arr base i=true
structure GI{ρ:Type}(f:Nat->Bool)(n:Nat)(st:SortSt)(x:Nat)(c:Option ρ×Nat×Nat)(st':SortSt):Prop where
 s:st'=st
 r:c.1=none
 le:c.2.1<=c.2.2
 hn:c.2.2<=n
 d:x+c.2.2<=n+c.2.1
 lo:∀i,i<c.2.1->f i=true
 hi:∀i,c.2.2<=i->i<n->f i=false
structure GW(f:Nat->Bool)(pos:Nat->Nat)(mx:Nat)(nb:Bool->Bool)(st:SortSt)(P:Nat->Prop)(c:GSt)(st':SortSt):Prop where
 s:st'=st
 r:c.1=none
 lt:c.2.1<c.2.2
 lm:c.2.1<mx
 fa:nb (f (pos c.2.1))=false
 last:P c.2.2
section
variable {left:Bool}{key:Keyed}{arr:Array Keyed}{base n lo hi x mx:Nat}{st st':SortSt}{c:GSt}{f:Nat->Bool}{pos:Nat->Nat}{nb:Bool->Bool}{Q:Option Nat->SortSt->Prop}
theorem GP.by(G:GP left key arr base n st){i:Nat}(hi:i<n){Q:Option Bool->SortSt->Prop}(h:Q (some (bey left key arr base i)) st):wpS (model prog w) A E s (beyond left key arr base i) Q st:=
 Wp G.hk (Nat.lt_of_lt_of_le (Nat.add_lt_add_left hi base) G.hn) G.hp G.hq h
theorem GP.no(G:GP left key arr base n st)(h1:i<=j)(h2:j<n)(h3:bey left key arr base i=false):bey left key arr base j=false:=
 (Bool.eq_false_or_eq_true _).elim (λh4=>absurd (G.hm i j h1 h2 h4) (by rw [h3];exact Bool.false_ne_true)) id
theorem half_lt(h:lo<hi):lo+ (hi- lo)/2<hi:=zn4 2539799692595771360329323270465 rfl h (Nat.mul_div_le _ 2) (Ab (zn2 34662809888 rfl h))
theorem GP.half(G:GP left key arr base n st)(I:GI (bey left key arr base) n st x c st'):wpS (model prog w) A E s (Hi left key arr base c) (SP (GI (bey left key arr base) n st n) (GI (bey left key arr base) n st (x+1))) st':=by
 obtain ⟨r,lo,hi⟩:=c
 obtain ⟨e,hr,le,hn,d,h1,h2⟩:=I
 subst e
 unfold Hi
 by_cases hge:lo ≥ hi
 ·rw [if_pos hge]
  exact wpS_pure ⟨rfl,rfl,le,hn,Nat.add_le_add_left hge n,h1,h2⟩
 ·rw [if_neg hge]
  have hm:=half_lt (Nat.lt_of_not_ge hge)
  have hl:lo<=lo+ (hi- lo)/2:=Nat.le_add_right _ _
  generalize lo+ (hi- lo)/2=m at hm hl
  refine wpS_bind (G.by (Nat.lt_of_lt_of_le hm hn) ?_)
  cases hf:bey left key arr base m with
  | true=>exact wpS_pure ⟨rfl,rfl,hm,hn,(by have:x+hi<=n+lo:=d;show x+1+hi<=n+ (m+1);exact zn5 130172666543386922527515213656903968 rfl d hl),λi hi'=>G.hm i m (Nat.le_of_lt_succ hi') (Nat.lt_of_lt_of_le hm hn) hf,h2⟩
  | false=>exact wpS_pure ⟨rfl,rfl,hl,nTr (Nat.le_of_lt hm) hn,(by have:x+hi<=n+lo:=d;show x+1+m<=n+lo;exact zn5 163884811335849776465898646425888 rfl d hm),h1,λi h6 h7=>G.no h6 h7 hf⟩
theorem GP.fin(G:GP left key arr base n st)(h1:lo<=hi)(h2:hi<=n)(h3:∀i,i<lo->bey left key arr base i=true)(h4:∀i,hi<=i->i<n->bey left key arr base i=false)
  (h:∀k,k<=n->(∀i,i<k->bey left key arr base i=true)->(∀i,k<=i->i<n->bey left key arr base i=false)->Q (some k) st):wpS (model prog w) A E s (J3 left key arr base n lo hi) Q st:=by
 refine wpS_bind (wpS_mono (Cr (I:=GI (bey left key arr base) n st) (Q:=GI (bey left key arr base) n st n) (λx c st' V I=>G.half I) (λc st' I=>I) ⟨rfl,rfl,h1,h2,(by show 0+hi<=n+lo;exact zn3 36345526832419104 rfl h2),h3,h4⟩) λc st' I=> ?_)
 ·obtain ⟨r,lo,hi⟩:=c
  obtain ⟨e,hr,le,hn,d,h1,h2⟩:=I
  subst e
  subst hr
  exact wpS_pure (h hi hn (λi q=>h1 i (Nat.lt_of_lt_of_le q (Nat.le_of_add_le_add_left d))) h2)
theorem GP.walk(G:GP left key arr base n st)(hpos:∀o,o<mx->pos o<n)(I:GW (bey left key arr base) pos mx nb st (λo=>x+1<=o) c st'):wpS (model prog w) A E s (Hj left key arr base pos mx nb c) (SP (GW (bey left key arr base) pos mx nb st λo=>o<mx->nb (bey left key arr base (pos o))=true) (GW (bey left key arr base) pos mx nb st λo=>x+1+1<=o)) st':=by
 obtain ⟨r,la,o⟩:=c
 obtain ⟨e,hr,lt,lm,fa,last⟩:=I
 subst e
 unfold Hj
 by_cases hge:o ≥ mx
 ·rw [if_pos hge]
  exact wpS_pure ⟨rfl,rfl,lt,lm,fa,λh=>absurd hge (Nat.not_le_of_lt h)⟩
 ·rw [if_neg hge]
  have ho:=Nat.lt_of_not_ge hge
  refine wpS_bind (G.by (hpos _ ho) ?_)
  show wpS _ _ _ _ (if nb (bey left key arr base (pos o))=true then _ else _) _ _
  cases hf:nb (bey left key arr base (pos o)) with
  | true=>exact wpS_pure ⟨rfl,rfl,lt,lm,fa,λV=>hf⟩
  | false=>exact wpS_pure ⟨rfl,rfl,(by show o<2*o+1;exact zn2 45126173458721 rfl lt),ho,hf,(by have:x+1<=o:=last;show x+1+1<=2*o+1;exact zn3 1704190088178416519117311463712 rfl lt last)⟩
theorem GP.go(G:GP left key arr base n st){to:GSt->Nat×Nat}(hpos:∀o,o<mx->pos o<n)(hmx:0<mx/\mx<=n)(h0:nb (bey left key arr base (pos 0))=false)
  (hto:∀la o,la<o->la<mx->nb (bey left key arr base (pos la))=false->(o<mx->nb (bey left key arr base (pos o))=true)->(to (none,la,o)).1<= (to (none,la,o)).2/\(to (none,la,o)).2<=n/\(∀i,i< (to (none,la,o)).1->bey left key arr base i=true)/\∀i,(to (none,la,o)).2<=i->i<n->bey left key arr base i=false)
  (h:∀k,k<=n->(∀i,i<k->bey left key arr base i=true)->(∀i,k<=i->i<n->bey left key arr base i=false)->Q (some k) st):wpS (model prog w) A E s (gGo left key arr base n pos mx nb to) Q st:=by
 refine wpS_bind (wpS_mono (Cr (I:=λx=>GW (bey left key arr base) pos mx nb st λo=>x+1<=o) (Q:=GW (bey left key arr base) pos mx nb st λo=>o<mx->nb (bey left key arr base (pos o))=true) (λx c st' V I=>G.walk hpos I) (λc st' I=> ?_) ⟨rfl,rfl,Nat.zero_lt_one,hmx.1,h0,Nat.le_refl _⟩) λc st' I=> ?_)
 ·refine ⟨I.s,I.r,I.lt,I.lm,I.fa,λh=>absurd h (Nat.not_lt_of_le (nTr hmx.2 ?_))⟩
  exact Nat.le_of_succ_le I.last
 ·obtain ⟨r,la,o⟩:=c
  obtain ⟨e,hr,lt,lm,fa,last⟩:=I
  subst e
  subst hr
  obtain ⟨a1,a2,a3,a4⟩:=hto la o lt lm fa last
  exact G.fin a1 a2 a3 a4 h
end
theorem E2{st:SortSt}{left:Bool}{key:Keyed}{arr:Array Keyed}{base n hint:Nat}{Q:Option Nat->SortSt->Prop}(hk:kindOf st=oneType')(hp:IsK key)(hq:∀p∈arr.toList,IsK p)(hn:base+n<=arr.size)(hh:hint<n)
  (hm:∀i j,i<=j->j<n->bey left key arr base j=true->bey left key arr base i=true)
  (h:∀k,k<=n->(∀i,i<k->bey left key arr base i=true)->(∀i,k<=i->i<n->bey left key arr base i=false)->Q (some k) st):
  wpS (model prog w) A E s (Cj left key arr base n hint) Q st:=by
 have G:GP left key arr base n st:=⟨hk,hp,hq,hn,hm⟩
 rw [Pg]
 refine wpS_bind (G.by hh ?_)
 cases hr:bey left key arr base hint with
 | true=>
  refine GP.go (nb:=λb=> !b) (pos:=λo=>hint+o) (mx:=n- hint) G (λo ho=> ?_) ⟨Nat.sub_pos_of_lt hh,Nat.sub_le _ _⟩ (by show (!bey left key arr base (hint+0))=false;rw [Nat.add_zero,hr];rfl) (λla o lt lm fa last=>⟨?_,?_,λi hi=> ?_,λi h6 h7=> ?_⟩) h
  ·show hint+o<n;exact zn4 75691929238384709488929 rfl ho (Ab (zn2 34662809888 rfl hh))
  ·show hint+la+1<=hint+min o (n- hint);exact Nat.add_lt_add_left (Nat.lt_min.mpr ⟨lt,lm⟩) hint
  ·show hint+min o (n- hint)<=n;exact nTr (Nat.add_le_add_left (Nat.min_le_right _ _) hint) (Nat.le_of_eq (Nat.add_sub_cancel' (Nat.le_of_lt hh)))
  ·exact G.hm i (hint+la) (Nat.le_of_lt_succ hi) (by exact zn4 75691929238384709488929 rfl lm (Ab (zn2 34662809888 rfl hh))) (by simpa using fa)
  ·rcases Nat.lt_or_ge o (n- hint) with q | q
   ·exact G.no (i:=hint+o) (by rw [Nat.min_eq_left (Nat.le_of_lt q)] at h6;exact h6) h7 (by simpa using last q)
   ·rw [Nat.min_eq_right q,Nat.add_sub_cancel' (Nat.le_of_lt hh)] at h6
    exact absurd h7 (Nat.not_lt_of_le h6)
 | false=>
  refine GP.go (nb:=λb=>b) (pos:=λo=>hint- o) (mx:=hint+1) G (λo ho=> ?_) ⟨Nat.succ_pos _,hh⟩ hr (λla o lt lm fa last=>⟨?_,?_,λi hi=> ?_,λi h6 h7=> ?_⟩) h
  ·show hint- o<n;exact Nat.lt_of_le_of_lt (Nat.sub_le _ _) hh
  ·show hint+1- min o (hint+1)<=hint- la
   exact nTr (Nat.sub_le_sub_left (Nat.lt_min.mpr ⟨lt,lm⟩:la+1<=_) (hint+1)) (Nat.le_of_eq (Nat.succ_sub_succ hint la))
  ·show hint- la<=n;exact Nat.le_of_lt (Nat.lt_of_le_of_lt (Nat.sub_le _ _) hh)
  ·rcases Nat.lt_or_ge o (hint+1) with q | q
   ·rw [Nat.min_eq_left (Nat.le_of_lt q)] at hi
    exact G.hm i (hint- o) (Nat.le_of_lt_succ (Nat.succ_sub (Nat.le_of_lt_succ q)▸hi)) (Nat.lt_of_le_of_lt (Nat.sub_le _ _) hh) (last q)
   ·rw [Nat.min_eq_right q,Nat.sub_self] at hi
    exact absurd hi (Nat.not_lt_zero i)
  ·exact G.no (i:=hint- la) h6 h7 fa
end
end
section
noncomputable def Srt(f:Keyed->Int)(l:List Keyed):Prop:=l.Pairwise λp q=>f p<=f q
structure MLo(f:Keyed->Int)(a b out:Array Keyed)(ia ib:Nat):Prop where
 ia_le:ia<=a.size
 ib_le:ib<=b.size
 perm:(out.toList++(a.toList.drop ia++b.toList.drop ib)).Perm (a.toList++b.toList)
 srt:Srt f out.toList
 le:∀p∈out.toList,∀q,(q∈a.toList.drop ia\/q∈b.toList.drop ib)->f p<=f q
structure Aq(f:Keyed->Int)(a b:Array Keyed):Prop where
 sa:Srt f a.toList
 sb:Srt f b.toList
 ka:∀p∈a.toList,IsK p
 kb:∀p∈b.toList,IsK p
 pa:0<a.size
 pb:0<b.size
 first:∀p∈a.toList,f b[0]<=f p
 last:∀q∈b.toList,f q<=f a[a.size- 1]
noncomputable def Bc(f:Keyed->Int)(a b r:Array Keyed):Prop:=Srt f r.toList/\r.toList.Perm (a.toList++b.toList)
theorem Ck(h1:Srt f l)(h2:Srt f r)(h3:∀p∈l,∀q∈r,f p<=f q):Srt f (l++r):=List.pairwise_append.mpr ⟨h1,h2,h3⟩
theorem Dc(h:Srt f l)(n:Nat):Srt f (l.drop n):=List.Pairwise.sublist (List.drop_sublist n l) h
theorem E1(h:Srt f l)(hij:i<=j)(hj:j<l.length):f (l[i]'(by omega))<=f l[j]:=by
 rcases Nat.lt_or_ge i j with h1 | h1
 ·exact List.pairwise_iff_getElem.mp h i j (by exact zn3 72375389708648737 rfl hj h1) hj h1
 ·have:i=j:=Ac (zn2 34661761312 rfl hij) (zn2 34661761312 rfl h1)
  subst this;exact Int.le_refl _
theorem mem_drop_iff{l:List Keyed}{n:Nat}{q:Keyed}:q∈l.drop n ↔ ∃i,n<=i/\∃h:i<l.length,l[i]=q:=by
 constructor
 ·intro h
  obtain ⟨i,hi,e⟩:=List.getElem_of_mem h
  rw [List.length_drop] at hi
  exact ⟨n+i,by exact zn2 34210080 rfl,by omega,by rw [List.getElem_drop] at e;exact e⟩
 ·rintro ⟨i,h1,h2,rfl⟩
  have e:l[i]=(l.drop n)[i- n]'(by rw [List.length_drop];exact zn5 84204443708819303825174200609 rfl h2 (Aa _ _) (Ab (zn2 34661761312 rfl h1))):=by rw [List.getElem_drop];congr 1;exact Ac (zn3 38984593580884256 rfl (Aa _ _)) (zn3 72115080095879456 rfl (Ab (zn2 34661761312 rfl h1)))
  rw [e];exact List.getElem_mem _
theorem B5(a:Array Keyed)(i j:Nat):(a.extract i j).toList=(a.toList.drop i).take (j- i):=by
 rw [Array.toList_extract,List.extract_eq_take_drop]
theorem Fm(a:Array Keyed)(i:Nat):(a.extract i a.size).toList=a.toList.drop i:=by
 rw [B5,List.take_of_length_le (by rw [List.length_drop,Array.length_toList];exact zn1 288 rfl)]
section
variable {f:Keyed->Int}{a b out:Array Keyed}{ia ib:Nat}
theorem MLo.done_b(h:MLo f a b out ia ib)(P:Aq f a b)(hb:ib=b.size):Bc f a b (out++a.extract ia a.size++b.extract ib b.size):=by
 have e:b.toList.drop ib= []:=by rw [hb];exact List.drop_of_length_le (by simp)
 unfold Bc
 simp only [Array.toList_append,Fm,e,List.append_nil]
 have hp:=h.perm
 rw [e,List.append_nil] at hp
 exact ⟨Ck h.srt (Dc P.sa _) λp hp q hq=>h.le p hp q (.inl hq),hp⟩
theorem MLo.done_a(h:MLo f a b out ia ib)(P:Aq f a b)(ha:ia=a.size):Bc f a b (out++a.extract ia a.size++b.extract ib b.size):=by
 have e:a.toList.drop ia= []:=by rw [ha];exact List.drop_of_length_le (by simp)
 unfold Bc
 simp only [Array.toList_append,Fm,e,List.append_nil]
 have hp:=h.perm
 rw [e,List.nil_append] at hp
 exact ⟨Ck h.srt (Dc P.sb _) λp hp q hq=>h.le p hp q (.inr hq),hp⟩
theorem MLo.last_a(h:MLo f a b out ia ib)(P:Aq f a b)(ha:ia+1=a.size):Bc f a b (out++b.extract ib b.size++a.extract ia a.size):=by
 have e:a.toList.drop ia= [a[a.size- 1]'(by exact zn2 47300778950945 rfl (Ab (zn2 12150766578976 rfl ha)))]:=by
  have h1:ia<a.toList.length:=by simp;exact zn2 47300778950945 rfl ha
  rw [List.drop_eq_getElem_cons h1,List.drop_of_length_le (by simp;exact zn2 12442316616368416 rfl ha)]
  congr 1
  rw [Array.getElem_toList]
  congr 1
  exact Ac (zn3 417489342060862107582752 rfl ha (Aa _ _)) (zn3 88567756577390412726560 rfl ha (Ab (zn2 12150766578976 rfl ha)))
 unfold Bc
 simp only [Array.toList_append,Fm]
 refine ⟨Ck (Ck h.srt (Dc P.sb _) λp hp q hq=>h.le p hp q (.inr hq)) (Dc P.sa _) λp hp q hq=> ?_,?_⟩
 ·rcases lA hp with hp | hp
  ·exact h.le p hp q (.inl hq)
  ·rw [e,List.mem_singleton] at hq
   rw [hq]
   exact P.last p (List.mem_of_mem_drop hp)
 ·rw [List.append_assoc]
  exact (List.Perm.append_left _ List.perm_append_comm).trans h.perm
theorem MLo.chunk_a(h:MLo f a b out ia ib)(P:Aq f a b)(hk:ia+k<=a.size)(hle:∀i,i<k->∀q∈b.toList.drop ib,f ((a[ia+i]?).getD q)<=f q):MLo f a b (out++a.extract ia (ia+k)) (ia+k) ib:=by
 have ed:a.toList.drop ia=(a.extract ia (ia+k)).toList++a.toList.drop (ia+k):=by
  rw [B5,Nat.add_sub_cancel_left,<-List.drop_drop,List.take_append_drop]
 have hS:=Dc P.sa ia
 rw [ed] at hS
 obtain ⟨s1,s2,s3⟩:=List.pairwise_append.mp hS
 have hc:∀p∈(a.extract ia (ia+k)).toList,∀q∈b.toList.drop ib,f p<=f q:=by
  intro p hp q hq
  rw [B5,Nat.add_sub_cancel_left] at hp
  obtain ⟨i,hi,e⟩:=List.getElem_of_mem hp
  rw [List.length_take,List.length_drop,Array.length_toList] at hi
  rw [List.getElem_take,List.getElem_drop,Array.getElem_toList] at e
  have:=hle i (by exact zn3 38597325203996961 rfl hi (Nat.min_le_left _ _)) q hq
  rw [Array.getElem?_eq_getElem (by omega),Option.getD_some,e] at this
  exact this
 refine ⟨hk,h.ib_le,?_,?_,?_⟩
 ·have hp:=h.perm
  rw [ed] at hp
  rw [Array.toList_append]
  simpa only [List.append_assoc] using hp
 ·rw [Array.toList_append]
  exact Ck h.srt s1 λp hp q hq=>h.le p hp q (.inl (by rw [ed];exact lL _ hq))
 ·intro p hp q hq
  rw [Array.toList_append] at hp
  rcases lA hp with hp | hp
  ·exact h.le p hp q (hq.imp (λhq=>by rw [ed];exact lR _ hq) id)
  ·rcases hq with hq | hq
   ·exact s3 p hp q hq
   ·exact hc p hp q hq
theorem MLo.chunk_b(h:MLo f a b out ia ib)(P:Aq f a b)(hk:ib+k<=b.size)(hle:∀i,i<k->∀q∈a.toList.drop ia,f ((b[ib+i]?).getD q)<=f q):MLo f a b (out++b.extract ib (ib+k)) ia (ib+k):=by
 have ed:b.toList.drop ib=(b.extract ib (ib+k)).toList++b.toList.drop (ib+k):=by
  rw [B5,Nat.add_sub_cancel_left,<-List.drop_drop,List.take_append_drop]
 have hS:=Dc P.sb ib
 rw [ed] at hS
 obtain ⟨s1,s2,s3⟩:=List.pairwise_append.mp hS
 have hc:∀p∈(b.extract ib (ib+k)).toList,∀q∈a.toList.drop ia,f p<=f q:=by
  intro p hp q hq
  rw [B5,Nat.add_sub_cancel_left] at hp
  obtain ⟨i,hi,e⟩:=List.getElem_of_mem hp
  rw [List.length_take,List.length_drop,Array.length_toList] at hi
  rw [List.getElem_take,List.getElem_drop,Array.getElem_toList] at e
  have:=hle i (by exact zn3 38597325203996961 rfl hi (Nat.min_le_left _ _)) q hq
  rw [Array.getElem?_eq_getElem (by omega),Option.getD_some,e] at this
  exact this
 refine ⟨h.ia_le,hk,?_,?_,?_⟩
 ·have hp:=h.perm
  rw [ed] at hp
  rw [Array.toList_append]
  refine List.Perm.trans ?_ hp
  rw [List.append_assoc]
  refine List.Perm.append_left _ ?_
  rw [<-List.append_assoc,<-List.append_assoc]
  exact List.Perm.append_right _ List.perm_append_comm
 ·rw [Array.toList_append]
  exact Ck h.srt s1 λp hp q hq=>h.le p hp q (.inr (by rw [ed];exact lL _ hq))
 ·intro p hp q hq
  rw [Array.toList_append] at hp
  rcases lA hp with hp | hp
  ·exact h.le p hp q (hq.imp id λhq=>by rw [ed];exact lR _ hq)
  ·rcases hq with hq | hq
   ·exact hc p hp q hq
   ·exact s3 p hp q hq
theorem Hz(hp:a[i]?=some p):out.push p=out++a.extract i (i+1):=by
 apply Array.toList_inj.mp
 rw [Array.toList_push,Array.toList_append,B5,Nat.add_sub_cancel_left]
 obtain ⟨hi,e⟩:=Array.getElem?_eq_some_iff.mp hp
 rw [List.drop_eq_getElem_cons (by rw [Array.length_toList];exact hi),Array.getElem_toList,e]
 rfl
theorem MLo.push_a(h:MLo f a b out ia ib)(P:Aq f a b)(hp:a[ia]?=some p)(hle:∀q∈b.toList.drop ib,f p<=f q):MLo f a b (out.push p) (ia+1) ib:=by
 rw [Hz hp]
 have hi:=(Array.getElem?_eq_some_iff.mp hp).1
 refine h.chunk_a P (by exact zn2 35494728585504 rfl hi) λi hi q hq=> ?_
 have:i=0:=Ac (zn1 378260488480 rfl hi) (zn1 10528 rfl)
 subst this
 rw [Nat.add_zero,hp]
 exact hle q hq
theorem MLo.push_b(h:MLo f a b out ia ib)(P:Aq f a b)(hp:b[ib]?=some p)(hle:∀q∈a.toList.drop ia,f p<=f q):MLo f a b (out.push p) ia (ib+1):=by
 rw [Hz hp]
 have hi:=(Array.getElem?_eq_some_iff.mp hp).1
 refine h.chunk_b P (by exact zn2 35494728585504 rfl hi) λi hi q hq=> ?_
 have:i=0:=Ac (zn1 378260488480 rfl hi) (zn1 10528 rfl)
 subst this
 rw [Nat.add_zero,hp]
 exact hle q hq
theorem Fs{a:Array Keyed}(hs:Srt f a.toList){i:Nat}{p:Keyed}(hp:a[i]?=some p):∀q∈a.toList.drop i,f p<=f q:=by
 intro q hq
 obtain ⟨j,h1,h2,rfl⟩:=mem_drop_iff.mp hq
 obtain ⟨hi,e⟩:=Array.getElem?_eq_some_iff.mp hp
 have:=E1 hs h1 h2
 rw [Array.getElem_toList,e] at this
 exact this
theorem Ro(P:Aq f a b)(hp:b[0]?=some p):MLo f a b #[p] 0 1:=by
 have h0:MLo f a b #[] 0 0:=⟨Nat.zero_le _,Nat.zero_le _,by simp,.nil,λp hp=>no hp⟩
 refine h0.push_b P hp λq hq=> ?_
 have e:b[0]'P.pb=p:=by
  have:=(Array.getElem?_eq_some_iff.mp hp).2;exact this
 rw [<-e]
 exact P.first q (by simpa using hq)
end
end
section
noncomputable def Kept(st st':SortSt):Prop:=kindOf st'=kindOf st/\arrOf st'=arrOf st/\pendingOf st'=pendingOf st/\failedOf st'=failedOf st
theorem Kept.rfl{st:SortSt}:Kept st st:=⟨Eq.refl _,Eq.refl _,Eq.refl _,Eq.refl _⟩
theorem Kept.trans(h:Kept a b)(h':Kept b c):Kept a c:=⟨h'.1.trans h.1,h'.2.1.trans h.2.1,h'.2.2.1.trans h.2.2.1,h'.2.2.2.trans h.2.2.2⟩
noncomputable abbrev Di:=Option (Array Keyed)×Array Keyed×Nat×Nat×Nat×Nat×Nat
noncomputable def loA(a b out:Array Keyed)(ia ib g ac bc:Nat):StateT SortSt Sem (ForInStep Di):=do
 let p<-elem' a ia
 if ia+1+1==a.size then pure (.done (some (out.push p++b.extract ib b.size++a.extract (ia+1) a.size),out.push p,ia+1,ib,g,ac,bc))
 else if ac<7&&bc<7 then pure (.done (none,out.push p,ia+1,ib,g,ac,bc)) else pure (.yield (none,out.push p,ia+1,ib,g,ac,bc))
noncomputable def loB(a b out:Array Keyed)(ia ib g ac bc:Nat):StateT SortSt Sem (ForInStep Di):=do
 let q<-elem' b ib
 if ib+1==b.size then pure (.done (some (out.push q++a.extract ia a.size++b.extract (ib+1) b.size),out.push q,ia,ib+1,g,ac,bc))
 else
  let p<-elem' a ia
  let r<-Cj true p b (ib+1) (b.size- (ib+1)) 0
  match r with
  | some k=>
   if k>0 then
    if ib+1+k==b.size then pure (.done (some (out.push q++b.extract (ib+1) (ib+1+k)++a.extract ia a.size++b.extract (ib+1+k) b.size),out.push q++b.extract (ib+1) (ib+1+k),ia,ib+1+k,g,ac,k))
    else loA a b (out.push q++b.extract (ib+1) (ib+1+k)) ia (ib+1+k) g ac k
   else loA a b (out.push q) ia (ib+1) g ac k
  | _=>pure (.done (some (out.push q++a.extract ia a.size++b.extract (ib+1) b.size),out.push q,ia,ib+1,g,ac,bc))
noncomputable def loG(a b out:Array Keyed)(ia ib g ac bc:Nat):StateT SortSt Sem (ForInStep Di):=do
 Ew g
 let q<-elem' b ib
 let r<-Cj false q a ia (a.size- ia) 0
 match r with
 | some k=>
  if k>0 then
   if ia+k+1==a.size then pure (.done (some (out++a.extract ia (ia+k)++b.extract ib b.size++a.extract (ia+k) a.size),out++a.extract ia (ia+k),ia+k,ib,g,k,bc))
   else if ia+k==a.size then pure (.done (some (out++a.extract ia (ia+k)++a.extract (ia+k) a.size++b.extract ib b.size),out++a.extract ia (ia+k),ia+k,ib,g,k,bc))
   else loB a b (out++a.extract ia (ia+k)) (ia+k) ib g k bc
  else loB a b out ia ib g k bc
 | _=>pure (.done (some (out++a.extract ia a.size++b.extract ib b.size),out,ia,ib,g,ac,bc))
noncomputable abbrev Io:=Option (Array Keyed)×Array Keyed×Nat×Nat×Nat×Nat
noncomputable def loI(a b out:Array Keyed)(g ia ib ac bc:Nat):StateT SortSt Sem (ForInStep Io):=do
 let q<-elem' b ib
 let p<-elem' a ia
 let r<-lt' q p
 match r with
 | some wins=>
  if wins then do
   let q<-elem' b ib
   if ib+1==b.size then pure (.done (some (out.push q++a.extract ia a.size++b.extract (ib+1) b.size),out.push q,ia,ib+1,0,bc+1))
   else if bc+1 ≥ g then pure (.done (none,out.push q,ia,ib+1,0,bc+1)) else pure (.yield (none,out.push q,ia,ib+1,0,bc+1))
  else do
   let p<-elem' a ia
   if ia+1+1==a.size then pure (.done (some (out.push p++b.extract ib b.size++a.extract (ia+1) a.size),out.push p,ia+1,ib,ac+1,0))
   else if ac+1 ≥ g then pure (.done (none,out.push p,ia+1,ib,ac+1,0)) else pure (.yield (none,out.push p,ia+1,ib,ac+1,0))
 | _=>pure (.done (some (out++a.extract ia a.size++b.extract ib b.size),out,ia,ib,ac,bc))
noncomputable abbrev Mx:=Option (Array Keyed)×Array Keyed×Nat×Nat×Nat
theorem Ii{A:Around}{E:Value->Shared->Prop}{s:Shared}{st:SortSt}{g:Nat}{Q:Unit->SortSt->Prop}{M:Model}(h:∀st1,Kept st st1->Q () st1):wpS M A E s (Ew g) Q st:=by
 rw [Tz]
 exact wpS_modify (h _ ⟨rfl,rfl,rfl,rfl⟩)
structure MS(C D G π:Type) where
 dOf:C->D
 stepD:C->D->StateT SortSt Sem (ForInStep D)
 rD:D->Option (Array Keyed)
 bad:C->D->Array Keyed->C
 eOf:C->D->G
 stepE:G->StateT SortSt Sem (ForInStep G)
 rE:G->Option (Array Keyed)
 badE:G->Array Keyed->C
 gE:G->Nat
 next:G->C
 rC:C->Option (Array Keyed)
 pc:C->π
 pd:D->π
 pe:G->π
noncomputable def Hu(m:MS C D G π)(tot:Nat)(c0:C):StateT SortSt Sem (Array Keyed):=do
 let c<-forIn [0:tot] c0 λV c=>do
  let d<-forIn [0:tot] (m.dOf c) λV d=>m.stepD c d
  match m.rD d with
  | some r=>pure (.done (m.bad c d r))
  | none=>do
   liftM (rule "list.sort.gallop")
   let e<-forIn [0:tot] (m.eOf c d) λV e=>m.stepE e
   match m.rE e with
   | some r=>pure (.done (m.badE e r))
   | none=>do
    Ew (m.gE e)
    pure (.yield (m.next e))
 match m.rC c with
 | some r=>pure r
 | none=>liftM (unsupported "internal:list.sort.merge-bound")
noncomputable def MEnd(st:SortSt)(Dn:Array Keyed->Prop)(I:Nat->π->SortSt->Prop)(n:Nat)(ret:Option (Array Keyed))(p:π)(st':SortSt):Prop:=
 match ret with
 | some r=>Dn r/\Kept st st'
 | none=>I n p st'
noncomputable def MStep(st:SortSt)(Dn:Array Keyed->Prop)(I:Nat->π->SortSt->Prop)(n:Nat)(rD:D->Option (Array Keyed))(pd:D->π):ForInStep D->SortSt->Prop:=
 SP (λd=>MEnd st Dn I n (rD d) (pd d)) λd st'=>rD d=none/\I n (pd d) st'
theorem MEnd.mono{π:Type}{st st':SortSt}{Dn:Array Keyed->Prop}{I I':Nat->π->SortSt->Prop}{n n':Nat}{ret:Option (Array Keyed)}{p:π}(hI:∀p st',I n p st'->I' n' p st')(h:MEnd st Dn I n ret p st'):MEnd st Dn I' n' ret p st':=by
 cases ret with
 | some r=>exact h
 | none=>exact hI _ _ h
theorem MStep.mono{D π:Type}{st st':SortSt}{Dn:Array Keyed->Prop}{I I':Nat->π->SortSt->Prop}{n n':Nat}{rD:D->Option (Array Keyed)}{pd:D->π}{r:ForInStep D}(hI:∀p st',I n p st'->I' n' p st')(h:MStep st Dn I n rD pd r st'):MStep st Dn I' n' rD pd r st':=by
 cases r with
 | done d=>exact MEnd.mono hI h
 | yield d=>exact ⟨h.1,hI _ _ h.2⟩
structure Gs{C D G π:Type}(M:Model)(A:Around)(E:Value->Shared->Prop)(s:Shared)(m:MS C D G π)(st:SortSt)(tot:Nat)(Dn:Array Keyed->Prop)(I:Nat->π->SortSt->Prop):Prop where
 mono:∀n n' p st',n'<=n->I n p st'->I n' p st'
 top:∀p st',¬I tot p st'
 keep:∀n p st' st2,I n p st'->Kept st' st2->I n p st2
 d0:∀c,m.rD (m.dOf c)=none/\m.pd (m.dOf c)=m.pc c
 d1:∀c d r,m.rC (m.bad c d r)=some r
 e0:∀c d,m.rE (m.eOf c d)=none/\m.pe (m.eOf c d)=m.pd d
 e1:∀e r,m.rC (m.badE e r)=some r
 n0:∀e,m.rC (m.next e)=none/\m.pc (m.next e)=m.pe e
 sd:∀c d n st',I n (m.pd d) st'->wpS M A E s (m.stepD c d) (MStep st Dn I (n+1) m.rD m.pd) st'
 se:∀e n st',I n (m.pe e) st'->wpS M A E s (m.stepE e) (MStep st Dn I (n+1) m.rE m.pe) st'
theorem Mn{C D G π:Type}{A:Around}{E:Value->Shared->Prop}{s:Shared}{M:Model}{m:MS C D G π}{st st0:SortSt}{tot:Nat}{Dn:Array Keyed->Prop}{I:Nat->π->SortSt->Prop}{c0:C}(ok:Gs M A E s m st tot Dn I)(h0:m.rC c0=none)(hI:I 0 (m.pc c0) st0){Q:Array Keyed->SortSt->Prop}(h:∀r st',Dn r->Kept st st'->Q r st'):wpS M A E s (Hu m tot c0) Q st0:=by
 refine wpS_bind (wpS_mono (Cr (I:=λx c st'=>m.rC c=none/\I x (m.pc c) st') (Q:=λc st'=>∃r,m.rC c=some r/\Dn r/\Kept st st') (λx c st1 V z=> ?_) (λc st' z=>(ok.top _ _ z.2).elim) ⟨h0,hI⟩) λc st' z=> ?_)
 ·have i:=(ok.d0 c).2▸z.2
  refine wpS_bind (wpS_mono (Cr (I:=λy d st'=>m.rD d=none/\I (x+y) (m.pd d) st') (Q:=λd=>MEnd st Dn I (x+1) (m.rD d) (m.pd d)) (λy d st2 V z=>wpS_mono (ok.sd c d _ _ z.2) λr st' z=> ?_) (λd st' z=>(ok.top _ _ (ok.mono _ _ _ _ (Nat.le_add_left tot x) z.2)).elim) ⟨(ok.d0 c).1,i⟩) λd st2 z=> ?_)
  ·cases r with
   | done d=>exact MEnd.mono (λp st'=>ok.mono _ _ p st' (Nat.succ_le_succ (Nat.le_add_right x y))) z
   | yield d=>exact z
  ·show wpS M A E s (match m.rD d with | some r=>_ | none=>_) _ _
   cases e:m.rD d with
   | some r=>
    rw [e] at z
    exact wpS_pure ⟨r,ok.d1 _ _ _,z⟩
   | none=>
    rw [e] at z
    refine wpS_bind (wpS_lift (wpAny_rule ⟨rfl,?_⟩))
    refine wpS_bind (wpS_mono (Cr (I:=λV e st'=>m.rE e=none/\I (x+1) (m.pe e) st') (Q:=λe=>MEnd st Dn I (x+1) (m.rE e) (m.pe e)) (λV e st3 V z=>wpS_mono (ok.se e _ _ z.2) λr st' z=> ?_) (λe st' z=>by rw [z.1];exact z.2) ⟨(ok.e0 c d).1,(ok.e0 c d).2.symm▸z⟩) λe st3 z=> ?_)
    ·have mo:=λp st'=>ok.mono (x+1+1) (x+1) p st' (Nat.le_succ _)
     cases r with
     | done e=>exact MEnd.mono mo z
     | yield e=>exact ⟨z.1,mo _ _ z.2⟩
    ·show wpS M A E s (match m.rE e with | some r=>_ | none=>_) _ _
     cases q:m.rE e with
     | some r=>
      rw [q] at z
      exact wpS_pure ⟨r,ok.e1 _ _,z⟩
     | none=>
      rw [q] at z
      exact wpS_bind (Ii λst5 hK5=>wpS_pure ⟨(ok.n0 e).1,(ok.n0 e).2.symm▸ok.keep _ _ _ _ z hK5⟩)
 ·obtain ⟨r,e,d,k⟩:=z
  rw [e]
  exact wpS_pure (h r _ d k)
noncomputable abbrev Du(a b:Array Keyed):MS Mx Io Di (Array Keyed×Nat×Nat) where
 dOf c:=(none,c.2.1,c.2.2.1,c.2.2.2.1,0,0)
 stepD c d:=loI a b d.2.1 c.2.2.2.2 d.2.2.1 d.2.2.2.1 d.2.2.2.2.1 d.2.2.2.2.2
 rD d:=d.1
 bad c d r:=(some r,d.2.1,d.2.2.1,d.2.2.2.1,c.2.2.2.2)
 eOf c d:=(none,d.2.1,d.2.2.1,d.2.2.2.1,c.2.2.2.2+1,d.2.2.2.2.1,d.2.2.2.2.2)
 stepE e:=if e.2.2.2.2.1>1 then loG a b e.2.1 e.2.2.1 e.2.2.2.1 (e.2.2.2.2.1- 1) e.2.2.2.2.2.1 e.2.2.2.2.2.2
  else loG a b e.2.1 e.2.2.1 e.2.2.2.1 e.2.2.2.2.1 e.2.2.2.2.2.1 e.2.2.2.2.2.2
 rE e:=e.1
 badE e r:=(some r,e.2.1,e.2.2.1,e.2.2.2.1,e.2.2.2.2.1)
 gE e:=e.2.2.2.2.1+1
 next e:=(none,e.2.1,e.2.2.1,e.2.2.2.1,e.2.2.2.2.1+1)
 rC c:=c.1
 pc c:=(c.2.1,c.2.2.1,c.2.2.2.1)
 pd d:=(d.2.1,d.2.2.1,d.2.2.2.1)
 pe e:=(e.2.1,e.2.2.1,e.2.2.2.1)
theorem Rh(a b:Array Keyed):Ht a b=(do
 liftM (rule "list.sort.merge-lo")
 let q<-elem' b 0
 if 1==b.size then pure (#[q]++a.extract 0 a.size++b.extract 1 b.size)
 else if 0+1==a.size then pure (#[q]++b.extract 1 b.size++a.extract 0 a.size)
 else do
  let st<-get
  Hu (Du a b) (a.size+b.size) (none,#[q],0,1,gallopOf st)):=by kernel_rfl
section
variable {prog:Program}{w:World}{A:Around}{E:Value->Shared->Prop}{s:Shared}{a b out:Array Keyed}{ia ib g ac bc:Nat}{st st1:SortSt}
structure Gq(a b out:Array Keyed)(ia ib:Nat):Prop where
 m:MLo kf a b out ia ib
 ha:ia+1<a.size
 hb:ib<b.size
structure LoS(st:SortSt)(a b:Array Keyed)(n:Nat)(p:Array Keyed×Nat×Nat)(st':SortSt):Prop where
 k:Kept st st'
 ok:Gq a b p.1 p.2.1 p.2.2
 n:n<=p.2.1+p.2.2
noncomputable abbrev LoQ(st:SortSt)(a b:Array Keyed)(n:Nat):ForInStep Di->SortSt->Prop:=MStep st (Bc kf a b) (LoS st a b) n (Du a b).rE (Du a b).pe
theorem LoQ.mono{n n':Nat}{r:ForInStep Di}{st':SortSt}(h:LoQ st a b n r st')(hn:n'<=n):LoQ st a b n' r st':=MStep.mono (λV V z=>⟨z.k,z.ok,nTr hn z.n⟩) h
theorem Kn(P:Aq kf a b)(hK:Kept st st1)(M:MLo kf a b out ia ib)(ha:ia+1<a.size)(hb:ib<b.size)(hp:a[ia]?=some p)(hle:∀q∈b.toList.drop ib,kf p<=kf q):
  wpS (model prog w) A E s (loA a b out ia ib g ac bc) (LoQ st a b (ia+ib+1)) st1:=by
 unfold loA
 refine wpS_bind (Be hp ?_)
 have M1:=M.push_a P hp hle
 by_cases h1:ia+1+1=a.size
 ·rw [if_pos (by simpa using h1)]
  exact wpS_pure ⟨M1.last_a P h1,hK⟩
 ·rw [if_neg (by simpa using h1)]
  have K:LoS st a b (ia+ib+1) ((out.push p),(ia+1),ib) st1:=⟨hK,⟨M1,by exact zn2 51172011472214213415201 rfl (Nat.lt_of_le_of_ne (zn2 49598460501632373024 rfl ha) h1),hb⟩,by exact zn2 48436385266946336 rfl⟩
  split
  ·exact wpS_pure K
  ·exact wpS_pure ⟨rfl,K⟩
theorem Bp(h:i<a.size):∃p,a[i]?=some p/\p∈a.toList:=⟨a[i],Array.getElem?_eq_getElem h,by simp⟩
theorem bey_true_of:bey left key arr base i=true ↔ (if left then kf ((arr[base+i]?).getD key)<kf key else kf ((arr[base+i]?).getD key)<=kf key):=by
 unfold bey
 cases left<;>simp
theorem bey_false_of:bey left key arr base i=false ↔ (if left then kf key<=kf ((arr[base+i]?).getD key) else kf key<kf ((arr[base+i]?).getD key)):=by
 unfold bey
 cases left<;>simp
theorem Fb(hs:Srt kf arr.toList)(hn:base+n<=arr.size)(i j:Nat)(hij:i<=j)(hj:j<n)(h:bey left key arr base j=true):bey left key arr base i=true:=by
 rw [bey_true_of] at h ⊢
 rw [Array.getElem?_eq_getElem (by omega),Option.getD_some] at h ⊢
 have:=E1 hs (i:=base+i) (j:=base+j) (by exact zn3 73500222685204768 rfl hij) (by rw [Array.length_toList];exact zn4 114850656982013572043041 rfl hn hj)
 rw [Array.getElem_toList,Array.getElem_toList] at this
 cases left<;>simp only [if_true,Bool.false_eq_true,if_false] at h ⊢ <;>omega
theorem Ko(P:Aq kf a b)(hk:kindOf st=oneType')(hK:Kept st st1)(M:MLo kf a b out ia ib)(ha:ia+1<a.size)(hb:ib<b.size)(hq:b[ib]?=some q)(hle:∀p∈a.toList.drop ia,kf q<=kf p):
  wpS (model prog w) A E s (loB a b out ia ib g ac bc) (LoQ st a b (ia+ib+1)) st1:=by
 unfold loB
 refine wpS_bind (Be hq ?_)
 have M1:=M.push_b P hq hle
 by_cases h1:ib+1=b.size
 ·rw [if_pos (by simpa using h1)]
  exact wpS_pure ⟨M1.done_b P h1,hK⟩
 ·rw [if_neg (by simpa using h1)]
  obtain ⟨p,hp,hpm⟩:=Bp (a:=a) (i:=ia) (by exact zn2 47300777902369 rfl ha)
  refine wpS_bind (Be hp ?_)
  refine wpS_bind (E2 (hK.1.trans hk) (P.ka p hpm) P.kb (by exact zn3 88567488849621675561248 rfl (Ab (zn2 35494728585504 rfl hb))) (by exact zn3 52083313533157091475204385 rfl (Aa _ _) (Nat.lt_of_le_of_ne (zn2 35494728585504 rfl hb) h1)) (Fb P.sb (by exact zn3 88567488849621675561248 rfl (Ab (zn2 35494728585504 rfl hb)))) λk hk1 hk2 hk3=> ?_)
  dsimp only
  have hkle:∀i,i<k->∀q'∈a.toList.drop ia,kf ((b[ib+1+i]?).getD q')<=kf q':=by
   intro i hi q' hq'
   have:=bey_true_of.mp (hk2 i hi)
   simp only [if_true] at this
   rw [Array.getElem?_eq_getElem (by omega),Option.getD_some] at this ⊢
   have h3:=Fs P.sa hp q' hq'
   exact zi3 38602822767378725 rfl this h3
  have M2:=M1.chunk_b P (k:=k) (by exact zn4 92869818745880581777100788000 rfl hk1 (Ab (zn2 35494728585504 rfl hb))) hkle
  have hple:∀q'∈b.toList.drop (ib+1+k),kf p<=kf q':=by
   intro q' hq'
   obtain ⟨j,h2,h3,rfl⟩:=mem_drop_iff.mp hq'
   rw [Array.length_toList] at h3
   have:=bey_false_of.mp (hk3 (j- (ib+1)) (by exact zn4 439006454809959585564661416224 rfl h2 (Aa _ _)) (by exact zn5 97543203496172099746146533285855521 rfl h3 (Aa _ _) (Ab (zn3 39596373910798487840 rfl h2))))
   simp only [if_true] at this
   rw [show ib+1+ (j- (ib+1))=j by exact Nat.le_antisymm (zn3 88567488849621675561248 rfl (Nat.sub_add_cancel (zn3 39596373910798487840 rfl h2))) (zn3 417489738611884099764512 rfl (Aa _ _)),Array.getElem?_eq_getElem (by exact zn2 34662809889 rfl h3),Option.getD_some] at this
   rw [Array.getElem_toList]
   exact this
  by_cases hk0:k>0
  ·rw [if_pos hk0]
   by_cases h2:ib+1+k=b.size
   ·rw [if_pos (by simpa using h2)]
    exact wpS_pure ⟨M2.done_b P h2,hK⟩
   ·rw [if_neg (by simpa using h2)]
    refine wpS_mono (Kn P hK M2 ha (by exact zn3 77145027128020884410657 rfl (Nat.lt_of_le_of_ne (zn4 92869818745880581777100788000 rfl hk1 (Ab (zn2 35494728585504 rfl hb))) h2)) hp hple) λr st' hr=>hr.mono (by exact zn3 418337158141717607239968 rfl)
  ·rw [if_neg hk0]
   have:k=0:=Ac (zn1 11043930400 rfl hk0) (zn1 10528 rfl)
   subst this
   refine wpS_mono (Kn P hK M1 ha (by exact zn2 48435996583285025 rfl (Nat.lt_of_le_of_ne (zn2 35494728585504 rfl hb) h1)) hp hple) λr st' hr=>hr.mono (by exact zn2 418569075656713982240 rfl)
theorem Q7(P:Aq kf a b)(hk:kindOf st=oneType')(hK:Kept st st1)(M:Gq a b out ia ib):
  wpS (model prog w) A E s (loG a b out ia ib g ac bc) (LoQ st a b (ia+ib+1)) st1:=by
 obtain ⟨M,ha,hb⟩:=M
 refine wpS_bind (Ii λst2 hK2=> ?_)
 replace hK:=hK.trans hK2
 obtain ⟨q,hq,hqm⟩:=Bp hb
 refine wpS_bind (Be hq ?_)
 refine wpS_bind (E2 (hK.1.trans hk) (P.kb q hqm) P.ka (by exact zn3 72115080095879456 rfl (Ab (zn2 47300777902368 rfl ha))) (by exact zn3 38519431810607437850913 rfl ha (Aa _ _)) (Fb P.sa (by exact zn3 72115080095879456 rfl (Ab (zn2 47300777902368 rfl ha)))) λk hk1 hk2 hk3=> ?_)
 dsimp only
 have hkle:∀i,i<k->∀q'∈b.toList.drop ib,kf ((a[ia+i]?).getD q')<=kf q':=by
  intro i hi q' hq'
  have:=bey_true_of.mp (hk2 i hi)
  simp only [Bool.false_eq_true,if_false] at this
  rw [Array.getElem?_eq_getElem (by omega),Option.getD_some] at this ⊢
  have h3:=Fs P.sb hq q' hq'
  exact zi3 38602822766330149 rfl this h3
 have M1:=M.chunk_a P (k:=k) (by exact zn4 75691929238383635747104 rfl hk1 (Ab (zn2 47300777902368 rfl ha))) hkle
 have hqle:∀p∈a.toList.drop (ia+k),kf q<=kf p:=by
  intro p hp
  obtain ⟨j,h2,h3,rfl⟩:=mem_drop_iff.mp hp
  rw [Array.length_toList] at h3
  have:=bey_false_of.mp (hk3 (j- ia) (by exact zn4 77480108238910720606496 rfl h2 (Aa _ _)) (by exact zn5 84204443708819303825174200609 rfl h3 (Aa _ _) (Ab (zn3 37405172203808 rfl h2))))
  simp only [Bool.false_eq_true,if_false] at this
  rw [show ia+ (j- ia)=j by exact Nat.le_antisymm (zn3 72115080095879456 rfl (Nat.sub_add_cancel (zn3 37405172203808 rfl h2))) (zn3 38984593580884256 rfl (Aa _ _)),Array.getElem?_eq_getElem (by exact zn2 34662809889 rfl h3),Option.getD_some] at this
  rw [Array.getElem_toList]
  exact zi2 34668052773 rfl this
 by_cases hk0:k>0
 ·rw [if_pos hk0]
  by_cases h1:ia+k+1=a.size
  ·rw [if_pos (by simpa using h1)]
   exact wpS_pure ⟨M1.last_a P h1,hK⟩
  ·rw [if_neg (by simpa using h1)]
   by_cases h2:ia+k=a.size
   ·rw [if_pos (by simpa using h2)]
    exact wpS_pure ⟨M1.done_a P h2,hK⟩
   ·rw [if_neg (by simpa using h2)]
    exact wpS_mono (Ko P hk hK M1 (by exact zn3 88582008453731208286497 rfl (Nat.lt_of_le_of_ne (zn3 74962733637007200544 rfl (Nat.lt_of_le_of_ne (zn4 75691929238383635747104 rfl hk1 (Ab (zn2 47300777902368 rfl ha))) h2)) h1)) hb hq hqle) λr st' hr=>hr.mono (by exact zn3 89802108683944987764347168 rfl hk0)
 ·rw [if_neg hk0]
  have:k=0:=Ac (zn1 11043930400 rfl hk0) (zn1 10528 rfl)
  subst this
  exact Ko P hk hK M ha hb hq hqle
theorem Q8(P:Aq kf a b)(hk:kindOf st=oneType')(hK:Kept st st1)(M:Gq a b out ia ib):
  wpS (model prog w) A E s (loI a b out g ia ib ac bc) (MStep st (Bc kf a b) (LoS st a b) (ia+ib+1) (Du a b).rD (Du a b).pd) st1:=by
 obtain ⟨M,ha,hb⟩:=M
 obtain ⟨q,hq,hqm⟩:=Bp hb
 obtain ⟨p,hp,hpm⟩:=Bp (a:=a) (i:=ia) (by exact zn2 47300777902369 rfl ha)
 refine wpS_bind (Be hq (wpS_bind (Be hp ?_)))
 refine wpS_bind (Gk (hK.1.trans hk) (P.kb q hqm) (P.ka p hpm) ?_)
 dsimp only
 by_cases hlt:kf q<kf p
 ·rw [if_pos (by simpa using hlt)]
  refine wpS_bind (Be hq ?_)
  have M1:=M.push_b P hq λp' hp'=>by have:=Fs P.sa hp p' hp';exact zi3 38602822767378725 rfl hlt this
  by_cases h1:ib+1=b.size
  ·rw [if_pos (by simpa using h1)]
   exact wpS_pure ⟨M1.done_b P h1,hK⟩
  ·rw [if_neg (by simpa using h1)]
   have K:LoS st a b (ia+ib+1) ((out.push q),ia,(ib+1)) st1:=⟨hK,⟨M1,by exact zn2 48435996583285025 rfl ha,by exact zn2 48435996583285025 rfl (Nat.lt_of_le_of_ne (zn2 35494728585504 rfl hb) h1)⟩,by exact zn2 398147053597380896 rfl⟩
   split
   ·exact wpS_pure K
   ·exact wpS_pure ⟨rfl,K⟩
 ·rw [if_neg (by simpa using hlt)]
  refine wpS_bind (Be hp ?_)
  have M1:=M.push_a P hp λq' hq'=>by have:=Fs P.sb hq q' hq';exact zi3 38602756198531365 rfl hlt this
  by_cases h1:ia+1+1=a.size
  ·rw [if_pos (by simpa using h1)]
   exact wpS_pure ⟨M1.last_a P h1,hK⟩
  ·rw [if_neg (by simpa using h1)]
   have K:LoS st a b (ia+ib+1) ((out.push p),(ia+1),ib) st1:=⟨hK,⟨M1,by exact zn2 51172011472214213415201 rfl (Nat.lt_of_le_of_ne (zn2 49598460501632373024 rfl ha) h1),by exact zn2 34662809889 rfl hb⟩,by exact zn2 48436385266946336 rfl⟩
   split
   ·exact wpS_pure K
   ·exact wpS_pure ⟨rfl,K⟩
theorem Q9(P:Aq kf a b)(hk:kindOf st=oneType'):Gs (model prog w) A E s (Du a b) st (a.size+b.size) (Bc kf a b) (LoS st a b) where
 mono _ _ _ _ h z:=⟨z.k,z.ok,nTr h z.n⟩
 top p st' z:=absurd z.n (Nat.not_le_of_lt (Nat.add_lt_add (Nat.lt_of_succ_lt z.ok.ha) z.ok.hb))
 keep _ _ _ _ z h:=⟨z.k.trans h,z.ok,z.n⟩
 d0 _:=⟨rfl,rfl⟩
 d1 _ _ _:=rfl
 e0 _ _:=⟨rfl,rfl⟩
 e1 _ _:=rfl
 n0 _:=⟨rfl,rfl⟩
 sd c d n st' z:=wpS_mono (Q8 P hk z.k z.ok) λr st' hr=>MStep.mono (λV V y=>⟨y.k,y.ok,nTr (Nat.succ_le_succ z.n) y.n⟩) hr
 se e n st' z:=by
  show wpS _ _ _ _ (if _ then _ else _) _ _
  split<;>exact wpS_mono (Q7 P hk z.k z.ok) λr st' hr=>hr.mono (Nat.succ_le_succ z.n)
theorem Wz(P:Aq kf a b)(hk:kindOf st=oneType')(h:∀r st',Bc kf a b r->Kept st st'->Q r st'):wpS (model prog w) A E s (Ht a b) Q st:=by
 rw [Rh]
 refine wpS_bind (wpS_lift (wpAny_rule ⟨rfl,?_⟩))
 obtain ⟨q,hq,_⟩:=Bp P.pb
 refine wpS_bind (Be hq ?_)
 have M0:=Ro P hq
 by_cases h1:1=b.size
 ·rw [if_pos (by simpa using h1)]
  exact wpS_pure (h _ _ (M0.done_b P h1) .rfl)
 ·rw [if_neg (by simpa using h1)]
  by_cases h2:0+1=a.size
  ·rw [if_pos (by simpa using h2)]
   exact wpS_pure (h _ _ (M0.last_a P h2) .rfl)
  ·rw [if_neg (by simpa using h2)]
   exact wpS_bind (wpS_get (Mn (c0:=(none,#[q],0,1,gallopOf st)) (Q9 P hk) rfl (show LoS st a b 0 (#[q],0,1) st from ⟨.rfl,⟨M0,Nat.lt_of_le_of_ne P.pa h2,Nat.lt_of_le_of_ne P.pb h1⟩,Nat.zero_le _⟩) h))
end
end
section
noncomputable def nf(p:Keyed):Int:= - kf p
theorem L1(h:Srt kf l):Srt nf l.reverse:=by
 refine List.pairwise_reverse.mpr (List.Pairwise.imp (λ {p q} h=> ?_) h)
 show- _<= - _;exact zi2 1414184074533 rfl h
theorem Ur(h:Srt nf l):Srt kf l.reverse:=by
 refine List.pairwise_reverse.mpr (List.Pairwise.imp (λ {p q} h=> ?_) h)
 have: - kf p<= - kf q:=h
 exact zi2 34152813461797 rfl this
structure MHi(a b out:Array Keyed)(na nb:Nat):Prop where
 na_le:na<=a.size
 nb_le:nb<=b.size
 m:MLo nf b.reverse a.reverse out (b.size- nb) (a.size- na)
section
variable {a b out:Array Keyed}{na nb:Nat}
theorem H4(x:Array Keyed)(n:Nat)(h:n<=x.size):x.reverse.toList.drop (x.size- n)=(x.toList.take n).reverse:=by
 rw [Array.toList_reverse,List.drop_reverse]
 congr 2
 rw [Array.length_toList];exact Ac (zn4 79123023568304229876000 rfl (Aa _ _) (Ab (zn2 34661761312 rfl (Nat.sub_le _ _)))) (zn4 75691929238763974197536 rfl (Aa _ _) (Ab (zn2 34661761312 rfl h)))
theorem Eo(P:Aq kf a b):Aq nf b.reverse a.reverse where
 sa:=by rw [Array.toList_reverse];exact L1 P.sb
 sb:=by rw [Array.toList_reverse];exact L1 P.sa
 ka:=λp hp=>P.kb p (by simpa using hp)
 kb:=λp hp=>P.ka p (by simpa using hp)
 pa:=by simpa using P.pb
 pb:=by simpa using P.pa
 first:=λp hp=>by
  have h:=P.last p (by simpa using hp)
  rw [Array.getElem_reverse]
  show- _<= - _
  exact zi2 1414184074533 rfl h
 last:=λq hq=>by
  have h:=P.first q (by simpa using hq)
  rw [Array.getElem_reverse]
  have e:b.size- 1- (b.reverse.size- 1)=0:=by simp
  simp only [e]
  exact zi2 1414184074533 rfl h
theorem Hr(h:Bc nf b.reverse a.reverse r):Bc kf a b r.reverse:=by
 obtain ⟨h1,h2⟩:=h
 refine ⟨by rw [Array.toList_reverse];exact Ur h1,?_⟩
 rw [Array.toList_reverse]
 refine (List.reverse_perm _).trans (h2.trans ?_)
 rw [Array.toList_reverse,Array.toList_reverse]
 exact ((List.reverse_perm _).append (List.reverse_perm _)).trans List.perm_append_comm
theorem Dy(x:Array Keyed)(n:Nat)(h:n<=x.size):(x.reverse.extract (x.size- n) x.reverse.size).reverse=x.extract 0 n:=by
 apply Array.toList_inj.mp
 rw [Array.toList_reverse,Fm,H4 x n h,List.reverse_reverse,B5,List.drop_zero,Nat.sub_zero]
theorem Lk(x:Array Keyed)(i n:Nat)(hi:i<=n)(h:n<=x.size):x.reverse.extract (x.size- n) (x.size- n+ (n- i))=(x.extract i n).reverse:=by
 apply Array.toList_inj.mp
 rw [B5,Nat.add_sub_cancel_left,H4 x n h,Array.toList_reverse,B5,List.take_reverse,List.length_take,Array.length_toList,Nat.min_eq_left h]
 congr 1
 rw [show n- (n- i)=i by exact Nat.le_antisymm (zn4 79123023568304229876000 rfl (Aa _ _) (Nat.sub_add_cancel (zn2 34661761312 rfl (Nat.sub_le _ _)))) (zn4 75691929238763974197536 rfl (Aa _ _) (Nat.sub_add_cancel (zn2 34661761312 rfl hi))),List.drop_take]
theorem MHi.done_a(h:MHi a b out na nb)(P:Aq kf a b)(ha:na=0):Bc kf a b (a.extract 0 na++b.extract 0 nb++out.reverse):=by
 have:=Hr (h.m.done_b (Eo P) (by rw [ha];simp))
 rw [Array.reverse_append,Array.reverse_append,Dy _ _ h.na_le,Dy _ _ h.nb_le,<-Array.append_assoc] at this
 exact this
theorem MHi.done_b(h:MHi a b out na nb)(P:Aq kf a b)(hb:nb=0):Bc kf a b (a.extract 0 na++b.extract 0 nb++out.reverse):=by
 have:=Hr (h.m.done_a (Eo P) (by rw [hb];simp))
 rw [Array.reverse_append,Array.reverse_append,Dy _ _ h.na_le,Dy _ _ h.nb_le,<-Array.append_assoc] at this
 exact this
theorem MHi.first_b(h:MHi a b out na nb)(P:Aq kf a b)(hb:nb=1):Bc kf a b (b.extract 0 nb++a.extract 0 na++out.reverse):=by
 have hp:=P.pb
 have:=Hr (h.m.last_a (Eo P) (by rw [hb,Array.size_reverse];exact Ac (zn2 48435997657026848 rfl (Ab (zn1 11040468256 rfl hp))) (zn2 398146664165671200 rfl (Aa _ _))))
 rw [Array.reverse_append,Array.reverse_append,Dy _ _ h.na_le,Dy _ _ h.nb_le,<-Array.append_assoc] at this
 exact this
theorem Ks{x:Array Keyed}{n:Nat}(h:n<=x.size){q:Keyed}(hq:q∈x.reverse.toList.drop (x.size- n)):∃i,i<n/\x[i]?=some q:=by
 rw [H4 x n h,List.mem_reverse] at hq
 obtain ⟨i,hi,e⟩:=List.getElem_of_mem hq
 rw [List.length_take,Array.length_toList] at hi
 rw [List.getElem_take,Array.getElem_toList] at e
 exact ⟨i,by exact zn3 38597325203996961 rfl hi (Nat.min_le_left _ _),by rw [<-e];exact Array.getElem?_eq_getElem (by exact zn3 38597325203996961 rfl hi (Nat.min_le_right _ _))⟩
theorem MHi.chunk_a(h:MHi a b out na nb)(P:Aq kf a b){i:Nat}(hi:i<=na)(hle:∀j,i<=j->j<na->∀p,a[j]?=some p->∀m q,m<nb->b[m]?=some q->kf q<=kf p):MHi a b (out++(a.extract i na).reverse) i nb:=by
 have hna:=h.na_le
 refine ⟨by exact zn3 38597325202948384 rfl hi hna,h.nb_le,?_⟩
 have:=h.m.chunk_b (Eo P) (k:=na- i) (by rw [Array.size_reverse];exact zn4 79123023636093612347680 rfl (Nat.sub_le _ _) (Ab (zn2 34661761312 rfl hna))) λj hj q hq=> ?_
 ·rw [Lk _ _ _ hi hna] at this
  rwa [show a.size- na+ (na- i)=a.size- i by exact Ac (zn6 212950448155876647566710412839768352 rfl (Aa _ _) (Ab (zn2 34661761312 rfl hna)) (Ab (zn2 34661761312 rfl hi))) (zn6 131131207889226970937358336342491424 rfl (Aa _ _) (Aa _ _) (Ab (zn3 38597325202948384 rfl hi hna)))] at this
 ·obtain ⟨m,hm,e⟩:=Ks h.nb_le hq
  have hj':na- 1- j<a.size:=zn4 90806719554739831014719777 rfl hna (Nat.sub_le _ _) (Ab (zn3 2568529258753312 rfl hj (Nat.sub_le _ _)))
  rw [Array.getElem?_reverse (by exact zn5 84204443710725242565587652897 rfl hj (Nat.sub_le _ _) (Nat.sub_add_cancel (zn2 34661761312 rfl hna))),show a.size- 1- (a.size- na+j)=na- 1- j by exact Nat.le_antisymm (lin [_,_,_,_,_,_,_,_] [] 344382428763361910295010768996341364152730214415237408 rfl (Aa _ _) (Aa _ _) (Aa _ _) (Ab (zn2 1376791840 rfl hj')) (Ab (zn6 176813652744493367132680972620323115296 rfl hj (Aa _ _) (Nat.sub_le _ _) (Ab (zn2 34661761312 rfl hna))))) (lin [_,_,_,_,_,_,_,_] [] 304162288974402303813405138548232062613586867610747168 rfl (Aa _ _) (Aa _ _) (Ab (zn2 34661761312 rfl hna)) (Ab (zn4 118815148414561768264728864 rfl hj (Aa _ _) (Nat.sub_le _ _))) (Ab (zn3 2568529258753312 rfl hj (Nat.sub_le _ _)))),Array.getElem?_eq_getElem hj',Option.getD_some]
  have:=hle (na- 1- j) (by exact zn6 212827423994644867077661822482891440416 rfl hj (Aa _ _) (Aa _ _) (Ab (zn2 34661761312 rfl hi))) (by exact zn3 49670519217662755105 rfl (Nat.sub_le _ _) (Ab (zn3 2568529258753312 rfl hj (Nat.sub_le _ _)))) _ (Array.getElem?_eq_getElem hj') m q hm e
  show- _<= - _
  exact zi2 1414184074533 rfl this
theorem MHi.chunk_b(h:MHi a b out na nb)(P:Aq kf a b){i:Nat}(hi:i<=nb)(hle:∀j,i<=j->j<nb->∀p,b[j]?=some p->∀m q,m<na->a[m]?=some q->kf q<=kf p):MHi a b (out++(b.extract i nb).reverse) na i:=by
 have hnb:=h.nb_le
 refine ⟨h.na_le,by exact zn3 38597325202948384 rfl hi hnb,?_⟩
 have:=h.m.chunk_a (Eo P) (k:=nb- i) (by rw [Array.size_reverse];exact zn4 79123023636093612347680 rfl (Nat.sub_le _ _) (Ab (zn2 34661761312 rfl hnb))) λj hj q hq=> ?_
 ·rw [Lk _ _ _ hi hnb] at this
  rwa [show b.size- nb+ (nb- i)=b.size- i by exact Ac (zn6 212950448155876647566710412839768352 rfl (Aa _ _) (Ab (zn2 34661761312 rfl hnb)) (Ab (zn2 34661761312 rfl hi))) (zn6 131131207889226970937358336342491424 rfl (Aa _ _) (Aa _ _) (Ab (zn3 38597325202948384 rfl hi hnb)))] at this
 ·obtain ⟨m,hm,e⟩:=Ks h.na_le hq
  have hj':nb- 1- j<b.size:=zn4 90806719554739831014719777 rfl hnb (Nat.sub_le _ _) (Ab (zn3 2568529258753312 rfl hj (Nat.sub_le _ _)))
  rw [Array.getElem?_reverse (by exact zn5 84204443710725242565587652897 rfl hj (Nat.sub_le _ _) (Nat.sub_add_cancel (zn2 34661761312 rfl hnb))),show b.size- 1- (b.size- nb+j)=nb- 1- j by exact Nat.le_antisymm (lin [_,_,_,_,_,_,_,_] [] 344382428763361910295010768996341364152730214415237408 rfl (Aa _ _) (Aa _ _) (Aa _ _) (Ab (zn2 1376791840 rfl hj')) (Ab (zn6 176813652744493367132680972620323115296 rfl hj (Aa _ _) (Nat.sub_le _ _) (Ab (zn2 34661761312 rfl hnb))))) (lin [_,_,_,_,_,_,_,_] [] 304162288974402303813405138548232062613586867610747168 rfl (Aa _ _) (Aa _ _) (Ab (zn2 34661761312 rfl hnb)) (Ab (zn4 118815148414561768264728864 rfl hj (Aa _ _) (Nat.sub_le _ _))) (Ab (zn3 2568529258753312 rfl hj (Nat.sub_le _ _)))),Array.getElem?_eq_getElem hj',Option.getD_some]
  have:=hle (nb- 1- j) (by exact zn6 212827423994644867077661822482891440416 rfl hj (Aa _ _) (Aa _ _) (Ab (zn2 34661761312 rfl hi))) (by exact zn3 49670519217662755105 rfl (Nat.sub_le _ _) (Ab (zn3 2568529258753312 rfl hj (Nat.sub_le _ _)))) _ (Array.getElem?_eq_getElem hj') m q hm e
  show- _<= - _
  exact zi2 1414184074533 rfl this
theorem K9{x out:Array Keyed}{n:Nat}{p:Keyed}(hn:0<n)(hp:x[n- 1]?=some p):out.push p=out++(x.extract (n- 1) n).reverse:=by
 have h:=Hz (out:= #[]) hp
 rw [show n- 1+1=n by exact Nat.le_antisymm (zn2 48435997657026848 rfl (Nat.sub_add_cancel (zn1 11040468256 rfl hn))) (zn2 398146664165671200 rfl (Aa _ _))] at h
 have e:x.extract (n- 1) n= #[p]:=by
  have: #[]++x.extract (n- 1) n= #[p]:=h.symm
  simpa using this
 rw [e];simp
theorem MHi.push_a(h:MHi a b out na nb)(P:Aq kf a b){p:Keyed}(hn:0<na)(hp:a[na- 1]?=some p)(hle:∀m q,m<nb->b[m]?=some q->kf q<=kf p):MHi a b (out.push p) (na- 1) nb:=by
 rw [K9 hn hp]
 refine h.chunk_a P (by exact zn2 34661761312 rfl (Nat.sub_le _ _)) λj h1 h2 p' hp'=> ?_
 have:j=na- 1:=Ac (zn3 407704435594781294880 rfl h2 (Aa _ _)) (zn2 34661761312 rfl h1)
 subst this
 rw [hp] at hp'
 cases hp'
 exact hle
theorem MHi.push_b(h:MHi a b out na nb)(P:Aq kf a b){p:Keyed}(hn:0<nb)(hp:b[nb- 1]?=some p)(hle:∀m q,m<na->a[m]?=some q->kf q<=kf p):MHi a b (out.push p) na (nb- 1):=by
 rw [K9 hn hp]
 refine h.chunk_b P (by exact zn2 34661761312 rfl (Nat.sub_le _ _)) λj h1 h2 p' hp'=> ?_
 have:j=nb- 1:=Ac (zn3 407704435594781294880 rfl h2 (Aa _ _)) (zn2 34661761312 rfl h1)
 subst this
 rw [hp] at hp'
 cases hp'
 exact hle
theorem Rj(P:Aq kf a b)(hp:a[a.size- 1]?=some p):MHi a b #[p] (a.size- 1) b.size:=by
 have h0:MHi a b #[] a.size b.size:=⟨Nat.le_refl _,Nat.le_refl _,⟨by simp,by simp,by simp,.nil,λp hp=>no hp⟩⟩
 refine h0.push_a P P.pa hp λm q hm hq=> ?_
 have e:=(Array.getElem?_eq_some_iff.mp hp).2
 obtain ⟨h1,e2⟩:=Array.getElem?_eq_some_iff.mp hq
 rw [<-e]
 exact P.last q (by rw [<-e2];simp)
theorem Fq{x:Array Keyed}(hs:Srt kf x.toList){i j:Nat}{p q:Keyed}(hij:i<=j)(hp:x[j]?=some p)(hq:x[i]?=some q):kf q<=kf p:=by
 obtain ⟨h1,e1⟩:=Array.getElem?_eq_some_iff.mp hp
 obtain ⟨h2,e2⟩:=Array.getElem?_eq_some_iff.mp hq
 have:=E1 hs hij (by rw [Array.length_toList];exact h1)
 rw [Array.getElem_toList,Array.getElem_toList,e1,e2] at this
 exact this
end
noncomputable abbrev Ea:=Option (Array Keyed)×Nat×Nat×Array Keyed×Nat×Nat×Nat
noncomputable def hiA(a b out:Array Keyed)(na nb g ac bc:Nat):StateT SortSt Sem (ForInStep Ea):=do
 let p<-elem' a (na- 1)
 if na- 1==0 then pure (.done (some (a.extract 0 (na- 1)++b.extract 0 nb++(out.push p).reverse),na- 1,nb,out.push p,g,ac,bc))
 else if ac<7&&bc<7 then pure (.done (none,na- 1,nb,out.push p,g,ac,bc)) else pure (.yield (none,na- 1,nb,out.push p,g,ac,bc))
noncomputable def hiB(a b out:Array Keyed)(na nb g ac bc:Nat):StateT SortSt Sem (ForInStep Ea):=do
 let q<-elem' b (nb- 1)
 if nb- 1==1 then pure (.done (some (b.extract 0 (nb- 1)++a.extract 0 na++(out.push q).reverse),na,nb- 1,out.push q,g,ac,bc))
 else
  let p<-elem' a (na- 1)
  let r<-Cj true p b 0 (nb- 1) (nb- 1- 1)
  match r with
  | some j=>
   if nb- 1- j>0 then
    if j==1 then pure (.done (some (b.extract 0 j++a.extract 0 na++(out.push q++(b.extract j (nb- 1)).reverse).reverse),na,j,out.push q++(b.extract j (nb- 1)).reverse,g,ac,nb- 1- j))
    else if j==0 then pure (.done (some (a.extract 0 na++b.extract 0 j++(out.push q++(b.extract j (nb- 1)).reverse).reverse),na,j,out.push q++(b.extract j (nb- 1)).reverse,g,ac,nb- 1- j))
    else hiA a b (out.push q++(b.extract j (nb- 1)).reverse) na j g ac (nb- 1- j)
   else hiA a b (out.push q) na (nb- 1) g ac (nb- 1- j)
  | _=>pure (.done (some (a.extract 0 na++b.extract 0 (nb- 1)++(out.push q).reverse),na,nb- 1,out.push q,g,ac,bc))
noncomputable def hiG(a b out:Array Keyed)(na nb g ac bc:Nat):StateT SortSt Sem (ForInStep Ea):=do
 Ew g
 let q<-elem' b (nb- 1)
 let r<-Cj false q a 0 na (na- 1)
 match r with
 | some i=>
  if na- i>0 then
   if i==0 then pure (.done (some (a.extract 0 i++b.extract 0 nb++(out++(a.extract i na).reverse).reverse),i,nb,out++(a.extract i na).reverse,g,na- i,bc))
   else hiB a b (out++(a.extract i na).reverse) i nb g (na- i) bc
  else hiB a b out na nb g (na- i) bc
 | _=>pure (.done (some (a.extract 0 na++b.extract 0 nb++out.reverse),na,nb,out,g,ac,bc))
noncomputable abbrev Im:=Option (Array Keyed)×Nat×Nat×Array Keyed×Nat×Nat
noncomputable def hiI(a b out:Array Keyed)(g na nb ac bc:Nat):StateT SortSt Sem (ForInStep Im):=do
 let q<-elem' b (nb- 1)
 let p<-elem' a (na- 1)
 let r<-lt' q p
 match r with
 | some wins=>
  if wins then do
   let p<-elem' a (na- 1)
   if na- 1==0 then pure (.done (some (a.extract 0 (na- 1)++b.extract 0 nb++(out.push p).reverse),na- 1,nb,out.push p,ac+1,0))
   else if ac+1 ≥ g then pure (.done (none,na- 1,nb,out.push p,ac+1,0)) else pure (.yield (none,na- 1,nb,out.push p,ac+1,0))
  else do
   let q<-elem' b (nb- 1)
   if nb- 1==1 then pure (.done (some (b.extract 0 (nb- 1)++a.extract 0 na++(out.push q).reverse),na,nb- 1,out.push q,0,bc+1))
   else if bc+1 ≥ g then pure (.done (none,na,nb- 1,out.push q,0,bc+1)) else pure (.yield (none,na,nb- 1,out.push q,0,bc+1))
 | _=>pure (.done (some (a.extract 0 na++b.extract 0 nb++out.reverse),na,nb,out,ac,bc))
noncomputable abbrev Mu:=Option (Array Keyed)×Nat×Nat×Array Keyed×Nat
noncomputable abbrev Dr(a b:Array Keyed):MS Mu Im Ea (Nat×Nat×Array Keyed) where
 dOf c:=(none,c.2.1,c.2.2.1,c.2.2.2.1,0,0)
 stepD c d:=hiI a b d.2.2.2.1 c.2.2.2.2 d.2.1 d.2.2.1 d.2.2.2.2.1 d.2.2.2.2.2
 rD d:=d.1
 bad c d r:=(some r,d.2.1,d.2.2.1,d.2.2.2.1,c.2.2.2.2)
 eOf c d:=(none,d.2.1,d.2.2.1,d.2.2.2.1,c.2.2.2.2+1,d.2.2.2.2.1,d.2.2.2.2.2)
 stepE e:=if e.2.2.2.2.1>1 then hiG a b e.2.2.2.1 e.2.1 e.2.2.1 (e.2.2.2.2.1- 1) e.2.2.2.2.2.1 e.2.2.2.2.2.2
  else hiG a b e.2.2.2.1 e.2.1 e.2.2.1 e.2.2.2.2.1 e.2.2.2.2.2.1 e.2.2.2.2.2.2
 rE e:=e.1
 badE e r:=(some r,e.2.1,e.2.2.1,e.2.2.2.1,e.2.2.2.2.1)
 gE e:=e.2.2.2.2.1+1
 next e:=(none,e.2.1,e.2.2.1,e.2.2.2.1,e.2.2.2.2.1+1)
 rC c:=c.1
 pc c:=(c.2.1,c.2.2.1,c.2.2.2.1)
 pd d:=(d.2.1,d.2.2.1,d.2.2.2.1)
 pe e:=(e.2.1,e.2.2.1,e.2.2.2.1)
theorem Rg(a b:Array Keyed):Hs a b=(do
 liftM (rule "list.sort.merge-hi")
 let q<-elem' a (a.size- 1)
 if a.size- 1==0 then pure (a.extract 0 (a.size- 1)++b.extract 0 b.size++ #[q].reverse)
 else if b.size==1 then pure (b.extract 0 b.size++a.extract 0 (a.size- 1)++ #[q].reverse)
 else do
  let st<-get
  Hu (Dr a b) (a.size+b.size) (none,a.size- 1,b.size,#[q],gallopOf st)):=by kernel_rfl
section
variable {prog:Program}{w:World}{A:Around}{E:Value->Shared->Prop}{s:Shared}{a b out:Array Keyed}{na nb g ac bc:Nat}{st st1:SortSt}
structure Gn(a b out:Array Keyed)(na nb:Nat):Prop where
 m:MHi a b out na nb
 ha:0<na
 hb:1<nb
structure HiS(st:SortSt)(a b:Array Keyed)(t n:Nat)(p:Nat×Nat×Array Keyed)(st':SortSt):Prop where
 k:Kept st st'
 ok:Gn a b p.2.2 p.1 p.2.1
 n:p.1+p.2.1+n<=t
noncomputable abbrev HiQ(st:SortSt)(a b:Array Keyed)(t:Nat):ForInStep Ea->SortSt->Prop:=MStep st (Bc kf a b) (HiS st a b t) 1 (Dr a b).rE (Dr a b).pe
theorem HiQ.mono(h:HiQ st a b n r st')(hn:n<=n'):HiQ st a b n' r st':=MStep.mono (λV V z=>⟨z.k,z.ok,nTr z.n hn⟩) h
theorem J5(P:Aq kf a b)(hK:Kept st st1)(M:MHi a b out na nb)(ha:0<na)(hb:1<nb)(hp:a[na- 1]?=some p)(hle:∀m q,m<nb->b[m]?=some q->kf q<=kf p):
  wpS (model prog w) A E s (hiA a b out na nb g ac bc) (HiQ st a b (na+nb)) st1:=by
 unfold hiA
 refine wpS_bind (Be hp ?_)
 have M1:=M.push_a P ha hp hle
 by_cases h1:na- 1=0
 ·rw [if_pos (by simpa using h1)]
  exact wpS_pure ⟨M1.done_a P h1,hK⟩
 ·rw [if_neg (by simpa using h1)]
  have K:HiS st a b (na+nb) 1 ((na- 1),nb,(out.push p)) st1:=⟨hK,⟨M1,by exact zn1 11040467233 rfl (Nat.lt_of_le_of_ne (zn1 10528 rfl) (Ne.symm h1)),hb⟩,by exact zn3 88567756532953404559648 rfl (Ab (zn1 11040468256 rfl ha))⟩
  split
  ·exact wpS_pure K
  ·exact wpS_pure ⟨rfl,K⟩
theorem J6(P:Aq kf a b){q:Keyed}(hk:kindOf st=oneType')(hK:Kept st st1)(M:MHi a b out na nb)(ha:0<na)(hb:1<nb)(hq:b[nb- 1]?=some q)(hle:∀m p,m<na->a[m]?=some p->kf p<=kf q):
  wpS (model prog w) A E s (hiB a b out na nb g ac bc) (HiQ st a b (na+nb)) st1:=by
 unfold hiB
 have hna:=M.na_le
 have hnb:=M.nb_le
 refine wpS_bind (Be hq ?_)
 have M1:=M.push_b P (by exact zn1 12114209057 rfl hb) hq hle
 by_cases h1:nb- 1=1
 ·rw [if_pos (by simpa using h1)]
  exact wpS_pure ⟨M1.first_b P h1,hK⟩
 ·rw [if_neg (by simpa using h1)]
  obtain ⟨p,hp,hpm⟩:=Bp (a:=a) (i:=na- 1) (by exact zn3 86491949738831675681 rfl hna (Ab (zn1 11040468256 rfl ha)))
  refine wpS_bind (Be hp ?_)
  refine wpS_bind (E2 (hK.1.trans hk) (P.ka p hpm) P.kb (by exact zn3 74111273160675774752 rfl hnb (Nat.sub_le _ _)) (by exact zn2 47300778950945 rfl (Ab (zn2 406550388167719005472 rfl hb (Aa _ _)))) (Fb P.sb (by exact zn3 74111273160675774752 rfl hnb (Nat.sub_le _ _))) λk hk1 hk2 hk3=> ?_)
  dsimp only
  have hge:∀j,k<=j->j<nb- 1->∀q',b[j]?=some q'->kf p<=kf q':=by
   intro j h2 h3 q' hq'
   have:=bey_false_of.mp (hk3 j h2 h3)
   simpa only [if_true,Nat.zero_add,hq',Option.getD_some] using this
  have hlt:∀j,j<k->∀q',b[j]?=some q'->kf q'<kf p:=by
   intro j h2 q' hq'
   have:=bey_true_of.mp (hk2 j h2)
   simpa only [if_true,Nat.zero_add,hq',Option.getD_some] using this
  have M2:=M1.chunk_b P (i:=k) (by exact zn2 34661761312 rfl hk1) λj h2 h3 q' hq' m p' hm hp'=>by
   have h4:=hge j h2 h3 q' hq'
   have h5:=Fq P.sa (i:=m) (j:=na- 1) (by exact zn3 407704435594781294880 rfl hm (Aa _ _)) hp hp'
   exact zi3 72379787759354149 rfl h4 h5
  by_cases hk0:nb- 1- k>0
  ·rw [if_pos hk0]
   by_cases h2:k=1
   ·rw [if_pos (by simpa using h2)]
    exact wpS_pure ⟨M2.first_b P h2,hK⟩
   ·rw [if_neg (by simpa using h2)]
    by_cases h3:k=0
    ·rw [if_pos (by simpa using h3)]
     exact wpS_pure ⟨M2.done_b P h3,hK⟩
    ·rw [if_neg (by simpa using h3)]
     exact wpS_mono (J5 P hK M2 ha (by exact zn1 12114210081 rfl (Nat.lt_of_le_of_ne (zn1 11040468256 rfl (Nat.lt_of_le_of_ne (zn1 10528 rfl) (Ne.symm h3))) (Ne.symm h2))) hp λm q' hm hq'=>Int.le_of_lt (hlt m hm q' hq')) λr st' hr=>hr.mono (by exact zn4 79431789510413033427232 rfl hk1 (Nat.sub_le _ _))
  ·rw [if_neg hk0]
   have:k=nb- 1:=Ac (zn2 34661761312 rfl hk1) (zn3 39920223836123988256 rfl hk0 (Aa _ _))
   subst this
   exact wpS_mono (J5 P hK M1 ha (by exact zn1 12114210081 rfl (Nat.lt_of_le_of_ne (zn2 406550388167719005472 rfl hb (Aa _ _)) (Ne.symm h1))) hp λm q' hm hq'=>Int.le_of_lt (hlt m hm q' hq')) λr st' hr=>hr.mono (by exact zn3 73500222685204768 rfl (Nat.sub_le _ _))
theorem Pl(P:Aq kf a b)(hk:kindOf st=oneType')(hK:Kept st st1)(M:Gn a b out na nb):
  wpS (model prog w) A E s (hiG a b out na nb g ac bc) (HiQ st a b (na+nb)) st1:=by
 obtain ⟨M,ha,hb⟩:=M
 have hna:=M.na_le
 have hnb:=M.nb_le
 refine wpS_bind (Ii λst2 hK2=> ?_)
 replace hK:=hK.trans hK2
 obtain ⟨q,hq,hqm⟩:=Bp (a:=b) (i:=nb- 1) (by exact zn3 86491949738831675681 rfl hnb (Ab (zn1 12114210080 rfl hb)))
 refine wpS_bind (Be hq ?_)
 refine wpS_bind (E2 (hK.1.trans hk) (P.kb q hqm) P.ka (by exact zn2 35493643637024 rfl hna) (by exact zn2 47300778950945 rfl (Ab (zn1 11040468256 rfl ha))) (Fb P.sa (by exact zn2 35493643637024 rfl hna)) λk hk1 hk2 hk3=> ?_)
 dsimp only
 have hge:∀j,k<=j->j<na->∀q',a[j]?=some q'->kf q<kf q':=by
  intro j h2 h3 q' hq'
  have:=bey_false_of.mp (hk3 j h2 h3)
  simpa only [Bool.false_eq_true,if_false,Nat.zero_add,hq',Option.getD_some] using this
 have hlt:∀j,j<k->∀q',a[j]?=some q'->kf q'<=kf q:=by
  intro j h2 q' hq'
  have:=bey_true_of.mp (hk2 j h2)
  simpa only [Bool.false_eq_true,if_false,Nat.zero_add,hq',Option.getD_some] using this
 have M1:=M.chunk_a P (i:=k) (by exact zn2 34661761312 rfl hk1) λj h2 h3 q' hq' m p' hm hp'=>by
  have h4:=hge j h2 h3 q' hq'
  have h5:=Fq P.sb (i:=m) (j:=nb- 1) (by exact zn3 407704435594781294880 rfl hm (Aa _ _)) hq hp'
  exact zi3 72379787760402725 rfl h4 h5
 by_cases hk0:na- k>0
 ·rw [if_pos hk0]
  by_cases h1:k=0
  ·rw [if_pos (by simpa using h1)]
   exact wpS_pure ⟨M1.done_a P h1,hK⟩
  ·rw [if_neg (by simpa using h1)]
   exact wpS_mono (J6 P hk hK M1 (by exact zn1 11040467233 rfl (Nat.lt_of_le_of_ne (zn1 10528 rfl) (Ne.symm h1))) hb hq λm p hm hp=>hlt m hm p hp) λr st' hr=>hr.mono (by exact zn3 72374290566107424 rfl hk1)
 ·rw [if_neg hk0]
  have:k=na:=Ac (zn2 34661761312 rfl hk1) (zn3 39920223836123988256 rfl hk0 (Aa _ _))
  subst this
  exact J6 P hk hK M ha hb hq λm p hm hp=>hlt m hm p hp
theorem Pm(P:Aq kf a b)(hk:kindOf st=oneType')(hK:Kept st st1)(M:Gn a b out na nb):
  wpS (model prog w) A E s (hiI a b out g na nb ac bc) (MStep st (Bc kf a b) (HiS st a b (na+nb)) 1 (Dr a b).rD (Dr a b).pd) st1:=by
 obtain ⟨M,ha,hb⟩:=M
 have hna:=M.na_le
 have hnb:=M.nb_le
 obtain ⟨q,hq,hqm⟩:=Bp (a:=b) (i:=nb- 1) (by exact zn3 86491949738831675681 rfl hnb (Ab (zn1 12114210080 rfl hb)))
 obtain ⟨p,hp,hpm⟩:=Bp (a:=a) (i:=na- 1) (by exact zn3 86491949738831675681 rfl hna (Ab (zn1 11040468256 rfl ha)))
 refine wpS_bind (Be hq (wpS_bind (Be hp ?_)))
 refine wpS_bind (Gk (hK.1.trans hk) (P.kb q hqm) (P.ka p hpm) ?_)
 dsimp only
 by_cases hlt:kf q<kf p
 ·rw [if_pos (by simpa using hlt)]
  refine wpS_bind (Be hp ?_)
  have M1:=M.push_a P ha hp λm q' hm hq'=>by have:=Fq P.sb (i:=m) (j:=nb- 1) (by exact zn3 407704435594781294880 rfl hm (Aa _ _)) hq hq';exact zi3 72379787760402725 rfl hlt this
  by_cases h1:na- 1=0
  ·rw [if_pos (by simpa using h1)]
   exact wpS_pure ⟨M1.done_a P h1,hK⟩
  ·rw [if_neg (by simpa using h1)]
   have K:HiS st a b (na+nb) 1 ((na- 1),nb,(out.push p)) st1:=⟨hK,⟨M1,by exact zn1 11040467233 rfl (Nat.lt_of_le_of_ne (zn1 10528 rfl) (Ne.symm h1)),by exact zn1 12114210081 rfl hb⟩,by exact zn3 88567756532953404559648 rfl (Ab (zn1 11040468256 rfl ha))⟩
   split
   ·exact wpS_pure K
   ·exact wpS_pure ⟨rfl,K⟩
 ·rw [if_neg (by simpa using hlt)]
  refine wpS_bind (Be hq ?_)
  have M1:=M.push_b P (by exact zn1 12114209057 rfl hb) hq λm p' hm hp'=>by have:=Fq P.sa (i:=m) (j:=na- 1) (by exact zn3 407704435594781294880 rfl hm (Aa _ _)) hp hp';exact zi3 72379821049544997 rfl hlt this
  by_cases h1:nb- 1=1
  ·rw [if_pos (by simpa using h1)]
   exact wpS_pure ⟨M1.first_b P h1,hK⟩
  ·rw [if_neg (by simpa using h1)]
   have K:HiS st a b (na+nb) 1 (na,(nb- 1),(out.push q)) st1:=⟨hK,⟨M1,by exact zn1 11040467233 rfl ha,by exact zn1 12114210081 rfl (Nat.lt_of_le_of_ne (zn2 406550388167719005472 rfl hb (Aa _ _)) (Ne.symm h1))⟩,by exact zn3 88604650054086172496160 rfl (Ab (zn1 12114210080 rfl hb))⟩
   split
   ·exact wpS_pure K
   ·exact wpS_pure ⟨rfl,K⟩
theorem J7(h:x+1<=y)(h2:y+n<=t):x+ (n+1)<=t:=zn4 80606678082397217198167839008 rfl h h2
theorem Po(P:Aq kf a b)(hk:kindOf st=oneType'):Gs (model prog w) A E s (Dr a b) st (a.size+b.size) (Bc kf a b) (HiS st a b (a.size+b.size)) where
 mono _ _ _ _ h z:=⟨z.k,z.ok,nTr (Nat.add_le_add_left h _) z.n⟩
 top p st' z:=absurd (nTr (Nat.add_le_add_right (Nat.le_add_right _ _) _) z.n) (Nat.not_le_of_lt (Nat.lt_add_of_pos_left z.ok.ha))
 keep _ _ _ _ z h:=⟨z.k.trans h,z.ok,z.n⟩
 d0 _:=⟨rfl,rfl⟩
 d1 _ _ _:=rfl
 e0 _ _:=⟨rfl,rfl⟩
 e1 _ _:=rfl
 n0 _:=⟨rfl,rfl⟩
 sd c d n st' z:=wpS_mono (Pm P hk z.k z.ok) λr st' hr=>MStep.mono (λV V y=>⟨y.k,y.ok,J7 y.n z.n⟩) hr
 se e n st' z:=by
  show wpS _ _ _ _ (if _ then _ else _) _ _
  split<;>exact wpS_mono (Pl P hk z.k z.ok) λr st' hr=>MStep.mono (λV V y=>⟨y.k,y.ok,J7 y.n z.n⟩) hr
theorem Wy(P:Aq kf a b)(hk:kindOf st=oneType')(h:∀r st',Bc kf a b r->Kept st st'->Q r st'):wpS (model prog w) A E s (Hs a b) Q st:=by
 rw [Rg]
 refine wpS_bind (wpS_lift (wpAny_rule ⟨rfl,?_⟩))
 have hpa:=P.pa
 obtain ⟨q,hq,_⟩:=Bp (a:=a) (i:=a.size- 1) (by exact zn2 47300778950945 rfl (Ab (zn1 11040468256 rfl hpa)))
 refine wpS_bind (Be hq ?_)
 have M0:=Rj P hq
 by_cases h1:a.size- 1=0
 ·rw [if_pos (by simpa using h1)]
  exact wpS_pure (h _ _ (M0.done_a P h1) .rfl)
 ·rw [if_neg (by simpa using h1)]
  by_cases h2:b.size=1
  ·rw [if_pos (by simpa using h2)]
   exact wpS_pure (h _ _ (M0.first_b P h2) .rfl)
  ·rw [if_neg (by simpa using h2)]
   exact wpS_bind (wpS_get (Mn (c0:=(none,a.size- 1,b.size,#[q],gallopOf st)) (Po P hk) rfl (show HiS st a b (a.size+b.size) 0 (a.size- 1,b.size,#[q]) st from ⟨.rfl,⟨M0,Nat.pos_of_ne_zero h1,Nat.lt_of_le_of_ne P.pb (Ne.symm h2)⟩,Nat.add_le_add_right (Nat.sub_le _ _) _⟩) h))
end
end
section
structure SB(a₀:Array Keyed)(pend:Array (Nat×Nat×Nat))(lo:Nat)(st:SortSt):Prop where
 perm:(arrOf st).Perm a₀
 kind:kindOf st=oneType'
 failed:failedOf st=none
 pend:pendingOf st=pend
 low:∀i,i<lo->(arrOf st)[i]?=a₀[i]?
noncomputable def Up(xs:Array Keyed)(lo n:Nat):Prop:=∀i j,i<=j->j<n->K xs (lo+i)<=K xs (lo+j)
noncomputable def Dn(xs:Array Keyed)(lo n:Nat):Prop:=∀i j,i<=j->j<n->K xs (lo+j)<=K xs (lo+i)
section
variable {a₀:Array Keyed}{pend:Array (Nat×Nat×Nat)}{lo:Nat}{st:SortSt}
theorem SB.size(h:SB a₀ pend lo st):(arrOf st).size=a₀.size:=h.perm.size_eq
theorem SB.setArr(h:SB a₀ pend lo st)(hp:xs.Perm (arrOf st))(hl:∀i,i<lo->xs[i]?=(arrOf st)[i]?):SB a₀ pend lo (setArr st xs):=
 ⟨hp.trans h.perm,h.kind,h.failed,h.pend,λi hi=>(hl i hi).trans (h.low i hi)⟩
theorem SB.at(h:SB a₀ pend lo st)(h0:IntKeys a₀)(hi:i<a₀.size):∃t q,(arrOf st)[i]?=some (.int (K (arrOf st) i) t,q):=by
 have hi':i< (arrOf st).size:=by rw [h.size];exact hi
 have hm:(arrOf st)[i]∈a₀.toList:=(Array.perm_iff_toList_perm.mp h.perm).mem_iff.mp (by simp)
 obtain ⟨n,t,hn⟩:=h0 _ hm
 have e:(arrOf st)[i]?=some (Value.int n t,(arrOf st)[i].2):=by
  rw [getElem?_pos _ i hi'];exact congrArg some (Prod.ext hn rfl)
 refine ⟨t,(arrOf st)[i].2,?_⟩
 have hK:K (arrOf st) i=n:=by unfold K;rw [e];rfl
 rw [hK];exact e
theorem Ju(hn:lo+n<=xs.size)(k:Nat)(hk:k<n):K (mirror xs lo (lo+n) ((lo+n- lo)/2)) (lo+k)=K xs (lo+ (n- 1- k)):=by
 rw [K_mirror hn,if_pos ⟨by exact zn2 34210080 rfl,by exact zn3 73501322196832545 rfl hk⟩]
 congr 1;exact Ac (lin [_,_,_,_,_,_,_] [] 241886757920578901079555217874850599859114161066344736 rfl (Aa _ _) (Aa _ _) (Ab (zn4 439008136844252034450167189792 rfl hk (Aa _ _))) (Ab (zn3 38598390724570400 rfl hk))) (lin [_,_,_,_,_,_,_] [] 256225035225390754088235188960667707870123982106677536 rfl (Aa _ _) (Aa _ _) (Ab (zn3 407704435594781294880 rfl hk (Aa _ _))) (Ab (zn2 1376791840 rfl hk)))
theorem Jv(hj:j<=xs.size)(k:Nat)(hk:k<i):(mirror xs i j ((j- i)/2))[k]?=xs[k]?:=by
 rw [getElem?_mirror_all hj,if_neg (by omega)]
theorem Nl(hs:src<xs.size)(hd:d<=src)(k:Nat)(hk:k<src- d):(bubble xs src d)[k]?=xs[k]?:=by
 rw [getElem?_bubble hs d hd,if_neg (by exact λe9=>zn2 1107095987263 rfl hk e9),if_neg (by omega)]
end
noncomputable def upL(lo a nrem:Nat):StateT SortSt Sem AscSt:=
 forIn [a:nrem] ((none,a):AscSt) λV c=>do
  let r<-ltAt' (lo+c.2) (lo+c.2- 1)
  match r with
  | some less=>if less then pure (.done (none,c.2)) else pure (.yield (none,c.2+1))
  | _=>pure (.done (some none,c.2))
noncomputable def Gg(lo n nrem:Nat):StateT SortSt Sem (Option Nat):=do
 reverseSlice' lo (lo+n)
 let c<-upL lo n nrem
 match c.1 with
 | some r=>pure r
 | none=>pure (some c.2)
noncomputable def dnL(lo n nrem:Nat):StateT SortSt Sem DescSt:=
 forIn [n:nrem] ((none,n,0):DescSt) λV c=>do
  let r<-ltAt' (lo+c.2.1) (lo+c.2.1- 1)
  match r with
  | some less=>
   if less then
    if c.2.2>0 then do
     reverseSlice' (lo+c.2.1- (c.2.2+1)) (lo+c.2.1)
     pure (.yield (none,c.2.1+1,0))
    else pure (.yield (none,c.2.1+1,0))
   else do
    let r<-ltAt' (lo+c.2.1- 1) (lo+c.2.1)
    match r with
    | some more=>if more then pure (.done (none,c.2.1,c.2.2)) else pure (.yield (none,c.2.1+1,c.2.2+1))
    | _=>pure (.done (some none,c.2.1,c.2.2))
  | _=>pure (.done (some none,c.2.1,c.2.2))
noncomputable def dnP(lo n nrem:Nat):StateT SortSt Sem (Option Nat):=do
 liftM (rule "list.sort.descending-run")
 let c<-dnL lo (n+1) nrem
 match c.1 with
 | some r=>pure r
 | none=>
  if c.2.2>0 then do
   reverseSlice' (lo+c.2.1- (c.2.2+1)) (lo+c.2.1)
   Gg lo c.2.1 nrem
  else Gg lo c.2.1 nrem
theorem On(lo nrem:Nat):countRun' lo nrem=(do
  let c<-upL lo 1 nrem
  match c.1 with
  | some r=>pure r
  | none=>
   if c.2==nrem then pure (some c.2)
   else if c.2>1 then do
    let r<-ltAt' lo (lo+c.2- 1)
    match r with
    | some rose=>if rose then pure (some c.2) else do
      reverseSlice' lo (lo+c.2)
      dnP lo c.2 nrem
    | _=>pure none
   else dnP lo c.2 nrem):=by kernel_rfl
section
variable {prog:Program}{w:World}{A:Around}{E:Value->Shared->Prop}{s:Shared}{a₀:Array Keyed}{pend:Array (Nat×Nat×Nat)}{lo n nrem:Nat}{st:SortSt}
theorem E3(hB:SB a₀ pend lo st)(h0:IntKeys a₀)(hi:i<a₀.size)(hj:j<a₀.size)
  (h:Q (some (decide (K (arrOf st) i<K (arrOf st) j))) st):wpS (model prog w) A E s (ltAt' i j) Q st:=by
 obtain ⟨t,p,e1⟩:=hB.at h0 hi
 obtain ⟨u,q,e2⟩:=hB.at h0 hj
 exact wpS_ltAt hB.kind e1 e2 h
theorem Wb(hx:1<=x)(h:Up xs lo x)(hle:¬K xs (lo+x)<K xs (lo+x- 1)):Up xs lo (x+1):=by
 intro i j hij hj
 by_cases hjx:j<x
 ·exact h i j hij hjx
 ·have:j=x:=Ac (zn2 388815102443808 rfl hj) (zn2 1379959072 rfl hjx)
  subst this
  by_cases hi:i=j
  ·subst hi;exact Int.le_refl _
  ·have:=h i (j- 1) (by exact zn3 74112750185164603680 rfl (Aa _ _) (Nat.lt_of_le_of_ne (zn2 34661761312 rfl hij) hi)) (by exact zn2 47300778950945 rfl (Ab (zn1 12113161504 rfl hx)))
   rw [show lo+ (j- 1)=lo+j- 1 by exact Nat.le_antisymm (zn4 132522791126583846751031021856 rfl (Aa _ _) (Nat.sub_add_cancel (zn1 12113161504 rfl hx))) (zn4 120867218465829936804465869088 rfl (Aa _ _) (Nat.sub_add_cancel (zn2 47588271861024 rfl hx)))] at this
   exact zi3 72379821049544997 rfl hle this
theorem Fj(hx:1<=x)(h:Dn xs lo x)(hle:¬K xs (lo+x- 1)<K xs (lo+x)):Dn xs lo (x+1):=by
 intro i j hij hj
 by_cases hjx:j<x
 ·exact h i j hij hjx
 ·have:j=x:=Ac (zn2 388815102443808 rfl hj) (zn2 1379959072 rfl hjx)
  subst this
  by_cases hi:i=j
  ·subst hi;exact Int.le_refl _
  ·have:=h i (j- 1) (by exact zn3 74112750185164603680 rfl (Aa _ _) (Nat.lt_of_le_of_ne (zn2 34661761312 rfl hij) hi)) (by exact zn2 47300778950945 rfl (Ab (zn1 12113161504 rfl hx)))
   rw [show lo+ (j- 1)=lo+j- 1 by exact Nat.le_antisymm (zn4 132522791126583846751031021856 rfl (Aa _ _) (Nat.sub_add_cancel (zn1 12113161504 rfl hx))) (zn4 120867218465829936804465869088 rfl (Aa _ _) (Nat.sub_add_cancel (zn2 47588271861024 rfl hx)))] at this
   exact zi3 38602756198531365 rfl hle this
theorem Mr(h0:IntKeys a₀)(hn:lo+nrem<=a₀.size)(ha:1<=a)(han:a<=nrem)(hB:SB a₀ pend lo st)(hs:Up (arrOf st) lo a)
  (h:∀n,a<=n->n<=nrem->Up (arrOf st) lo n->(n=nrem\/K (arrOf st) (lo+n)<K (arrOf st) (lo+n- 1))->Q (none,n) st):
  wpS (model prog w) A E s (upL lo a nrem) Q st:=by
 unfold upL
 refine wpS_forRange (I:=λx c st'=>st'=st/\c=(none,x)/\Up (arrOf st) lo x) ?step ?fin ⟨rfl,rfl,hs⟩
 case fin=>
  rintro c st' ⟨rfl,rfl,hs'⟩
  rw [show max a nrem=nrem by exact Nat.le_antisymm (zn2 34663858464 rfl (Nat.max_eq_right (zn2 34661761312 rfl han))) (zn2 34661761312 rfl (Nat.le_max_right _ _))] at hs' ⊢
  exact h nrem han (Nat.le_refl _) hs' (.inl rfl)
 case step=>
  rintro x c st' hax hxn ⟨rfl,rfl,hs'⟩
  dsimp only
  refine wpS_bind (E3 hB h0 (by exact zn4 114850656982013572043041 rfl hn hxn) (by exact zn5 161706257757657139130319012129 rfl hn hxn (Nat.sub_le _ _)) ?_)
  by_cases hless:K (arrOf st') (lo+x)<K (arrOf st') (lo+x- 1)
  ·simp only [hless,decide_true,if_true]
   exact wpS_pure (h x hax (by exact zn2 34662809888 rfl hxn) hs' (.inr hless))
  ·simp only [hless,decide_false,Bool.false_eq_true,if_false]
   exact wpS_pure ⟨rfl,rfl,Wb (by exact zn2 1442605728541984 rfl ha hax) hs' hless⟩
theorem Mq(h0:IntKeys a₀)(hn:lo+nrem<=a₀.size)(h1:1<=n)(hnn:n<=nrem)(hB:SB a₀ pend lo st)(hs:Dn (arrOf st) lo n)
  (h:∀m st',SB a₀ pend lo st'->1<=m->m<=nrem->Up (arrOf st') lo m->Q (some m) st'):wpS (model prog w) A E s (Gg lo n nrem) Q st:=by
 unfold Gg
 have hsz:lo+n<= (arrOf st).size:=by rw [hB.size];exact zn4 114849504060508965196064 rfl hn hnn
 refine wpS_bind (wpS_reverse ?_)
 have hB':SB a₀ pend lo (setArr st (mirror (arrOf st) lo (lo+n) ((lo+n- lo)/2))):=hB.setArr (mirror_perm _ _ _ _) λi hi=>Jv hsz i hi
 refine wpS_bind (Mr h0 hn h1 hnn hB' ?_ λm hm1 hm2 hsm V=>wpS_pure (h m _ hB' (by exact zn2 1442605728541984 rfl h1 hm1) hm2 hsm))
 intro i j hij hj
 show K (mirror _ _ _ _) _<=K (mirror _ _ _ _) _
 rw [Ju hsz _ (by exact zn3 38598424714576161 rfl hij hj),Ju hsz _ hj]
 exact hs _ _ (by exact zn5 162194666110012410748886614304 rfl hij (Aa _ _) (Ab (zn3 407704435594781294880 rfl hj (Aa _ _)))) (by exact zn3 49670519217662755105 rfl (Nat.sub_le _ _) (Ab (zn1 12113161504 rfl h1)))
theorem Ig(hj:j<=xs.size)(heq:∀k,i<=k->k<j->K xs k=K xs (j- 1))(hB:SB a₀ pend lo st)(hx:xs=arrOf st)(hi:lo<=i):
  SB a₀ pend lo (setArr st (mirror xs i j ((j- i)/2)))/\∀k,K (mirror xs i j ((j- i)/2)) k=K (arrOf st) k:=by
 subst hx
 exact ⟨hB.setArr (mirror_perm _ _ _ _) λk hk=>Jv hj k (by exact zn3 72375389707600161 rfl hi hk),λk=>K_mirror_equal hj heq k⟩
theorem Wq(h0:IntKeys a₀)(hn:lo+nrem<=a₀.size)(h1:1<=n)(hnn:n<=nrem)(hB:SB a₀ pend lo st)(hs:Dn (arrOf st) lo n)
  (h:∀m neq st',SB a₀ pend lo st'->n<=m->m<=nrem->Dn (arrOf st') lo m->neq+1<=m->(∀k,lo+m- (neq+1)<=k->k<lo+m->K (arrOf st') k=K (arrOf st') (lo+m- 1))->Q (none,m,neq) st'):
  wpS (model prog w) A E s (dnL lo n nrem) Q st:=by
 unfold dnL
 refine wpS_forRange (I:=λx c st'=>∃neq,c=(none,x,neq)/\SB a₀ pend lo st'/\Dn (arrOf st') lo x/\neq+1<=x/\
   (∀k,lo+x- (neq+1)<=k->k<lo+x->K (arrOf st') k=K (arrOf st') (lo+x- 1))) ?step ?fin ⟨0,rfl,hB,hs,by exact zn1 12403877433632 rfl h1,λk h1 h2=>by congr 1;exact Ac (zn4 427510031905859393922564384 rfl h2 (Aa _ _)) (zn2 34661761312 rfl h1)⟩
 case fin=>
  rintro c st' ⟨neq,rfl,hB',hs',hq,he⟩
  rw [show max n nrem=nrem by exact Nat.le_antisymm (zn2 34663858464 rfl (Nat.max_eq_right (zn2 34661761312 rfl hnn))) (zn2 34661761312 rfl (Nat.le_max_right _ _))] at hs' hq he ⊢
  exact h nrem neq st' hB' hnn (Nat.le_refl _) hs' hq he
 case step=>
  rintro x c st' hax hxn ⟨neq,rfl,hB',hs',hq,he⟩
  dsimp only
  have hsz:lo+x<= (arrOf st').size:=by rw [hB'.size];exact zn4 114850656982013572043040 rfl hn hxn
  refine wpS_bind (E3 hB' h0 (by exact zn4 114850656982013572043041 rfl hn hxn) (by exact zn5 161706257757657139130319012129 rfl hn hxn (Nat.sub_le _ _)) ?_)
  by_cases hless:K (arrOf st') (lo+x)<K (arrOf st') (lo+x- 1)
  ·simp only [hless,decide_true,if_true]
   have hs2:=Fj (by exact zn2 12150764481824 rfl hq) hs' (Int.not_lt.mpr (Int.le_of_lt hless))
   by_cases hneq:neq>0
   ·rw [if_pos hneq]
    obtain ⟨b1,b2⟩:=Ig hsz he hB' rfl (by exact zn4 439006454501192522914292859168 rfl hq (Aa _ _))
    refine wpS_bind (wpS_reverse (wpS_pure ⟨0,rfl,b1,λi j hij hj=> ?_,by exact zn2 51116088143202141024375072 rfl hq hneq,λi h1 h2=>by congr 1;exact Ac (zn4 448286701181036974518910040703264 rfl h2 (Aa _ _)) (zn2 34661761312 rfl h1)⟩))
    show K (mirror _ _ _ _) _<=K (mirror _ _ _ _) _
    rw [b2,b2];exact hs2 i j hij hj
   ·rw [if_neg hneq]
    exact wpS_pure ⟨0,rfl,hB',hs2,by exact zn2 12741000383820026144 rfl hq,λi h1 h2=>by congr 1;exact Ac (zn4 448286701181036974518910040703264 rfl h2 (Aa _ _)) (zn2 34661761312 rfl h1)⟩
  ·simp only [hless,decide_false,Bool.false_eq_true,if_false]
   refine wpS_bind (E3 hB' h0 (by exact zn5 161706257757657139130319012129 rfl hn hxn (Nat.sub_le _ _)) (by exact zn4 114850656982013572043041 rfl hn hxn) ?_)
   by_cases hmore:K (arrOf st') (lo+x- 1)<K (arrOf st') (lo+x)
   ·simp only [hmore,decide_true,if_true]
    exact wpS_pure (h x neq st' hB' hax (by exact zn2 34662809888 rfl hxn) hs' hq he)
   ·simp only [hmore,decide_false,Bool.false_eq_true,if_false]
    refine wpS_pure ⟨neq+1,rfl,hB',Fj (by exact zn2 12150764481824 rfl hq) hs' hmore,by exact zn2 50788822768940973969696 rfl hq,λi h1 h2=> ?_⟩
    rw [show lo+ (x+1)- 1=lo+x by exact Nat.le_antisymm (zn3 418669189401557631369504 rfl (Nat.sub_add_cancel (zn3 49670517329320619296 rfl hq))) (zn3 418680044202557352988960 rfl (Aa _ _))]
    by_cases hix:i=lo+x
    ·rw [hix]
    ·rw [he i (by exact zn6 187877054345011604042116471656706371654692929824 rfl h1 (Aa _ _) (Nat.sub_add_cancel (zn3 86491947573475037472 rfl hq))) (by exact zn3 73887491766747425 rfl (Nat.lt_of_le_of_ne (zn3 408856618468931928352 rfl h2) hix))];exact Int.le_antisymm (zi2 1385201957 rfl hless) (zi2 1385201957 rfl hmore)
theorem Ml(h0:IntKeys a₀)(hn:lo+nrem<=a₀.size)(hnn:n+1<=nrem)(hB:SB a₀ pend lo st)(hs:Dn (arrOf st) lo (n+1))
  (h:∀m st',SB a₀ pend lo st'->1<=m->m<=nrem->Up (arrOf st') lo m->Q (some m) st'):wpS (model prog w) A E s (dnP lo n nrem) Q st:=by
 unfold dnP
 refine wpS_bind (wpS_lift (wpAny_rule ⟨rfl,?_⟩))
 refine wpS_bind (Wq h0 hn (by exact zn1 369765664 rfl) hnn hB hs λm neq st' hB' hm1 hm2 hs' hq he=> ?_)
 dsimp only
 have hsz:lo+m<= (arrOf st').size:=by rw [hB'.size];exact zn4 114849504060508965196064 rfl hn hm2
 by_cases hneq:neq>0
 ·rw [if_pos hneq]
  obtain ⟨b1,b2⟩:=Ig hsz he hB' rfl (by exact zn4 439006454501192522914292859168 rfl hq (Aa _ _))
  refine wpS_bind (wpS_reverse (Mq h0 hn (by exact zn2 48748100417329573152 rfl hq hneq) hm2 b1 ?_ h))
  intro i j hij hj
  show K (mirror _ _ _ _) _<=K (mirror _ _ _ _) _
  rw [b2,b2];exact hs' i j hij hj
 ·rw [if_neg hneq]
  exact Mq h0 hn (by exact zn2 12150764481824 rfl hm1) hm2 hB' hs' h
theorem W0(h0:IntKeys a₀)(hn:lo+nrem<=a₀.size)(h1:1<=nrem)(hB:SB a₀ pend lo st)
  (h:∀m st',SB a₀ pend lo st'->1<=m->m<=nrem->Up (arrOf st') lo m->Q (some m) st'):wpS (model prog w) A E s (countRun' lo nrem) Q st:=by
 rw [On]
 refine wpS_bind (Mr h0 hn (Nat.le_refl 1) h1 hB (λi j hij hj=>by
  have:i=j:=Ac (zn2 34661761312 rfl hij) (zn2 378260193568 rfl hj)
  subst this;exact Int.le_refl _) λn hn1 hn2 hsn hor=> ?_)
 dsimp only
 by_cases hnn:n=nrem
 ·rw [if_pos (by simpa using hnn)]
  exact wpS_pure (h n st hB hn1 hn2 hsn)
 ·rw [if_neg (by simpa using hnn)]
  have hlt:K (arrOf st) (lo+n)<K (arrOf st) (lo+n- 1):=hor.resolve_left hnn
  by_cases hgt:n>1
  ·rw [if_pos hgt]
   refine wpS_bind (E3 hB h0 (by exact zn4 129696331247190040561877281 rfl hn hn2 hgt) (by exact zn5 165600501516248183502370777366817 rfl hn hn2 (Ab (zn2 47589345602848 rfl hgt))) ?_)
   by_cases hrose:K (arrOf st) lo<K (arrOf st) (lo+n- 1)
   ·simp only [hrose,decide_true,if_true]
    exact wpS_pure (h n st hB hn1 hn2 hsn)
   ·simp only [hrose,decide_false,Bool.false_eq_true,if_false]
    have hsz:lo+n<= (arrOf st).size:=by rw [hB.size];exact zn4 114849504060508965196064 rfl hn hn2
    have hall:∀k,lo<=k->k<lo+n->K (arrOf st) k=K (arrOf st) (lo+n- 1):=by
     intro k h2 h3
     have a1:=hsn 0 (k- lo) (by exact zn1 10528 rfl) (by exact zn4 79123023568304230924577 rfl h3 (Ab (zn2 34661761312 rfl h2)))
     have a2:=hsn (k- lo) (n- 1) (by exact zn5 84957700022056413714349600833824 rfl h3 (Aa _ _) (Ab (zn2 34661761312 rfl h2))) (by exact zn2 47300778950945 rfl (Ab (zn1 12114210080 rfl hgt)))
     rw [show lo+ (k- lo)=k by exact Nat.le_antisymm (zn3 72115080095879456 rfl (Nat.sub_add_cancel (zn2 34661761312 rfl h2))) (zn3 38984593580884256 rfl (Aa _ _))] at a1 a2
     rw [show lo+ (n- 1)=lo+n- 1 by exact Nat.le_antisymm (zn4 132522791126583846751031021856 rfl (Aa _ _) (Nat.sub_add_cancel (zn1 12114210080 rfl hgt))) (zn4 120867218465829936804465869088 rfl (Aa _ _) (Nat.sub_add_cancel (zn2 47589345602848 rfl hgt)))] at a2
     rw [Nat.add_zero] at a1
     exact Int.le_antisymm (zi2 34667004197 rfl a2) (zi3 38602756198531365 rfl hrose a1)
    obtain ⟨b1,b2⟩:=Ig hsz hall hB rfl (by exact zn1 288 rfl)
    refine wpS_bind (wpS_reverse (Ml h0 hn (by exact zn2 35494728585504 rfl (Nat.lt_of_le_of_ne (zn2 34661761312 rfl hn2) hnn)) b1 ?_ h))
    have hd:Dn (arrOf st) lo n:=λi j hij hj=>by rw [hall (lo+i) (by exact zn2 34210080 rfl) (by exact zn4 79432942431917640274209 rfl hij hj),hall (lo+j) (by exact zn2 34210080 rfl) (by exact zn3 73501322196832545 rfl hj)];exact Int.le_refl _
    intro i j hij hj
    show K (mirror _ _ _ _) _<=K (mirror _ _ _ _) _
    rw [b2,b2]
    exact Fj (by exact zn1 12114210080 rfl hgt) hd (Int.not_lt.mpr (Int.le_of_lt hlt)) i j hij hj
  ·rw [if_neg hgt]
   have hn1':n=1:=Ac (zn1 12117704992 rfl hgt) (zn1 12113161504 rfl hn1)
   subst hn1'
   refine Ml h0 hn (by exact zn1 12404951208224 rfl (Nat.lt_of_le_of_ne (zn1 12113161504 rfl h1) hnn)) hB ?_ h
   exact Fj (by exact lin [] [] 372000 rfl) (λi j hij hj=>by
    have:i=j:=Ac (zn2 34661761312 rfl hij) (zn2 378260193568 rfl hj)
    subst this;exact Int.le_refl _) (Int.not_lt.mpr (Int.le_of_lt hlt))
theorem Wa(h:∀i,i+1<k->K xs (lo+i)<=K xs (lo+ (i+1))):Up xs lo k:=by
 intro i j hij hj
 induction hij with
 | refl=>exact Int.le_refl _
 | step _ ih=>exact Int.le_trans (ih (Nat.lt_of_succ_lt hj)) (h _ hj)
theorem Wc(hk:lo+k<xs.size)(hl:l<=k)(hs:Up xs lo k)(h1:∀i,i<l->K xs (lo+i)<=K xs (lo+k))(h2:∀i,l<=i->i<k->K xs (lo+k)<=K xs (lo+i)):Up (bubble xs (lo+k) (lo+k- (lo+l))) lo (k+1):=by
 have hd:lo+k- (lo+l)<=lo+k:=Nat.sub_le _ _
 have e:lo+k- (lo+k- (lo+l))=lo+l:=Nat.sub_sub_self (Nat.add_le_add_left hl lo)
 have g:∀i,K (bubble xs (lo+k) (lo+k- (lo+l))) (lo+i)=if lo+i=lo+l then K xs (lo+k) else if lo+l<lo+i/\lo+i<=lo+k then K xs (lo+i- 1) else K xs (lo+i):=λi=>by rw [K_bubble hk hd,e]
 have g1:∀i,i<l->K (bubble xs (lo+k) (lo+k- (lo+l))) (lo+i)=K xs (lo+i):=λi h=>by rw [g,if_neg (by exact λe9=>zn3 1247499990584009791 rfl h e9),if_neg (by omega)]
 have g3:∀i,l<i+1->i+1<=k->K (bubble xs (lo+k) (lo+k- (lo+l))) (lo+ (i+1))=K xs (lo+i):=λi h h'=>by rw [g,if_neg (by exact λe9=>zn3 99577400972792591033407 rfl h e9),if_pos (by exact ⟨zn3 418668782193404651000097 rfl h,zn3 88604647802286379127072 rfl h'⟩)];rfl
 refine Wa λi hi=> ?_
 rcases Nat.lt_trichotomy i l with h | h | h
 ·rw [g1 i h]
  rcases Nat.lt_or_ge (i+1) l with h' | h'
  ·rw [g1 _ h'];exact hs _ _ (Nat.le_succ i) (Nat.lt_of_lt_of_le h' hl)
  ·obtain rfl:=Ac h h'
   rw [g,if_pos rfl];exact h1 i h
 ·subst h
  rw [g,if_pos rfl,g3 i (Nat.lt_succ_self i) (Nat.le_of_lt_succ hi)]
  exact h2 i (Nat.le_refl i) (Nat.lt_of_succ_lt_succ hi)
 ·cases i with
  | zero=>cases h
  | succ i=>
   rw [g3 i h (Nat.le_of_lt hi |> Nat.le_of_succ_le_succ |> λq=>Nat.le_trans (Nat.le_refl _) (Nat.le_of_lt_succ (Nat.lt_of_succ_lt hi))),g3 (i+1) (Nat.lt_succ_of_lt h) (Nat.le_of_lt_succ hi)]
   exact hs _ _ (Nat.le_succ i) (Nat.lt_of_succ_lt_succ hi)
noncomputable abbrev ISt:=Option Bool×Nat×Nat
noncomputable abbrev BSt:=Option Bool×PUnit
noncomputable def Hn(lo k:Nat)(c:ISt):StateT SortSt Sem (ForInStep ISt):=
 if c.2.1 ≥ c.2.2 then pure (.done (none,c.2.1,c.2.2)) else do
  let r<-ltAt' (lo+k) (lo+ (c.2.1+c.2.2)/2)
  match r with
  | some less=>if less=true then pure (.yield (none,c.2.1,(c.2.1+c.2.2)/2)) else pure (.yield (none,(c.2.1+c.2.2)/2+1,c.2.2))
  | _=>pure (.done (some false,c.2.1,c.2.2))
noncomputable def J9(lo k:Nat):StateT SortSt Sem (ForInStep BSt):=do
 let c<-forIn [0:k] ((none,0,k):ISt) λV c=>Hn lo k c
 match c.1 with
 | some r=>pure (.done (some r,()))
 | none=>do
  moveDown' (lo+k) (lo+c.2.1)
  pure (.yield (none,()))
theorem Nj(lo n ok:Nat):binarySort' lo n ok=(do
 let c<-forIn [max ok 1:n] ((none,()):BSt) λk V=>J9 lo k
 match c.1 with
 | some r=>pure r
 | none=>pure true):=by kernel_rfl
theorem Rk(h:l<r):l<= (l+r)/2/\(l+r)/2<r:=⟨zn3 14573963164577508745052480 rfl h (Fi _ 2 rfl),zn3 1277464365398309765441 rfl h (Nat.mul_div_le _ 2)⟩
theorem Wr(h0:IntKeys a₀)(hk:lo+k<a₀.size)(hB:SB a₀ pend lo st)(hs:Up (arrOf st) lo k)(I:GI (λi=>decide (K (arrOf st) (lo+i)<=K (arrOf st) (lo+k))) k st x c st'):
  wpS (model prog w) A E s (Hn lo k c) (SP (GI (λi=>decide (K (arrOf st) (lo+i)<=K (arrOf st) (lo+k))) k st k) (GI (λi=>decide (K (arrOf st) (lo+i)<=K (arrOf st) (lo+k))) k st (x+1))) st':=by
 obtain ⟨r,l,r⟩:=c
 obtain ⟨e,hr,le,hn,d,h1,h2⟩:=I
 subst e
 unfold Hn
 by_cases hge:l ≥ r
 ·rw [if_pos hge]
  exact wpS_pure ⟨rfl,rfl,le,hn,Nat.add_le_add_left hge k,h1,h2⟩
 ·rw [if_neg hge]
  obtain ⟨hl,hm⟩:=Rk (Nat.lt_of_not_ge hge)
  generalize (l+r)/2=m at hl hm
  have hmk:=Nat.lt_of_lt_of_le hm hn
  refine wpS_bind (E3 hB h0 hk (Nat.lt_trans (Nat.add_lt_add_left hmk lo) hk) ?_)
  have d':x+r<=k+l:=d
  by_cases hless:K (arrOf st') (lo+k)<K (arrOf st') (lo+m)
  ·rw [decide_eq_true hless]
   exact wpS_pure ⟨rfl,rfl,hl,Nat.le_of_lt hmk,(by show x+1+m<=k+l;exact zn5 163884811335849776465898646425888 rfl d hm),h1,λi h6 h7=>decide_eq_false (Int.not_le.mpr (Int.lt_of_lt_of_le hless (hs m i h6 h7)))⟩
  ·rw [decide_eq_false hless]
   exact wpS_pure ⟨rfl,rfl,hm,hn,(by show x+1+r<=k+ (m+1);exact zn5 130172666543386922527515213656903968 rfl d hl),λi h6=>decide_eq_true (Int.le_trans (hs i m (Nat.le_of_lt_succ h6) hmk) (Int.not_lt.mp hless)),h2⟩
theorem Ws(h0:IntKeys a₀)(hk:lo+k<a₀.size)(hB:SB a₀ pend lo st)(hs:Up (arrOf st) lo k)(h:∀st',SB a₀ pend lo st'->Up (arrOf st') lo (k+1)->Q (.yield (none,())) st'):wpS (model prog w) A E s (J9 lo k) Q st:=by
 refine wpS_bind (wpS_mono (Cr (I:=GI (λi=>decide (K (arrOf st) (lo+i)<=K (arrOf st) (lo+k))) k st) (Q:=GI (λi=>decide (K (arrOf st) (lo+i)<=K (arrOf st) (lo+k))) k st k) (λx c st' V I=>Wr h0 hk hB hs I) (λc st' I=>I) ⟨rfl,rfl,Nat.zero_le k,Nat.le_refl k,Nat.le_of_eq (Nat.add_comm 0 k),λi h=>absurd h (Nat.not_lt_zero i),λi h1 h2=>absurd h2 (Nat.not_lt_of_le h1)⟩) λc st' I=> ?_)
 obtain ⟨r,l,r⟩:=c
 obtain ⟨e,hr,le,hn,d,h1,h2⟩:=I
 subst e
 subst hr
 show wpS _ _ _ _ (moveDown' (lo+k) (lo+l)>>=_) _ _
 rw [moveDown'_eq]
 have hks:lo+k< (arrOf st').size:=by rw [hB.size];exact hk
 have hlk:l<=k:=nTr le hn
 have hr:r<=l:=Nat.le_of_add_le_add_left d
 have hd:lo+k- (lo+l)<=lo+k:=Nat.sub_le _ _
 exact wpS_bind (wpS_modify (wpS_pure (h _ (hB.setArr (bubble_perm _ _ _) λi hi=>Nl hks hd i (Nat.lt_of_lt_of_le hi (by rw [Nat.sub_sub_self (Nat.add_le_add_left hlk lo)];exact Nat.le_add_right lo l))) (Wc hks hlk hs (λi hi=>of_decide_eq_true (h1 i hi)) λi hi hi2=>Int.le_of_lt (Int.not_le.mp (of_decide_eq_false (h2 i (nTr hr hi) hi2)))))))
theorem Wt(h0:IntKeys a₀)(hn:lo+n<=a₀.size)(hok1:1<=ok)(hok:ok<=n)(hB:SB a₀ pend lo st)(hs:Up (arrOf st) lo ok)
  (h:∀st',SB a₀ pend lo st'->Up (arrOf st') lo n->Q true st'):wpS (model prog w) A E s (binarySort' lo n ok) Q st:=by
 rw [Nj,Nat.max_eq_left hok1]
 refine wpS_bind (wpS_mono (wpS_forRange (I:=λk c st'=>c=(none,())/\SB a₀ pend lo st'/\Up (arrOf st') lo k) (Q:=λc st'=>c=(none,())/\SB a₀ pend lo st'/\Up (arrOf st') lo n)
  (λk c st' V hkn z=>Ws h0 (Nat.lt_of_lt_of_le (Nat.add_lt_add_left hkn lo) hn) z.2.1 z.2.2 λst' z1 z2=>⟨rfl,z1,z2⟩) (λc st' z=>by rwa [Nat.max_eq_right hok] at z) ⟨rfl,hB,hs⟩) λc st' z=> ?_)
 obtain ⟨e,z1,z2⟩:=z
 subst e
 exact wpS_pure (h st' z1 z2)
end
end
section
theorem Mw(hi:i<xs.size):K xs i=kf (xs[i]'hi):=K_eq hi
theorem E5(hi:i<xs.toList.length):K xs i=kf (xs.toList[i]'hi):=by
 rw [Array.length_toList] at hi
 rw [Mw hi,Array.getElem_toList]
theorem Mf{xs:Array Keyed}{lo n:Nat}(h:Up xs lo n)(hn:lo+n<=xs.size):Srt kf ((xs.toList.drop lo).take n):=by
 unfold Srt
 rw [List.pairwise_iff_getElem]
 intro i j hi hj hij
 rw [List.length_take,List.length_drop,Array.length_toList] at hi hj
 rw [List.getElem_take,List.getElem_take,List.getElem_drop,List.getElem_drop]
 have:=h i j (by exact zn2 34662809888 rfl hij) (by exact zn3 38597325203996961 rfl hj (Nat.min_le_left _ _))
 rwa [E5 (by rw [Array.length_toList];exact zn6 131470739094708707666279456442437921 rfl hn hj hij (Nat.min_le_left _ _)),E5 (by rw [Array.length_toList];exact zn5 124142327194175885662961553697 rfl hn hj (Nat.min_le_left _ _))] at this
theorem seg_get{T:List Keyed}{base n i:Nat}{p:Keyed}:((T.drop base).take n)[i]?=some p ↔ i<n/\T[base+i]?=some p:=by
 rw [List.getElem?_take,List.getElem?_drop]
 by_cases h:i<n
 ·rw [if_pos h];exact Iff.intro (λe=>⟨h,e⟩) And.right
 ·rw [if_neg h];exact Iff.intro (λh=>nn h) (λe=>absurd e.1 h)
theorem Ia{l:List Keyed}(h:Srt kf l){i j:Nat}{p q:Keyed}(hp:l[i]?=some p)(hq:l[j]?=some q)(hij:i<=j):kf p<=kf q:=by
 obtain ⟨h1,e1⟩:=List.getElem?_eq_some_iff.mp hp
 obtain ⟨h2,e2⟩:=List.getElem?_eq_some_iff.mp hq
 rw [<-e1,<-e2]
 exact E1 h hij h2
noncomputable def Lt(left:Bool)(p key:Keyed):Prop:=if left=true then kf p<kf key else kf p<=kf key
theorem Fa(e:arr[base+i]?=some p):bey left key arr base i=true ↔ Lt left p key:=by
 unfold bey Lt
 rw [e,Option.getD_some]
 cases left<;>simp
theorem Lt.le(h:Lt left q key)(hpq:kf p<=kf q):Lt left p key:=by
 unfold Lt at*
 cases left with
 | true=>exact Int.lt_of_le_of_lt hpq h
 | false=>exact Int.le_trans hpq h
theorem L2(h:Srt kf xs.toList):SortedTo xs xs.size:=by
 intro i j hij hj
 rw [E5 (by rw [Array.length_toList];exact zn3 38598424714576161 rfl hij hj),E5 (by rw [Array.length_toList];exact zn2 34662809889 rfl hj)]
 exact E1 h hij _
theorem wrote(o:Nat):∀(l:List Keyed) (j:Nat) (arr:Array Keyed),o+j+l.length<=arr.size->
  ((l.zipIdx j).foldl (λa (p:Keyed×Nat)=>a.setIfInBounds (o+p.2) p.1) arr).toList=arr.toList.take (o+j)++(l++arr.toList.drop (o+j+l.length))
 | [],j,arr,_=>by simp
 | p::l,j,arr,h=>by
  rw [List.length_cons] at h
  rw [List.zipIdx_cons,List.foldl_cons,wrote o l (j+1) _ (by rw [Array.size_setIfInBounds];exact zn4 132561172512567741567575150880 rfl h)]
  have hlt:o+j<arr.toList.length:=by rw [Array.length_toList];exact zn4 88678147203124241125665 rfl h
  rw [Array.toList_setIfInBounds,show o+ (j+1)=o+j+1 by exact Nat.le_antisymm (zn2 397465356408475936 rfl) (zn2 398147053597380896 rfl),List.length_cons]
  rw [List.take_set,List.drop_set_of_lt (by exact zn3 84478386727047457 rfl)]
  rw [List.take_succ_eq_append_getElem hlt,List.set_append_right _ _ (by rw [List.length_take];exact zn3 73887490693005600 rfl (Nat.min_le_left _ _))]
  rw [List.length_take,Nat.min_eq_left (by exact zn3 73205794556891424 rfl hlt),Nat.sub_self,List.set_cons_zero,List.append_assoc]
  rw [show o+j+1+l.length=o+j+ (l.length+1) by exact Nat.le_antisymm (zn3 418668479642680244719904 rfl) (zn3 88582008851764081217824 rfl)]
  rfl
theorem Uq(hA:Srt kf (A1++A2))(hB:Srt kf (B1++B2))(h1:∀p∈A1,∀q∈B1++B2,kf p<=kf q)(h2:∀p∈A1++A2,∀q∈B2,kf p<=kf q)(hr:Srt kf r)(hp:r.Perm (A2++B1)):Srt kf (A1++(r++B2)):=by
 obtain ⟨a1,a2,a3⟩:=List.pairwise_append.mp hA
 obtain ⟨b1,b2,b3⟩:=List.pairwise_append.mp hB
 refine Ck a1 (Ck hr b2 λp hp' q hq=> ?_) λp hp' q hq=> ?_
 ·rcases lA (hp.mem_iff.mp hp') with h | h
  ·exact h2 p (lR _ h) q hq
  ·exact b3 p h q hq
 ·rcases lA hq with h | h
  ·rcases lA (hp.mem_iff.mp h) with h | h
   ·exact a3 p hp' q h
   ·exact h1 p hp' q (lL _ h)
  ·exact h1 p hp' q (lR _ h)
noncomputable def Ft(sa:Nat)(merged:Array Keyed):StateT SortSt Sem Bool:=do
 modify λs=>setArr s (merged.toList.zipIdx.foldl (λa (p:Keyed×Nat)=>a.setIfInBounds (sa+p.2) p.1) (arrOf s))
 let c<-get
 pure (failedOf c).isNone
noncomputable def mGo(arr:Array Keyed)(sa na sb nb:Nat):StateT SortSt Sem Bool:=do
 let key<-elem' arr sb
 let r<-Cj false key arr sa na 0
 match r with
 | some k=>if (na- k==0)=true then pure true else do
  let key2<-elem' arr (sa+k+ (na- k)- 1)
  let r<-Cj true key2 arr sb nb (nb- 1)
  match r with
  | some m=>if (m==0)=true then pure true else
   if na- k<=m then Ht (arr.extract (sa+k) sb) (arr.extract sb (sb+m))>>=Ft (sa+k) else Hs (arr.extract (sa+k) sb) (arr.extract sb (sb+m))>>=Ft (sa+k)
  | _=>pure false
 | _=>pure false
theorem Rf(i:Nat):mergeAt' i=(do
 let s<-get
 match ((pendingOf s)[i]?,(pendingOf s)[i+1]?) with
 | (some (sa,na,power),some (sb,nb,_))=>do
  set (setPending s (((pendingOf s).setIfInBounds i (sa,na+nb,power)).eraseIdxIfInBounds (i+1)))
  mGo (arrOf s) sa na sb nb
 | _=>liftM (unsupported "internal:list.sort.pending")):=by kernel_rfl
section
variable {prog:Program}{w:World}{A:Around}{E:Value->Shared->Prop}{s:Shared}{a₀ arr:Array Keyed}{st st2:SortSt}{n1 n2 k m pw pw2:Nat}
theorem Mm{left:Bool}{key:Keyed}{base n hint:Nat}{Q:Option Nat->SortSt->Prop}(hk:kindOf st=oneType')(hp:IsK key)(hq:∀p∈arr.toList,IsK p)(hn:base+n<=arr.size)(hh:hint<n)(hs:Srt kf ((arr.toList.drop base).take n))
  (h:∀k,k<=n->(∀p∈(arr.toList.drop base).take k,Lt left p key)->(∀p∈((arr.toList.drop base).take n).drop k,¬Lt left p key)->Q (some k) st):wpS (model prog w) A E s (Cj left key arr base n hint) Q st:=by
 have at_:∀ {i p},arr.toList[i]?=some p->arr[i]?=some p:=λh=>(Array.getElem?_toList ..).symm.trans h
 refine E2 hk hp hq hn hh (λi j hij hj hb=> ?_) λk hk1 hkt hkf=>h k hk1 (λp hp=> ?_) λp hp hL=> ?_
 ·obtain ⟨p,hp,_⟩:=Bp (a:=arr) (i:=base+i) (Nat.lt_of_lt_of_le (Nat.add_lt_add_left (Nat.lt_of_le_of_lt hij hj) base) hn)
  obtain ⟨q,hq,_⟩:=Bp (a:=arr) (i:=base+j) (Nat.lt_of_lt_of_le (Nat.add_lt_add_left hj base) hn)
  exact (Fa hp).mpr (((Fa hq).mp hb).le (Ia hs (seg_get.mpr ⟨Nat.lt_of_le_of_lt hij hj,(Array.getElem?_toList ..).trans hp⟩) (seg_get.mpr ⟨hj,(Array.getElem?_toList ..).trans hq⟩) hij))
 ·obtain ⟨i,e⟩:=List.mem_iff_getElem?.mp hp
  obtain ⟨hi,e⟩:=seg_get.mp e
  exact (Fa (at_ e)).mp (hkt i hi)
 ·obtain ⟨i,e⟩:=List.mem_iff_getElem?.mp hp
  rw [List.getElem?_drop] at e
  obtain ⟨hi,e⟩:=seg_get.mp e
  have:=hkf _ (Nat.le_add_right k i) hi
  rw [(Fa (at_ e)).mpr hL] at this
  cases this
structure MR(arr:Array Keyed)(n1 n2:Nat)(key key2:Keyed):Prop where
 sz:n1+n2=arr.size
 h1:0<n1
 h2:0<n2
 hA:Srt kf (arr.toList.take n1)
 hB:Srt kf (arr.toList.drop n1)
 hk:arr[n1]?=some key
 hk2:arr[n1- 1]?=some key2
theorem MR.first{key key2:Keyed}(R:MR arr n1 n2 key key2):∀q∈arr.toList.drop n1,kf key<=kf q:=λq hq=>by
 obtain ⟨i,e⟩:=List.mem_iff_getElem?.mp hq
 exact Ia R.hB (i:=0) (by rw [List.getElem?_drop,Nat.add_zero,Array.getElem?_toList];exact R.hk) e (Nat.zero_le _)
theorem MR.last{key key2:Keyed}(R:MR arr n1 n2 key key2):∀p∈arr.toList.take n1,kf p<=kf key2:=λp hp=>by
 obtain ⟨i,e⟩:=List.mem_iff_getElem?.mp hp
 have hi:i<n1:=by
  rw [List.getElem?_take] at e
  by_cases h:i<n1
  ·exact h
  ·rw [if_neg h] at e;cases e
 exact Ia R.hA e (j:=n1- 1) (by rw [List.getElem?_take,if_pos (Nat.sub_lt R.h1 Nat.zero_lt_one),Array.getElem?_toList];exact R.hk2) (Nat.le_sub_one_of_lt hi)
theorem MR.whole(R:MR arr n1 n2 key key2)(h:∀p∈arr.toList.take n1,∀q∈arr.toList.drop n1,kf p<=kf q):SortedTo arr arr.size:=L2 (by rw [<-List.take_append_drop n1 arr.toList];exact Ck R.hA R.hB h)
theorem Eg:(arr.extract k n1).toList=(arr.toList.take n1).drop k:=by rw [B5,List.drop_take]
theorem Eh:(arr.extract n1 (n1+m)).toList=(arr.toList.drop n1).take m:=by rw [B5,Nat.add_sub_cancel_left]
theorem MR.pre(R:MR arr n1 n2 key key2)(hq:∀p∈arr.toList,IsK p)(hk:k<n1)(hm:0<m)(hm2:m<=n2)(a2:∀p∈(arr.toList.take n1).drop k,¬Lt false p key)(b1:∀p∈(arr.toList.drop n1).take m,Lt true p key2):Aq kf (arr.extract k n1) (arr.extract n1 (n1+m)):=by
 have sz:=R.sz
 have s1:(arr.extract k n1).size=n1- k:=by rw [Array.size_extract,Nat.min_eq_left (by exact zn4 42336349976817635305750816 rfl hm hm2 sz)]
 have s2:(arr.extract n1 (n1+m)).size=m:=by rw [Array.size_extract,Nat.min_eq_left (by exact zn4 79123023636093612347680 rfl hm2 sz)];exact Ac (zn3 38986505076637984 rfl (Ab (zn2 46489833963808 rfl hm))) (zn3 73887271882883360 rfl (Aa _ _))
 have p1:0< (arr.extract k n1).size:=by rw [s1];exact Nat.sub_pos_of_lt hk
 have p2:0< (arr.extract n1 (n1+m)).size:=by rw [s2];exact hm
 refine ⟨Eg▸Dc R.hA k,Eh▸R.hB.sublist (List.take_sublist _ _),λp hp=>hq p ?_,λp hp=>hq p ?_,p1,p2,λp hp=> ?_,λp hp=> ?_⟩
 ·rw [Eg] at hp;exact List.mem_of_mem_take (List.mem_of_mem_drop hp)
 ·rw [Eh] at hp;exact List.mem_of_mem_drop (List.mem_of_mem_take hp)
 ·rw [Eg] at hp
  have e:(arr.extract n1 (n1+m))[0]'p2=key:=by
   rw [Array.getElem_extract]
   exact (Array.getElem?_eq_some_iff.mp R.hk).2
  rw [e]
  exact Int.le_of_lt (Int.not_le.mp (a2 p hp))
 ·rw [Eh] at hp
  have e:(arr.extract k n1)[(arr.extract k n1).size- 1]'(Nat.sub_lt p1 Nat.zero_lt_one)=key2:=by
   rw [Array.getElem_extract]
   have e9:k+ ((arr.extract k n1).size- 1)=n1- 1:=Ac (zn6 217977817150002366054377047147095341945120 rfl s1 (Aa _ _) (Ab (zn1 11040468256 rfl p1)) (Ab (zn2 34662809888 rfl hk))) (zn6 232780100021794092624271840494790230278432 rfl s1 (Aa _ _) (Aa _ _) (Ab (zn2 1376791840 rfl hk)))
   obtain ⟨h9,e8⟩:=Array.getElem?_eq_some_iff.mp R.hk2
   rw [<-e8]
   congr 1
  rw [e]
  exact Int.le_of_lt (b1 p hp)
theorem MR.merged(R:MR arr n1 n2 key key2)(hk:k<=n1)(hm2:m<=n2)(a1:∀p∈arr.toList.take k,kf p<=kf key)(b2:∀p∈(arr.toList.drop n1).drop m,¬Lt true p key2)(D:Bc kf (arr.extract k n1) (arr.extract n1 (n1+m)) r)
  (hf:fin=r.toList.zipIdx.foldl (λa (p:Keyed×Nat)=>a.setIfInBounds (k+p.2) p.1) arr):fin.Perm arr/\SortedTo fin arr.size:=by
 have sz:=R.sz
 obtain ⟨d1,d2⟩:=D
 have hl:arr.toList.length=arr.size:=Array.length_toList
 have hlen:r.toList.length=n1- k+m:=by
  rw [d2.length_eq,List.length_append,Eg,Eh,List.length_drop,List.length_take,List.length_take,List.length_drop,hl];exact Ac (lin [_,_,_,_,_,_,_] [] 182418309917783994563931170933755547242784 rfl (Nat.min_le_left _ _) (Nat.min_le_left _ _) (Aa _ _) (Ab (zn3 73432052594147616 rfl hk (Nat.min_eq_left (zn3 37405174300960 rfl sz))))) (lin [_,_,_,_,_,_,_] [] 268169466179785233974928709682439400739104 rfl (Aa _ _) (Nat.min_eq_left (zn3 37405174300960 rfl sz)) (Nat.min_eq_left (zn5 120859072198911193383658619168 rfl hm2 sz (Aa _ _))) (Ab (zn2 34661761312 rfl hk)))
 have hw:=wrote k r.toList 0 arr (by exact lin [_,_,_,_,_,_,_] [] 223296397041790457870392855552369870873710880 rfl hm2 sz hlen (Ab (zn2 34661761312 rfl hk)))
 rw [<-hf,Nat.add_zero,hlen,show k+ (n1- k+m)=n1+m by exact Nat.le_antisymm (zn4 113397074092440701391136 rfl (Nat.sub_add_cancel (zn2 34661761312 rfl hk))) (zn4 79837832649361031450912 rfl (Aa _ _))] at hw
 rw [Eg,Eh] at d2
 have e1:arr.toList.take k++(arr.toList.take n1).drop k=arr.toList.take n1:=by
  rw [show arr.toList.take k=(arr.toList.take n1).take k by rw [List.take_take,Nat.min_eq_left hk],List.take_append_drop]
 have e2:(arr.toList.drop n1).take m++(arr.toList.drop n1).drop m=arr.toList.drop n1:=List.take_append_drop m _
 rw [<-List.drop_drop] at hw
 have pm:fin.toList.Perm arr.toList:=by
  rw [hw]
  refine (List.Perm.append_left _ (List.Perm.append_right _ d2)).trans (List.Perm.of_eq ?_)
  rw [List.append_assoc,e2,<-List.append_assoc,e1,List.take_append_drop]
 refine ⟨Array.perm_iff_toList_perm.mpr pm,?_⟩
 have hs:fin.size=arr.size:=by rw [<-Array.length_toList,pm.length_eq,hl]
 rw [<-hs]
 refine L2 ?_
 rw [hw]
 exact Uq (e1.symm▸R.hA) (e2.symm▸R.hB) (λp hp q hq=>Int.le_trans (a1 p hp) (R.first q (by rw [e2] at hq;exact hq))) (λp hp q hq=>Int.le_trans (R.last p (by rw [e1] at hp;exact hp)) (Int.not_lt.mp (b2 q hq))) d1 d2
theorem Wu(hf:failedOf st=none)(h:∀st',failedOf st'=none->pendingOf st'=pendingOf st->arrOf st'=r.toList.zipIdx.foldl (λa (p:Keyed×Nat)=>a.setIfInBounds (k+p.2) p.1) (arrOf st)->Q true st'):wpS M A E s (Ft k r) Q st:=by
 refine wpS_bind (wpS_modify (wpS_bind (wpS_get (wpS_pure ?_))))
 rw [show failedOf (setArr st (r.toList.zipIdx.foldl (λa (p:Keyed×Nat)=>a.setIfInBounds (k+p.2) p.1) (arrOf st)))=none from hf]
 exact h _ hf rfl rfl
theorem Ww(R:MR arr n1 n2 key key2)(hkk:kindOf st=oneType')(hff:failedOf st=none)(ha:arrOf st=arr)(hq:∀p∈arr.toList,IsK p)
  (h:∀st',(arrOf st').Perm arr->failedOf st'=none->pendingOf st'=pendingOf st->SortedTo (arrOf st') arr.size->Q true st'):wpS (model prog w) A E s (mGo arr 0 n1 n1 n2) Q st:=by
 have sz:=R.sz
 have memA:∀ {i p},arr[i]?=some p->IsK p:=λe=>hq _ (List.mem_iff_getElem?.mpr ⟨_,(Array.getElem?_toList ..).trans e⟩)
 have whole:(∀p∈arr.toList.take n1,∀q∈arr.toList.drop n1,kf p<=kf q)->Q true st:=λhc=>h st (ha▸ .refl _) hff rfl (ha▸R.whole hc)
 refine wpS_bind (Be R.hk (wpS_bind (Mm hkk (memA R.hk) hq (by exact zn3 38302898484236576 rfl sz) R.h1 R.hA λk hk1 a1 a2=> ?_)))
 show wpS _ _ _ _ (if (n1- k==0)=true then _ else _) _ _
 by_cases hna:n1- k=0
 ·rw [if_pos (by rw [hna];rfl)]
  obtain rfl:k=n1:=Ac hk1 (Nat.le_of_sub_eq_zero hna)
  exact wpS_pure (whole λp hp q hq=>Int.le_trans (a1 p hp) (R.first q hq))
 ·rw [if_neg (by rw [beq_iff_eq];exact hna),show 0+k+ (n1- k)- 1=n1- 1 by exact Ac (zn5 133364970077117265903838023637048262944 rfl (Aa _ _) (Ab (zn2 34661761312 rfl hk1)) (Ab (zn2 47605589664738592 rfl (Nat.lt_of_le_of_ne (zn1 10528 rfl) (Ne.symm hna))))) (zn5 184789020600790917936342660964899914016 rfl (Aa _ _) (Aa _ _) (Ab (zn2 47605556323560736 rfl (Nat.sub_le _ _) (Nat.lt_of_le_of_ne (zn1 10528 rfl) (Ne.symm hna))))),Nat.zero_add]
  have tk:(arr.toList.drop n1).take n2=arr.toList.drop n1:=List.take_of_length_le (by rw [List.length_drop,Array.length_toList];exact zn4 115721363878114488254752 rfl sz (Ab (zn3 37405174300960 rfl sz)))
  refine wpS_bind (Be R.hk2 (wpS_bind (Mm hkk (memA R.hk2) hq (by exact zn3 73205795630633248 rfl sz) (Nat.sub_lt R.h2 Nat.zero_lt_one) (tk.symm▸R.hB) λm hm1 b1 b2=> ?_)))
  rw [tk] at b2
  show wpS _ _ _ _ (if (m==0)=true then _ else _) _ _
  by_cases hm0:m=0
  ·subst hm0
   rw [if_pos (by rfl)]
   exact wpS_pure (whole λp hp q hq=>Int.le_trans (R.last p hp) (Int.not_lt.mp (b2 q hq)))
  ·rw [if_neg (by rw [beq_iff_eq];exact hm0)]
   have P:=R.pre hq (Nat.lt_of_sub_ne_zero hna) (Nat.pos_of_ne_zero hm0) hm1 a2 b1
   have last:∀r st',Bc kf (arr.extract k n1) (arr.extract n1 (n1+m)) r->Kept st st'->wpS (model prog w) A E s (Ft k r) Q st':=λr st' D ⟨_,q2,q3,q4⟩=>Wu (q4.trans hff) λst2 z1 z2 z3=>by
    obtain ⟨c1,c2⟩:=R.merged hk1 hm1 a1 b2 D (z3.trans (by rw [q2,ha]))
    exact h st2 c1 z1 (z2.trans q3) c2
   split
   ·exact wpS_bind (Wz P hkk last)
   ·exact wpS_bind (Wy P hkk last)
theorem W3(h:Q ⟨⟩ st2):wpS M A E s (set st2:StateT SortSt Sem PUnit) Q st:=by
 unfold wpS;rw [StateT.run_set];exact wpAny_pure ⟨rfl,h⟩
theorem Wx(h0:IntKeys a₀)(hB:SB a₀ #[(0,n1,pw),(n1,n2,pw2)] 0 st)(hsz:n1+n2=a₀.size)(h1:1<=n1)(h2:1<=n2)(hs1:Up (arrOf st) 0 n1)(hs2:Up (arrOf st) n1 n2)
  (h:∀st',(arrOf st').Perm a₀->failedOf st'=none->pendingOf st'= #[(0,n1+n2,pw)]->SortedTo (arrOf st') a₀.size->Q true st'):
  wpS (model prog w) A E s (mergeAt' 0) Q st:=by
 have hsize:=hB.size
 have hpm:=Array.perm_iff_toList_perm.mp hB.perm
 obtain ⟨key,hkey,_⟩:=Bp (a:=arrOf st) (i:=n1) (by exact zn4 117532705002380957503750433 rfl hsz h2 hsize)
 obtain ⟨key2,hkey2,_⟩:=Bp (a:=arrOf st) (i:=n1- 1) (by exact zn5 81486321364288994788551069565217 rfl hsz h2 hsize (Nat.sub_le _ _))
 have hA:=Mf hs1 (by exact zn4 120353489922438100483840495904 rfl hsz h2 hsize)
 have hB2:=Mf hs2 (by exact zn4 115958648324940104749344 rfl hsz hsize)
 rw [List.take_of_length_le (by rw [List.length_drop,Array.length_toList];exact zn5 160956726110680504546386542880 rfl hsz hsize (Ab (zn4 117532705002380957503750432 rfl hsz h2 hsize)))] at hB2
 have R:MR (arrOf st) n1 n2 key key2:=⟨hsz.trans hsize.symm,h1,h2,hA,hB2,hkey,hkey2⟩
 have e3:((#[(0,n1,pw),(n1,n2,pw2)]:Array (Nat×Nat×Nat)).setIfInBounds 0 (0,n1+n2,pw)).eraseIdxIfInBounds (0+1)= #[(0,n1+n2,pw)]:=by
  apply Array.toList_inj.mp
  rw [Array.toList_eraseIdxIfInBounds,Array.toList_setIfInBounds];rfl
 rw [Rf]
 refine wpS_bind (wpS_get ?_)
 rw [hB.pend]
 refine wpS_bind (W3 ?_)
 rw [e3]
 exact Ww (st:=setPending st #[(0,n1+n2,pw)]) R hB.kind hB.failed rfl (λp hp=>h0 p (hpm.mem_iff.mp hp)) λst' c1 c2 c3 c4=>h st' (c1.trans hB.perm) c2 c3 (hsize▸c4)
end
end
section
section
variable {prog:Program}{w:World}{A:Around}{E:Value->Shared->Prop}{s:Shared}{a₀:Array Keyed}{st:SortSt}
theorem Rm(h1:1<=n)(h:n<128):∃m,minRun' n n 0=m/\n<=2*m/\m<=n:=by
 obtain ⟨f,rfl⟩:∃f,n=f+1:=⟨n- 1,by exact Ac (zn2 398146664165671200 rfl (Aa _ _)) (zn2 48435997657026848 rfl (Ab (zn1 12113161504 rfl h1)))⟩
 rw [minRun'_succ]
 by_cases h64:f+1<64
 ·rw [if_pos h64];exact ⟨_,rfl,by exact zn1 11646736647868704 rfl,by exact zn1 387726394937632 rfl⟩
 ·rw [if_neg h64]
  obtain ⟨g,rfl⟩:∃g,f=g+1:=⟨f- 1,by exact Ac (zn2 398146664165671200 rfl (Aa _ _)) (zn2 48435997657026848 rfl (Ab (zn1 72808582260731168 rfl h64)))⟩
  rw [minRun'_succ,if_pos (by exact zn2 15813118348078251244316160321938568719794497 rfl h (Nat.mul_div_le _ 2))]
  exact ⟨_,rfl,by omega,by exact zn4 4772305009140841055343906009257839461565247452526473662784 rfl h64 (Nat.mul_div_le _ 2) (Rp _ 2 rfl) (Nat.max_eq_right (zn1 10528 rfl))⟩
end
noncomputable abbrev USt:=Option PUnit×PUnit
noncomputable abbrev RSt:=Option PUnit×Nat
noncomputable def Uo(pw:Nat):StateT SortSt Sem (ForInStep USt):=do
 let s<-get
 match (if (pendingOf s).size>1 then (pendingOf s)[(pendingOf s).size- 2]? else none) with
 | some (_,_,older)=>if older<=pw then pure (.done (none,())) else do
   let ok<-mergeAt' ((pendingOf s).size- 2)
   if (!ok)=true then pure (.done (some (),())) else pure (.yield (none,()))
 | _=>pure (.done (none,()))
noncomputable def H9(lo n:Nat):StateT SortSt Sem (ForInStep RSt):=do
 modify λs=>setPending s ((pendingOf s).push (lo,n,0))
 pure (.yield (none,lo+n))
noncomputable def Lz(size pw lo n:Nat):StateT SortSt Sem (ForInStep RSt):=do
 let c<-forIn [0:size] ((none,()):USt) λV V=>Uo pw
 match c.1 with
 | some r=>pure (.done (some r,lo))
 | none=>do
  modify λs=>setPending s ((pendingOf s).modify ((pendingOf s).size- 1) λx=>(x.1,x.2.1,pw))
  H9 lo n
noncomputable def Ez(size lo n:Nat):StateT SortSt Sem (ForInStep RSt):=do
 let s<-get
 match (pendingOf s).back? with
 | some (s1,n1,_)=>Lz size (power' size (2*s1+n1) (2*s1+n1+n1+n) size) lo n
 | _=>H9 lo n
noncomputable def E0(size mr:Nat)(c:RSt):StateT SortSt Sem (ForInStep RSt):=
 if c.2 ≥ size then pure (.done (none,c.2)) else do
  let r<-countRun' c.2 (size- c.2)
  match r with
  | some found=>
   if found<mr then do
    liftM (rule "list.sort.binary-insertion")
    let ok<-binarySort' c.2 (min (size- c.2) mr) found
    if (!ok)=true then pure (.done (some (),c.2)) else Ez size c.2 (min (size- c.2) mr)
   else Ez size c.2 found
  | _=>pure (.done (some (),c.2))
noncomputable def Un(p:Array (Nat×Nat×Nat)):Nat:=
 if (if p.size- 2>0 then p[p.size- 2- 1]?.map (λx=>x.2.1) else none).any (λx=>decide (x< (p[p.size- 2+1]?.elim 0 (λx=>x.2.1))))=true then p.size- 2- 1 else p.size- 2
noncomputable def Lx:StateT SortSt Sem (ForInStep USt):=do
 let s<-get
 if (pendingOf s).size<=1 then pure (.done (none,())) else do
  let ok<-mergeAt' (Un (pendingOf s))
  if (!ok)=true then pure (.done (some (),())) else pure (.yield (none,()))
noncomputable def Ly(size:Nat):StateT SortSt Sem Unit:=do
 let c<-forIn [0:size] ((none,0):RSt) λV c=>E0 size (minRun' size size 0) c
 match c.1 with
 | some r=>pure r
 | none=>do
  let c<-forIn [0:size] ((none,()):USt) λV V=>Lx
  match c.1 with
  | some r=>pure r
  | none=>pure ()
theorem Uj:sortRuns'=(do
 let s<-get
 Ly (arrOf s).size):=by kernel_rfl
section
variable {prog:Program}{w:World}{A:Around}{E:Value->Shared->Prop}{s:Shared}{a₀ b₀:Array Keyed}{st:SortSt}{mr lo n n1:Nat}{pend:Array (Nat×Nat×Nat)}{Q:ForInStep RSt->SortSt->Prop}
structure One(a₀:Array Keyed)(st:SortSt):Prop where
 pend:∃pw,pendingOf st= #[(0,a₀.size,pw)]
 perm:(arrOf st).Perm a₀
 failed:failedOf st=none
 srt:SortedTo (arrOf st) a₀.size
structure C2(a₀:Array Keyed)(st:SortSt):Prop where
 ex:∃n1 n2 pw pw2,SB a₀ #[(0,n1,pw),(n1,n2,pw2)] 0 st/\n1+n2=a₀.size/\1<=n1/\1<=n2/\Up (arrOf st) 0 n1/\Up (arrOf st) n1 n2
structure RI(a₀:Array Keyed)(mr x:Nat)(c:RSt)(st:SortSt):Prop where
 r:c.1=none
 z:(x=0/\c.2=0/\SB a₀ #[] 0 st)\/(mr<=c.2/\1<=c.2/\c.2<a₀.size/\x<=1/\SB a₀ #[(0,c.2,0)] 0 st/\Up (arrOf st) 0 c.2)\/(c.2=a₀.size/\(One a₀ st\/C2 a₀ st))
theorem Mp(h0:IntKeys b₀)(hB:SB b₀ pend lo st)(hlo:lo<b₀.size)(h:∀n st',SB b₀ pend lo st'->1<=n->lo+n<=b₀.size->(mr<=n\/lo+n=b₀.size)->Up (arrOf st') lo n->wpS (model prog w) A E s (Ez b₀.size lo n) Q st'):wpS (model prog w) A E s (E0 b₀.size mr (none,lo)) Q st:=by
 unfold E0
 rw [if_neg (Nat.not_le_of_lt hlo)]
 have e:lo+ (b₀.size- lo)=b₀.size:=Nat.add_sub_cancel' (Nat.le_of_lt hlo)
 refine wpS_bind (W0 h0 (Nat.le_of_eq e) (Nat.sub_pos_of_lt hlo) hB λm st2 hB2 hm1 hm2 hs2=> ?_)
 show wpS _ _ _ _ (if m<mr then _ else _) _ _
 by_cases hlt:m<mr
 ·rw [if_pos hlt]
  have hmin:m<=min (b₀.size- lo) mr:=Nat.le_min.mpr ⟨hm2,Nat.le_of_lt hlt⟩
  have hle:lo+min (b₀.size- lo) mr<=b₀.size:=nTr (Nat.add_le_add_left (Nat.min_le_left _ _) lo) (Nat.le_of_eq e)
  refine wpS_bind (wpS_lift (wpAny_rule ⟨rfl,wpS_bind (Wt h0 hle hm1 hmin hB2 hs2 λst3 hB3 hs3=> ?_)⟩))
  refine h _ st3 hB3 (nTr hm1 hmin) hle ?_ hs3
  rcases Nat.le_total (b₀.size- lo) mr with q | q
  ·rw [Nat.min_eq_left q];exact .inr e
  ·rw [Nat.min_eq_right q];exact .inl (Nat.le_refl mr)
 ·rw [if_neg hlt]
  exact h m st2 hB2 hm1 (nTr (Nat.add_le_add_left hm2 lo) (Nat.le_of_eq e)) (.inl (Nat.le_of_not_lt hlt)) hs2
theorem Mo(h:Q (.yield (none,lo+n)) (setPending st ((pendingOf st).push (lo,n,0)))):wpS M A E s (H9 lo n) Q st:=wpS_bind (wpS_modify (wpS_pure h))
theorem W5(hp:pendingOf st= #[])(h:Q (.yield (none,lo+n)) (setPending st #[(lo,n,0)])):wpS M A E s (Ez size lo n) Q st:=by
 refine wpS_bind (wpS_get ?_)
 have hb:(pendingOf st).back?=none:=by rw [hp];rfl
 rw [hb]
 exact Mo (by rw [hp];exact h)
theorem W6(hp:pendingOf st= #[(0,n1,0)])(h:∀pw,Q (.yield (none,lo+n)) (setPending st #[(0,n1,pw),(lo,n,0)])):wpS M A E s (Ez size lo n) Q st:=by
 refine wpS_bind (wpS_get ?_)
 have hb:(pendingOf st).back?=some (0,n1,0):=by rw [hp];rfl
 rw [hb]
 show wpS _ _ _ _ (Lz size (power' size (2*0+n1) (2*0+n1+n1+n) size) lo n) _ _
 generalize power' size (2*0+n1) (2*0+n1+n1+n) size=pw
 refine wpS_bind (wpS_mono (Cr (I:=λV c st'=>st'=st/\c=(none,())) (Q:=λc st'=>st'=st/\c=(none,())) (λx c st' V z=> ?_) (λV V z=>z) ⟨rfl,rfl⟩) λc st' z=> ?_)
 ·rw [z.1]
  refine wpS_bind (wpS_get ?_)
  rw [if_neg (by rw [hp];exact Nat.lt_irrefl 1)]
  exact wpS_pure ⟨rfl,rfl⟩
 ·rw [z.1,z.2]
  refine wpS_bind (wpS_modify (Mo ?_))
  have e:(pendingOf (setPending st ((pendingOf st).modify ((pendingOf st).size- 1) λx=>(x.1,x.2.1,pw)))).push (lo,n,0)= #[(0,n1,pw),(lo,n,0)]:=by
   show ((pendingOf st).modify ((pendingOf st).size- 1) λx=>(x.1,x.2.1,pw)).push (lo,n,0)=_
   rw [hp]
   apply Array.toList_inj.mp
   rw [Array.toList_push,Array.toList_modify];rfl
  rw [e]
  exact h pw
theorem Ts(h0:IntKeys a₀)(hmr:a₀.size<=2*mr)(h2:1<=a₀.size)(I:RI a₀ mr x c st):wpS (model prog w) A E s (E0 a₀.size mr c) (SP (λc st'=>c.1=none/\(One a₀ st'\/C2 a₀ st')) (RI a₀ mr (x+1))) st:=by
 obtain ⟨r,lo⟩:=c
 obtain ⟨e,z⟩:=I
 obtain rfl:r=none:=e
 rcases z with ⟨z1,z2,hB⟩ | ⟨z1,z2,z3,z4,hB,hU⟩ | ⟨z1,z2⟩
 ·obtain rfl:lo=0:=z2
  subst z1
  refine Mp h0 hB h2 λn st' hB' hn1 hn2 hor hu=>W5 hB'.pend ?_
  rw [Nat.zero_add n] at hn2 hor ⊢
  have hB3:SB a₀ #[(0,n,0)] 0 (setPending st' #[(0,n,0)]):=⟨hB'.perm,hB'.kind,hB'.failed,rfl,hB'.low⟩
  refine ⟨rfl,?_⟩
  by_cases hn:n=a₀.size
  ·subst hn
   exact .inr (.inr ⟨rfl,.inl ⟨⟨0,rfl⟩,hB3.perm,hB3.failed,λi j hij hj=>by have:=hu i j hij hj;rwa [Nat.zero_add,Nat.zero_add] at this⟩⟩)
  ·exact .inr (.inl ⟨hor.resolve_right hn,hn1,Nat.lt_of_le_of_ne hn2 hn,Nat.le_refl 1,hB3,hu⟩)
 ·have z3':lo<a₀.size:=z3
  have z2':1<=lo:=z2
  have z1':mr<=lo:=z1
  have hp:=hB.perm
  have hsz:(arrOf st).size=a₀.size:=hp.size_eq
  have hBb:SB (arrOf st) #[(0,lo,0)] lo st:=⟨.refl _,hB.kind,hB.failed,hB.pend,λV V=>rfl⟩
  have:=Mp (prog:=prog) (w:=w) (A:=A) (E:=E) (s:=s) (mr:=mr) (Q:=SP (λc st'=>c.1=none/\(One a₀ st'\/C2 a₀ st')) (RI a₀ mr (x+1))) (λp hp'=>h0 p ((Array.perm_iff_toList_perm.mp hp).mem_iff.mp hp')) hBb (by rw [hsz];exact z3) λn st' hB' hn1 hn2 hor hu=>W6 hB'.pend λpw=> ?_
  ·rwa [hsz] at this
  rw [hsz] at hn2 hor
  have hn:lo+n=a₀.size:=hor.elim (λq=>by exact Ac (zn3 73205793483149600 rfl hn2) (zn4 2602818591282897748229751072 rfl hmr z1 q)) id
  refine ⟨rfl,.inr (.inr ⟨hn,.inr ⟨lo,n,pw,0,⟨hB'.perm.trans hp,hB'.kind,hB'.failed,rfl,λi hi=>absurd hi (Nat.not_lt_zero i)⟩,hn,z2,hn1,λi j hij hj=> ?_,hu⟩⟩)⟩
  have k:∀i,i<lo->K (arrOf st') (0+i)=K (arrOf st) (0+i):=λi hi=>K_congr (hB'.low _ (by rw [Nat.zero_add];exact hi))
  show K (arrOf st') (0+i)<=K (arrOf st') (0+j)
  rw [k i (Nat.lt_of_le_of_lt hij hj),k j hj]
  exact hU i j hij hj
 ·obtain rfl:lo=a₀.size:=z1
  unfold E0
  rw [if_pos (Nat.le_refl _)]
  exact wpS_pure ⟨rfl,z2⟩
theorem Ot(h0:IntKeys a₀)(I:c=(none,())/\(One a₀ st\/x=0/\C2 a₀ st)):wpS (model prog w) A E s Lx (SP (λc st'=>c=(none,())/\One a₀ st') (λc st'=>c=(none,())/\(One a₀ st'\/x+1=0/\C2 a₀ st'))) st:=by
 obtain ⟨e,O | ⟨_,T⟩⟩:=I
 ·obtain ⟨pw,hp⟩:=O.pend
  refine wpS_bind (wpS_get ?_)
  rw [if_pos (by rw [hp];exact Nat.le_refl 1)]
  exact wpS_pure ⟨rfl,O⟩
 ·obtain ⟨n1,n2,pw,pw2,hB,hsum,g1,g2,u1,u2⟩:=T.ex
  refine wpS_bind (wpS_get ?_)
  rw [hB.pend,if_neg (by show ¬2<=1;exact of_decide_eq_false rfl)]
  show wpS _ _ _ _ (mergeAt' 0>>=_) _ _
  exact wpS_bind (Wx h0 hB hsum g1 g2 u1 u2 λst3 e1 e2 e3 e4=>wpS_pure ⟨rfl,.inl ⟨⟨pw,by rw [e3,hsum]⟩,e1,e2,e4⟩⟩)
theorem W4{Q:Unit->SortSt->Prop}(h0:IntKeys a₀)(hB:SB a₀ #[] 0 st)(h2:2<=a₀.size)(h128:a₀.size<128)
  (h:∀st',(arrOf st').Perm a₀->failedOf st'=none->SortedTo (arrOf st') a₀.size->Q () st'):wpS (model prog w) A E s sortRuns' Q st:=by
 have h1:=Nat.le_of_succ_le h2
 obtain ⟨mr,hmr,hm1,hm2⟩:=Rm (n:=a₀.size) h1 h128
 rw [Uj]
 refine wpS_bind (wpS_get ?_)
 rw [hB.size]
 unfold Ly
 rw [hmr]
 refine wpS_bind (wpS_mono (Cr (I:=RI a₀ mr) (Q:=λc st'=>c.1=none/\(One a₀ st'\/C2 a₀ st')) (λx c st' V I=>Ts h0 hm1 h1 I) (λc st' I=>⟨I.r,?_⟩) ⟨rfl,.inl ⟨rfl,rfl,hB⟩⟩) λc st' z=> ?_)
 ·rcases I.z with q | q | q
  ·exact absurd q.1 (Nat.ne_of_gt h1)
  ·exact absurd q.2.2.2.1 (Nat.not_le_of_lt h2)
  ·exact q.2
 ·obtain ⟨r,lo⟩:=c
  obtain ⟨e,z⟩:=z
  obtain rfl:r=none:=e
  refine wpS_bind (wpS_mono (Cr (I:=λx c st'=>c=(none,())/\(One a₀ st'\/x=0/\C2 a₀ st')) (Q:=λc st'=>c=(none,())/\One a₀ st') (λx c st' V I=>Ot h0 I) (λc st' I=>⟨I.1,I.2.elim id λq=>absurd q.1 (Nat.ne_of_gt h1)⟩) ⟨rfl,z.imp id λT=>⟨rfl,T⟩⟩) λc st' z=> ?_)
  obtain ⟨e,O⟩:=z
  subst e
  exact wpS_pure (h _ O.perm O.failed O.srt)
end
end
section
section
variable {prog:Program}{w:World}{A:Around}{E:Value->Shared->Prop}{s:Shared}
theorem Uk{a:Addr}{vs:List Value}{ns:List Int}{n:Nat}{P:Fin->Shared->Prop}(ho:s.heap.get? a=some (seqObj "list" vs.toArray n))
  (hI:IntsAre vs ns)(h128:vs.length<128)
  (h:∀(out:Array Value) (ns':List Int),IntsAre out.toList ns'->ns'.Perm ns->ns'.Pairwise (· <= ·)->P (.done (.ret .none)) {s with heap:=sortedHeap s.heap a vs out}):
  wpAny (model prog w) A (Builtin.«list.sort» ⟨[.ref a],[]⟩) P E s:=by
 by_cases h64:vs.length<64
 ·exact list_sort_tree ho hI h64 h
 rw [list_sort_plain]
 have ha:a<s.heap.objs.size:=Heap.lt_size ho
 have hsz:vs.toArray.size=vs.length:=by simp
 refine wpAny_bind (listItems_at ho rfl ?_)
 refine wpAny_bind (listUpdate_at ho rfl ?_ (by rw [hsz,sizeLine_eq];omega))
 obtain ⟨e1,ho1⟩:∃e1,(s.heap.update a (Obj.mapSeq λV=> #[])).get? a=some (seqObj "list" #[] e1):=⟨_,get?_update_seq ho (λV=> #[])⟩
 refine wpAny_bind (seqEpoch_at ho1 rfl ?_)
 refine wpAny_bind (wpAny_newTuple ?_ (by rw [Array.length_toList,hsz,sizeLine_eq];omega))
 refine wpAny_bind (wpAny_newList ?_)
 refine wpAny_holding ?_
 have ho6:(((s.heap.update a (Obj.mapSeq λV=> #[])).push (seqObj "tuple" vs.toArray 0)).push (seqObj "list" #[] 0)).get? a=some (seqObj "list" #[] e1):=by
  rw [Heap.get?_push_ne _ _ _ (by rw [size_push',Heap.size_update];exact Nat.ne_of_lt (Nat.lt_succ_of_lt ha)),Heap.get?_push_ne _ _ _ (by rw [Heap.size_update];exact Nat.ne_of_lt ha)]
  exact ho1
 show wpAny (model prog w) A _ P E {s with heap:=((s.heap.update a (Obj.mapSeq λV=> #[])).push (seqObj "tuple" vs.toArray 0)).push (seqObj "list" #[] 0)}
 rw [if_neg (by exact zn2 38039492194089988129060 rfl h64 hsz),if_neg (by exact zn2 38039492194089988129060 rfl h64 hsz)]
 obtain ⟨v₁,v₂,rest,rfl⟩:∃v₁ v₂ rest,vs=v₁::v₂::rest:=by
  rcases vs with _ | ⟨v₁,_ | ⟨v₂,rest⟩⟩
  ·exact absurd (Nat.succ_pos _) h64
  ·exact absurd (Nat.lt_of_sub_eq_succ rfl:1<64) h64
  ·exact ⟨v₁,v₂,rest,rfl⟩
 rw [keyKind_ints hI]
 refine wpAny_bind (wpAny_pure ?_)
 refine wpAny_bind (wpAny_mono (W4 (a₀:=pairsOf (v₁::v₂::rest)) (st:=SortSt.mk' oneType' ((v₁::v₂::rest).toArray.zip (v₁::v₂::rest).toArray) #[] 7 none)
  (Q:=λV st'=>(arrOf st').Perm (pairsOf (v₁::v₂::rest))/\failedOf st'=none/\SortedTo (arrOf st') (pairsOf (v₁::v₂::rest)).size)
  hI.intKeys ⟨Array.Perm.refl _,rfl,rfl,rfl,λi hi=>absurd hi (Nat.not_lt_zero i)⟩ (by rw [pairsOf_size];simp) (by rw [pairsOf_size];exact h128) λst' a1 a2 a3=>⟨a1,a2,a3⟩) ?_ λV V e=>e)
 rintro ⟨⟨⟩,st'⟩ s' ⟨rfl,hp,hf,hs⟩
 refine wpAny_bind (seqEpoch_at ho6 rfl ?_)
 refine wpAny_bind (listUpdate_at ho6 rfl ?_ (hsz2:=by refine nTr (Nat.le_of_eq ((Array.size_map ..).trans (hp.size_eq.trans (pairsOf_size _)))) ?_;rw [sizeLine_eq];omega))
 rw [hf]
 refine wpAny_ite_false (decide_eq_false (by rw [bne_self_eq_false];exact Bool.false_ne_true)) ?_
 obtain ⟨ns',q1,q2,q3⟩:=sorted_out hI hp hs
 exact wpAny_pure (h _ ns' q1 q2 q3)
variable {h₀:Heap}{L:Addr}{m:Str->Option Value}{news:List (Addr×Obj)}{g:Obj->List (Addr×Obj)}
theorem Lu{D:Addr}{vs:List Value}{ns:List Int}{c:Nat}{Q:Value->Shared->Prop}(F:Fr h₀ L s.heap m)(N:News h₀ L s.heap news)(U:UpdF D (listOf vs.toArray c) news g)(hI:IntsAre vs ns)(h128:vs.length<128)
  (h:∀h' vs' ns' c',Fr h₀ L h' m->News h₀ L h' (g (listOf vs'.toArray c'))->IntsAre vs' ns'->ns'.Perm ns->ns'.Pairwise (· <= ·)->Q .none {s with heap:=h'}):
  wpAny (model prog w) A (call (.builtin "list.sort") [.ref D]) Q E s:=by
 obtain ⟨pre,post,rfl,_⟩:=id U.split
 have z:=N (D,_) (lR _ (.head _))
 have ho:s.heap.get? D=some (seqObj "list" vs.toArray c):=z.1
 refine wpAny_call_entry PyProof.Rows.slot_list_sort ⟨_,ho,rfl⟩ PyProof.Rows.entry_list_sort (Uk ho hI h128 λout ns' q1 q2 q3=>⟨.none,rfl,?_⟩) (PyProof.Rows.args_list_sort _)
 obtain ⟨c',hc⟩:=sortedHeap_at (vs:=vs) (out:=out) ho
 obtain ⟨f1,n1⟩:=Cw (h':=sortedHeap s.heap D vs out) F N U (λb x hb e=>(sortedHeap_old hb (Heap.lt_size e)).trans e) hc
 exact h _ out.toList ns' c' f1 (by simpa using n1) q1 q2 q3
theorem Mg(hl:∀q∈news,q.1<D):UpdF D o ((D,o)::news) λo'=>(D,o')::news:=
 .head λp hp=>Nat.ne_of_lt (hl p hp)
theorem Um{T:String}{r d:Addr}{n:Nat}{P:Nat->Value->Prop}{OK:Heap->Prop}{Q:Value->Shared->Prop}{ns:List Int}(K:KdlSrc prog w T r d n P OK)(hh:A.handled=none)(F:Fr h₀ L s.heap m)(N:News h₀ L s.heap news)(hok:OK s.heap)(hn:n<128)
  (hlen:ns.length=n)(hP:∀(i:Nat) (v:Value) k,P i v->ns[i]?=some k->∃t,v= .int k t)
  (h:∀D vs' ns' c h' tk,Fr h₀ L h' m->News h₀ L h' ((D,listOf vs'.toArray c)::news)->(∀q∈news,q.1<D)->IntsAre vs' ns'->ns'.Perm ns->ns'.Pairwise (· <= ·)->Q (.ref D) {s with heap:=h',toks:=tk}):
  wpAny (model prog w) A (call (.builtin "sorted") [.ref r]) Q E s:=by
 refine kdu_sorted K hh F N hok (by rw [sizeLine_eq];omega) λD h' tk vs F' N' hlt hvl hv=> ?_
 have hI:IntsAre vs ns:=by
  have key:∀(l:List Value) (ms:List Int),l.length=ms.length->(∀(j:Nat) v k,l[j]?=some v->ms[j]?=some k->∃t,v= .int k t)->IntsAre l ms:=by
   intro l
   induction l with
   | nil=>intro ms h1 _;cases ms with
    | nil=>exact .nil
    | cons _ _=>cases h1
   | cons v l ih=>
    intro ms h1 h2
    cases ms with
    | nil=>cases h1
    | cons k ms=>
     obtain ⟨t,rfl⟩:=h2 0 v k rfl rfl
     exact .cons k t (ih ms (by simpa using h1) λj v' k' e1 e2=>h2 (j+1) v' k' (by simpa using e1) (by simpa using e2))
  exact key vs ns (by rw [hvl,hlen]) λj v k e1 e2=>hP j v k (hv j v e1) e2
 refine Lu (s:= {s with heap:=h',toks:=tk}) F' N' (Mg hlt) hI (by exact zn2 39964669893152412243413598497 rfl hn hvl) λh2 vs' ns' c' F2 N2 q1 q2 q3=> ?_
 exact h D vs' ns' c' h2 tk F2 N2 hlt q1 q2 q3
theorem Pq(hT:s.TypeIs (.ref r) "set")(h:Q false s):wpAny (model prog w) A (Builtin.List.listLengthHint (.ref r)) Q E s:=by
 unfold Builtin.List.listLengthHint
 refine wpAny_bind (wpAny_specialOf hT PySem.F.slot_set_len.lookup ?_)
 generalize hid:("set.__len__":String)=id0
 wp_delta
 rw [show splitId id0=some ("set","__len__") from by subst hid;decide+kernel]
 subst hid
 refine wpAny_bind (wpAny_isInstance (T:="set") (b:=true) hT (by rw [isSubtype_type];kernel_rfl) ?_)
 refine wpAny_ite_split (λhab=>absurd hab (by decide)) (λV=> ?_)
 refine wpAny_ite_split (λV=> ?_) (λhab=>absurd (by decide+kernel) hab)
 refine wpAny_bind (wpAny_typeOf hT ?_)
 exact wpAny_pure h
theorem T4(hh:A.handled=none)(hS:s.heap.get? S=some o)(hO:B8 prog w o vs ks)(hb:ks.length<1000)
  (h:∀(h':Heap) (tk:Nat) (dr':Drawn) (vs':List Value) (ks':List Int),(∀b o,s.heap.get? b=some o->h'.get? b=some o)->IntsAre vs' ks'->ks'.Perm ks->R vs' {s with heap:=h',toks:=tk,drawn:=dr'}):
  wpAny (model prog w) A (collect (.ref S)) R E s:=by
 have hlt:S<s.heap.objs.size:=Heap.lt_size hS
 have hints:IntsAre vs ks:=hO.choose_spec.choose_spec.choose_spec.2.2.2.1
 have hlen:=IntsAre.length hints
 refine wpAny_bind (wpAny_runValue (codeAny_builtin entry_proto_collect' ?_))
 rw [Around.under_plainId PySem.F.plain_proto_collect _]
 show wpAny _ A.in1 (newList []>>= λl=>again (.builtin "list.__iadd__" ⟨[l,.ref S],[]⟩)) _ _ s
 refine wpAny_bind (wpAny_newObj_type ?_)
 refine wpAny_pure ⟨plainId_quiet PySem.F.plain_list_iadd _,codeAny_builtin entry_list_iadd' ?_⟩
 rw [Around.under_plainId PySem.F.plain_list_iadd _]
 generalize hl:({cls:= .type "list",data:= .seq ([]:List Value).toArray}:Obj)=oD
 have hD0:(s.heap.push oD).get? s.heap.objs.size=some {cls:= .type "list",data:= .seq #[] 0}:=by subst hl;exact Heap.get?_push_size _ rfl
 have hS1:(s.heap.push oD).get? S=some o:=hPu _ hS
 have hT:({s with heap:=s.heap.push oD}:Shared).TypeIs (.ref S) "set":=by
  obtain ⟨es,ep,t,rfl,_⟩:=hO
  exact ⟨_,hS1,rfl⟩
 have hDS:s.heap.objs.size≠S:=Nat.ne_of_gt hlt
 show wpAny _ A.in1 (Builtin.List.listExtendWith (.ref s.heap.objs.size) (.ref S) (.ref s.heap.objs.size)) _ _ _
 refine wpAny_bind (wpAny_typeOf (T:="set") hT ?_)
 have h1:Builtin.List.listSameRef (.ref s.heap.objs.size) (.ref S)=false:=by simp [Builtin.List.listSameRef,hDS]
 have h2:(Value.type "set"==Value.type "list")=false:=by decide
 have h3:(Value.type "set"==Value.type "tuple")=false:=by decide
 refine wpAny_ite_false (decide_eq_false (by rw [h1,h2,h3];exact Bool.false_ne_true)) ?_
 refine wpAny_bind (Ua (s:= {s with heap:=s.heap.push oD}) hS1 hO (Nat.lt_of_lt_of_le hb (by decide)) λI fp order St h1 dr1 hI hk1 hperm W hst hIfp hfp hfp2=> ?_)
 dsimp only at hI hk1 hfp2
 rw [size_push'] at hI hfp2
 obtain ⟨ks',hI',hp'⟩:=Ke hints hperm
 have hol:order.length=ks.length:=by rw [hperm.length_eq,hlen]
 have hDfp:s.heap.objs.size∉fp:=λhm=>by
  rcases hfp2 _ hm with e | e
  ·exact hDS e
  ·exact absurd e (Nat.not_succ_le_self _)
 have hDI:s.heap.objs.size≠I:=λe=>hDfp (e▸hIfp)
 have hT1:({s with heap:=h1,drawn:=dr1}:Shared).TypeIs (.ref S) "set":=by
  obtain ⟨o',ho',hc'⟩:=hT
  exact ⟨o',hk1 _ _ ho',hc'⟩
 have hD1:h1.get? s.heap.objs.size=some {cls:= .type "list",data:= .seq #[] 0}:=hk1 _ _ hD0
 refine wpAny_bind (wpAny_holding (Pq hT1 ?_))
 refine wpAny_ite_split (λV=> ?_) (λhab=>absurd (by decide+kernel) hab)
 refine wpAny_bind (wpAny_rule ?_)
 refine wpAny_bind ?_
 show wpAny _ _ (updateSeq s.heap.objs.size (·.push .none)>>= λV=>updateSeq s.heap.objs.size (·.pop)) _ _ _
 refine wpAny_bind (wpAny_updateSeq hD1 rfl ?_)
 have hD2:=Heap.get?_update_self (Obj.mapSeq (·.push Value.none)) hD1 rfl
 refine wpAny_updateSeq (hz:=by seq_fits) hD2 rfl ?_
 have hD3:=Heap.get?_update_self (Obj.mapSeq (·.pop)) hD2 rfl
 refine wpAny_pure ⟨plainId_quiet PySem.F.plain_extend_loop _,?_⟩
 have hin:A.in1.handled=none:=hh
 refine codeAny_extend_loopS (W A.in1 hin).toS (by rw [sizeLine_eq,hol];omega) s.heap.objs.size hDfp _ order.length 0 _ #[] _ rfl (Nat.zero_le _) ?_ hD3 (ItemsOf.nil _) λs' acc' c' hm hS' hacc=> ?_
 ·refine (W A.in1 hin).frame 0 _ _ hst λb hb o e=> ?_
  have hbD:b≠s.heap.objs.size:=λh=>hDfp (h▸hb)
  exact (Heap.get?_update_other _ _ (Ne.symm hbD)).trans ((Heap.get?_update_other _ _ (Ne.symm hbD)).trans e)
 ·show wpAny _ A (load s.heap.objs.size>>=_) _ _ _
  refine wpAny_bind (wpAny_load hS' ?_)
  refine wpAny_pure ?_
  have hitems:acc'.toList=order:=by
   apply List.ext_getElem?
   intro j
   by_cases hj:j<order.length
   ·have hj':j<acc'.size:=by rw [hacc.1];exact hj
    have:=hacc.2 j _ (Array.getElem?_eq_getElem hj')
    rw [this,Array.getElem?_toList,Array.getElem?_eq_getElem hj']
   ·rw [List.getElem?_eq_none (by rw [Array.length_toList,hacc.1];exact zn2 1379959072 rfl hj),List.getElem?_eq_none (by exact zn2 1379959072 rfl hj)]
  show R acc'.toList s'
  rw [Moved.eq_with hm,hitems]
  refine h s'.heap s'.toks dr1 order ks' (λb o e=> ?_) hI' hp'
  have hb0:b<s.heap.objs.size:=Heap.lt_size e
  have hbD:b≠s.heap.objs.size:=Nat.ne_of_lt hb0
  refine hm.heap b o (λhmem=> ?_) ((Heap.get?_update_other _ _ (Ne.symm hbD)).trans ((Heap.get?_update_other _ _ (Ne.symm hbD)).trans (hk1 _ _ (hPu _ e))))
  rcases lC hmem with e' | hmem
  ·exact hbD e'
  ·have e9:=lS hmem
   rw [e9] at hb0
   exact absurd (Nat.lt_of_lt_of_le (Nat.lt_succ_of_lt hb0) hI) (Nat.lt_irrefl _)
theorem Ul(hh:A.handled=none)(F:Fr h₀ L s.heap m)(N:News h₀ L s.heap news)(hS:s.heap.get? S=some o)(hO:B8 prog w o vs ks)(hb:ks.length<128)
  (h:∀D vs' ns' c h' tk dr',Fr h₀ L h' m->News h₀ L h' ((D,listOf vs'.toArray c)::news)->(∀q∈news,q.1<D)->IntsAre vs' ns'->ns'.Perm ks->ns'.Pairwise (· <= ·)->Q (.ref D) {s with heap:=h',toks:=tk,drawn:=dr'}):
  wpAny (model prog w) A (call (.builtin "sorted") [.ref S]) Q E s:=by
 refine call_function_entry kind_sorted plain_sorted entry_sorted (args_sorted1 _) ?_
 unfold Builtin.«sorted»
 refine wpAny_bind (m:=checkCount "sorted" 1 1 _) (wpAny_pure ?_)
 refine wpAny_bind (T4 (A:=A.in1) hh hS hO (by exact zn1 148330875086984347937 rfl hb) λh' tk dr' vs' ks' hk hI hp=> ?_)
 have hl:vs'.length=ks.length:=by rw [IntsAre.length hI,hp.length_eq]
 refine wpAny_bind (wpAny_newList ?_ (by rw [hl,sizeLine_eq];omega))
 have F1:=F.keeps hk
 have N1:News h₀ L h' news:=λp hp=>⟨hk _ _ (N p hp).1,(N p hp).2⟩
 have hlt:∀q∈news,q.1<h'.objs.size:=λq hq=>Heap.lt_size (N1 q hq).1
 refine wpAny_bind (wpAny_holding (Lu (s:= {s with heap:=h'.push {cls:= .type "list",data:= .seq vs'.toArray},toks:=tk,drawn:=dr'}) (F1.push _) (News.push F1 N1 _ rfl) (Mg hlt) hI (by exact zn2 39964669893152412243413598497 rfl hb hl) λh2 vs2 ns2 c2 F2 N2 q1 q2 q3=> ?_))
 exact wpAny_pure ⟨_,rfl,h _ vs2 ns2 c2 h2 tk dr' F2 N2 hlt q1 (q2.trans hp) q3⟩
end
end
section
theorem Ku(hf:methodCallForm k args []=true)(hp:(p2.endLine==pos.line)=true):
  methodCall o name p2 pos env ov k args []=(do
   let (f,first) <-holding [ov] (getMethod ov name (do return (<-importBound o env).getD true))
   callWith pos f first args []):=by
 unfold methodCall methodCallPos
 rw [hf,hp,if_pos (by rfl)]
 rfl
theorem Dv(e0:eval (.Call (.Attribute o name p2) [e1] [] pos) env=(do
   let ov<-eval o env
   standAt p2.atName
   methodCall o name p2 pos env ov 1 (backTo pos (starEach [e1] env)) [])) (h:Au e1=true) (hp:(p2.endLine==pos.line)=true):
  eval (.Call (.Attribute o name p2) [e1] [] pos) env=(do
   let ov<-eval o env
   standAt p2.atName
   let (f,first) <-holding [ov] (getMethod ov name (do return (<-importBound o env).getD true))
   callWith pos f first (backTo pos (starEach [e1] env)) []):=by
 have hf:methodCallForm 1 (backTo pos (starEach [e1] env)) []=true:=by rw [Ad h];rfl
 rw [e0]
 congr 1;funext ov;congr 1;funext _
 exact Ku hf hp
theorem Hv(e0:eval (.Call (.Attribute o name p2) [] [] pos) env=(do
   let ov<-eval o env
   standAt p2.atName
   methodCall o name p2 pos env ov 0 (backTo pos (starEach [] env)) [])) (hp:(p2.endLine==pos.line)=true):
  eval (.Call (.Attribute o name p2) [] [] pos) env=(do
   let ov<-eval o env
   standAt p2.atName
   let (f,first) <-holding [ov] (getMethod ov name (do return (<-importBound o env).getD true))
   callWith pos f first (backTo pos (starEach [] env)) []):=by
 rw [e0]
 congr 1;funext ov;congr 1;funext _
 exact Ku rfl hp
theorem Hg:Fn (Str.ofString "_law_draw") (.ref 387):=⟨λw=>by k_is,λw=>by k_is⟩
noncomputable def Bo(s₀ b seat rest:Int):Prop:=s₀<=seat/\seat<=s₀+b/\0<=rest
structure Eb(cs:List Value):Prop where
 ex:∃ns,IntsAre cs ns/\ns.length<=40
section
variable {C:Cd}{n:Nat}{w:World}{x:Str}{px pos p2 p3 p4:Pos}{e e0 e1 e2:PySem.Expr}{es:List PySem.Expr}{body orelse rest:List Stmt}{rs:List (List Stmt)}{S:Si C n w}{K:Flow->Shared->Prop}{d:Drawn}{m:Loc}{l r:Led}{a b i j:Int}{t t1 t2:Tok}{v u:Value}{vs its:List Value}{P P1 P2:Value->Prop}{p q:Prop}{κ:Value->Drawn->Led->Prop}{κb:Prop->Drawn->Led->Prop}{cnt kd nn nc cN:Nat}{D Pp Cc:Addr}{ns:List Int}{cs:List Value}{seat rst s₀ many lo hi:Int}{g:Obj->Led}{id:String}{name:Str}
theorem XB.eqC(h:X S d m l e λv d' l'=>∃a,isI a v/\κb (a=b) d' l')(hm:decide (0<=b)=true:=by exact Eq.refl true):XB S d m l (.Compare e [.Eq] [.Constant (.int b) kd p2] pos) κb:=
 ⟨λh9 k Q A hq=>wpAny_isTrue_Compare1 (h.run h9 k _ A λv1 d' l' h1 k1 ⟨a,⟨t,e⟩,z⟩ A1=>by
  subst e
  exact wpAny_Constant_int (eq_int (wpAny_truthy_bool (hq _ _ d' l' h1 _ decide_eq_true_iff z A1)))) rfl⟩
theorem XB.gtC(h:X S d m l e λv d' l'=>∃a,isI a v/\κb (b<a) d' l')(hm:decide (0<=b)=true:=by exact Eq.refl true):XB S d m l (.Compare e [.Gt] [.Constant (.int b) kd p2] pos) κb:=
 ⟨λh9 k Q A hq=>wpAny_isTrue_Compare1 (h.run h9 k _ A λv1 d' l' h1 k1 ⟨a,⟨t,e⟩,z⟩ A1=>by
  subst e
  exact wpAny_Constant_int (gt_int (wpAny_truthy_bool (hq _ _ d' l' h1 _ decide_eq_true_iff z A1)))) rfl⟩
theorem W.iteX(hb:XB S d m l e λp d' l'=>(p->W S K d' m l' body (rest::rs))/\(¬p->W S K d' m l' orelse (rest::rs))):W S K d m l (.If e body orelse pos::rest) rs:=
 ⟨λh k A=>wpAny_execs_cons (wpAny_If (hb.run h k _ A λb p d' l' h' k' hi ⟨z1,z2⟩ A'=>by
  have hf:∀f s',Kont S K (rest::rs) f s'->(match f with | Flow.next=>wpAny (mdl w) S.A (execs rest S.env) (Kont S K rs) S.E s' | f=>Kont S K rs f s'):=by
   intro f s' hh
   cases f<;>first | exact hh | exact Kont.out (λh=>nomatch h) hh
  cases b with
  | true=>exact wpAny_mono ((z1 (hi.mp rfl)).run h' k' A') hf λV V z=>z
  | false=>exact wpAny_mono ((z2 λhp=>nbF (hi.mpr hp)).run h' k' A') hf λV V z=>z))⟩
theorem W.expr(he:X S d m l e λv d' l'=>v= .none/\W S K d' m l' rest rs)(hs:Af e=true:=by exact Eq.refl true)(hc:C.cs.kind= .function:=by rfl):W S K d m l (.Expr e pos::rest) rs:=
 ⟨λh k A=>wpAny_execs_cons (wpAny_Expr (he.run h k _ A λv d' l' h' k' ⟨e,z⟩ A'=>by subst e;exact z.run h' k' A') (by unfold interactive;rw [S.scope,hc];rfl) (Cg hs))⟩
theorem X.list0(h:∀D,(∀p∈l,p.1<D)->κ (.ref D) d ((D,listOf (#[]:Array Value) 0)::l)):X S d m l (.List [] pos) κ:=
 ⟨λh9 k Q A hq=>List_ (args_nil (newList_K (vs:= []) A.F A.N (λD h' F N hD=>hq _ _ _ _ _ (h D λp hp=>hD p (lL _ hp)) (A.new F N hD)) (by decide)))⟩
theorem X.lm1(hd:Ev S m l (.Name x px) (· = .ref D))(hm:(D,listOf its.toArray cN)∈l)(slot:Slot "list" name id)(hty:typeOf (.builtin id)=pure (.type "method_descriptor"))(ha:X S d m l e1 λv1 d1 l1=>CX S d1 m l1 (.builtin id) [.ref D,v1] κ)(ok:Au e1=true:=by exact Eq.refl true)(hp:(p2.endLine==pos.line)=true:=by exact Eq.refl true):X S d m l (.Call (.Attribute (.Name x px) name p2) [e1] [] pos) κ:=
 ⟨λh k Q A hq=>MethodCall_ (hd.run h d k _ A λv h1 k1 hv A1=>by
  subst hv
  exact listMethod_K A1.N1 hm slot hty (callWith_method1 (args_cons (ha.run h1 k1 _ A1 λv1 d1 l1 h2 k2 z A2=>args_nil (z.run h2 k2 Q A2 hq)) (Ad ok)) (Ad ok) rfl)) (Dv rfl ok hp)⟩
theorem CX.draw(hp:Eb cs)(hS:Bo s₀ b seat rst)(hc:(Cc,listOf cs.toArray nc)∈r)(hb:0<=s₀/\s₀+b<1000000)(hm:0<many/\many<=1000)
  (h:∀x t seat' rest' t1' t2',0<=x->x<many->Bo s₀ (b+1) seat' rest'->κ (.int x t) d ((Pp,Bb Cc seat' t1' rest' t2' nn)::r))(hk:decide (2<=n)=true:=by exact Eq.refl true):CX S d m ((Pp,Bb Cc seat t1 rst t2 nn)::r) (.ref 387) [.ref Pp,.int many t] κ:=
 ⟨λh9 k Q A hq=>by
  obtain ⟨ns,hi,hl⟩:=hp.ex
  obtain ⟨s1,s2,s3⟩:=hS
  refine (CX.tel1 (κ:=κ) (L9 (λe=>(List.pairwise_cons.mp A.D).1 _ hc e) hi (by exact zi2 1448102218180901 rfl hb.1 s1) (by exact zi3 85186484232360924242375509434597670 rfl hb.2 s2) s3 hm.1 hm.2 hl) .here (λp hp=>lS hp▸hc) ?_ hk).run h9 k Q A hq
  rintro v mu' new ⟨r,t,seat',rest',t1',t2',rfl,rfl,rfl,a1,a2,a3,a4,a5⟩ _
  exact ⟨rfl,.nil,h r t seat' rest' t1' t2' a1 a2 ⟨by exact zi3 38602822766330149 rfl s1 a3,by exact zi4 440242772459872404439742152997 rfl s2 a4,a5⟩⟩⟩
theorem X.draw(hx:Ev S m ((Pp,Bb Cc seat t1 rst t2 nn)::r) e1 (· = .ref Pp))(h2:Ev S m ((Pp,Bb Cc seat t1 rst t2 nn)::r) e2 (isI many))(hp:Eb cs)(hS:Bo s₀ b seat rst)(hc:(Cc,listOf cs.toArray nc)∈r)(hb:0<=s₀/\s₀+b<1000000)(hm:0<many/\many<=1000)
  (h:∀x t seat' rest' t1' t2',0<=x->x<many->Bo s₀ (b+1) seat' rest'->κ (.int x t) d ((Pp,Bb Cc seat' t1' rest' t2' nn)::r))(hk:decide (2<=n)=true:=by exact Eq.refl true)(ok:okB C (Str.ofString "_law_draw") [e1,e2]=true:=by exact Eq.refl true):
  X S d m ((Pp,Bb Cc seat t1 rst t2 nn)::r) (.Call (.Name (Str.ofString "_law_draw") p2) [e1,e2] [] pos) κ:=
 X.f2 Hg (X.evV hx (X.evI h2 λt=>CX.draw hp hS hc hb hm h hk)) ok
noncomputable def intsOf:List PySem.Expr->Option (List Int)
 | []=>some []
 | .Constant (.int a) _ _::r=>(intsOf r).map (a:: ·)
 | _::_=>none
theorem Om(hc:intsOf es=some ns):∀ {h:Heap} {k:Nat} {Q:List Value->Shared->Prop},(∀vs k',IntsAre vs ns->Q vs ⟨h,S.g,d,k',S.o⟩)->wpAny (mdl w) S.A (spliced (backTo pos (starEach es S.env))) Q S.E ⟨h,S.g,d,k,S.o⟩:=by
 induction es generalizing ns with
 | nil=>intro h k Q hq;cases hc;exact args_nil (hq [] k .nil)
 | cons e es ih=>
  intro h k Q hq
  cases e with
  | Constant c kd p=>
   cases c with
   | int a=>
    have hc:(intsOf es).map (a:: ·)=some ns:=hc
    revert ih hc
    cases intsOf es with
    | none=>exact λV hc=>nn hc
    | some r=>exact λih hc=>args_cons (wpAny_Constant_int (ih rfl λvs k' hi=>hq _ k' ((sJ hc:a::r=ns)▸ .cons a _ hi))) rfl
   | _=>exact nn hc
  | _=>exact nn hc
theorem X.menu(hc:intsOf es=some ns)(hl:ns.length<=100)(hall:∀x∈ns,lo<=x/\x<=hi)
  (h2:∀D o,X S d m (l++ [(D,o)]) e2 λv d' l'=>∃k l'',isI k v/\0<=k/\k<ns.length/\l'=l''++ [(D,o)]/\∀x t,lo<=x->x<=hi->κ (.int x t) d' l'')(ok:Af e2=true:=by exact Eq.refl true):
  X S d m l (.Subscript (.List es p3) e2 pos) κ:=
 ⟨λh k Q A hq=>Subscript_ (List_ (Om hc λvs k1 hvs=>newList_K (vs:=vs) A.F A.N (λD h' F N hD=>by
  have A1:=A.new F N hD
  have A2:At S h' m (l++ [(D,listOf vs.toArray 0)]):=⟨F,λp hp=>N p (by
   rcases lA hp with hp | hp
   ·rcases lA hp with hp | hp
    ·exact .tail _ (lL _ hp)
    ·exact lS hp▸ .head _
   ·exact .tail _ (lR _ hp)),C4 (List.perm_append_comm (l₁:= [_])) A1.D,λp hp q hq=>A1.O p hp q ((List.perm_append_comm (l₁:= [_])).mem_iff.mpr hq)⟩
  refine (h2 D _).run h' k1 _ A2 λv d' l' h2' k2 z9 A3=> ?_
  obtain ⟨j,l'',⟨t,e⟩,j0,j1,e2,z⟩:=z9
  subst e e2
  have hin:(D,listOf vs.toArray 0)∈l''++ [(D,listOf vs.toArray 0)]:=lR _ (.head _)
  refine kba_turn (value':=PySem.Expr.Name (Str.ofString "_") ⟨0,0,0,0⟩) (λV=>rfl) (Re A3.N1 hin hvs j0 j1 (by exact zn1 116049071858481004833 rfl hl) hall (λx t x0 x1=>hq _ _ _ _ _ (z x t x0 x1) ⟨A3.F,λp hp=>A3.N p ?_,?_,λp hp q hq=>A3.O p hp q (lL _ hq)⟩) (D7 ok))
  ·rcases lA hp with hp | hp
   ·exact lL _ (lL _ hp)
   ·exact lR _ hp
  ·exact (List.pairwise_append.mp A3.D).1) (by rw [IntsAre.length hvs,sizeLine_eq];omega)))⟩
theorem X.menuDraw(hc:intsOf es=some ns)(hl:decide (ns.length<=100)=true)(hall:(ns.all λx=>decide (lo<=x)&&decide (x<=hi))=true)(hx:∀l,Ev S m l e1 (· = .ref Pp))(hp:Eb cs)(hS:Bo s₀ b seat rst)(hC:(Cc,listOf cs.toArray nc)∈r)(hb:0<=s₀/\s₀+b<1000000)(hm:decide (many=ns.length/\0<ns.length)=true)
  (h:∀x t seat' rest' t1' t2',lo<=x->x<=hi->Bo s₀ (b+1) seat' rest'->κ (.int x t) d ((Pp,Bb Cc seat' t1' rest' t2' nn)::r))(hk:decide (2<=n)=true:=by exact Eq.refl true)(ok:okB C (Str.ofString "_law_draw") [e1]=true:=by exact Eq.refl true):
  X S d m ((Pp,Bb Cc seat t1 rst t2 nn)::r) (.Subscript (.List es p3) (.Call (.Name (Str.ofString "_law_draw") p2) [e1,.Constant (.int many) kd p4] [] px) pos) κ:=by
 have hl':=of_decide_eq_true hl
 have hm':=of_decide_eq_true hm
 rw [List.all_eq_true] at hall
 refine X.menu hc hl' (λx hx=>by have:=hall x hx;rw [Bool.and_eq_true,decide_eq_true_eq,decide_eq_true_eq] at this;exact this) λD o=> ?_
 have ok2:okB C (Str.ofString "_law_draw") [e1,.Constant (.int many) kd p4]=true:=by
  unfold okB at ok ⊢
  rw [Bool.and_eq_true] at ok ⊢
  refine ⟨ok.1,?_⟩
  rw [List.all_cons,all1 ok.2];rfl
 exact X.draw (r:=r++ [(D,o)]) (hx _) Ev.int hp hS (lL _ hC) hb (by exact ⟨lin [_] [_] 370457044239526182 rfl hm'.1 hm'.2,lin [_] [_] 911480502146875269790774755621 rfl hl' hm'.1⟩) (λx t seat' rest' t1' t2' x0 x1 hS'=>⟨x,(Pp,_)::r,⟨t,rfl⟩,x0,by exact lin [_] [_,_] 37224528053057323302 rfl hm'.1 x1,rfl,λy t y0 y1=>h y t seat' rest' t1' t2' y0 y1 hS'⟩) hk ok2
theorem X.extR(hd:Ev S m l (.Name x px) (· = .ref D))(ha:Ev S m l ea (isI a))(hb:Ev S m l eb (isI b))(U9:U D (listOf its.toArray cN) l g)(hi:IntsAre its ns)(hab:0<=a/\a<=100000/\0<=b/\b<=100000)(hl:ns.length<=1000)
  (h:∀vs' c',IntsAre vs' (ns++rangeKs a (b- a).toNat)->κ .none d (g (listOf vs'.toArray c')))(ok:okB C (Str.ofString "range") [ea,eb]=true:=by exact Eq.refl true)(hp:(p2.endLine==pos.line)=true:=by exact Eq.refl true):
  X S d m l (.Call (.Attribute (.Name x px) (Str.ofString "extend") p2) [.Call (.Name (Str.ofString "range") p3) [ea,eb] [] p4] [] pos) κ:=
 ⟨λh9 k Q A hq=>MethodCall_ (hd.run h9 d k _ A λv h1 k1 hv A1=>by
  subst hv
  refine listMethod_K A1.N1 U9.mem PySem.F.slot_list_extend PySem.F.type_list_extend (callWith_method1 (args_cons (Call_ ((Ev.bi G5 (Bs ok)).run h1 d k1 _ A1 λv h2 k2 hv A2=> ?_) Bm) (Ad rfl)) (Ad rfl) rfl)
  subst hv
  refine PyProof.Rows.callWith_type1 (args_cons (ha.run h2 d k2 _ A2 λva h3 k3 ⟨t3,e3⟩ A3=>args_cons (hb.run h3 d k3 _ A3 λvb h4 k4 ⟨t4,e4⟩ A4=>args_nil ?_) (Ad (all1 (all2 (Aj ok))))) (Ad (all1 (Aj ok)))) (Ad (all1 (Aj ok))) (Bz (all2 (Aj ok)))
  subst e3 e4
  refine call_range_2 (args_nil ?_)
  have A5:=A4.push {cls:= .type "range",data:= .fields #[.int a t3,.int b t4,.int 1 k4]}
  refine Ox S.hh A5.F A5.N (A5.updF U9) hi (IsRange.new _ _ _ _ _ _ _) (small_one (by omega) (by omega) (by omega) (by omega)) (rangeSize_nat a b) (by rw [IntsAre.length hi];omega) λh' tk vs' c' F N hi'=> ?_
  exact hq _ d _ h' tk (h vs' c' hi') (A5.upd U9 F N)) (Dv rfl rfl hp)⟩
theorem X.sortedSet(he:X S d m l e λv d1 l1=>∃(D:Addr) (its:List Value) (cN:Nat) (ns:List Int),v= .ref D/\(D,listOf its.toArray cN)∈l1/\IntsAre its ns/\ns.length<128/\∀d' D2 vs2 gs c2,(∀p∈l1,p.1<D2)->IntsAre vs2 gs->gs.Pairwise (· < ·)->(∀x,x∈gs ↔ x∈ns)->gs.length<=ns.length->κ (.ref D2) d' ((D2,listOf vs2.toArray c2)::l1))(ok:okB C (Str.ofString "set") [e]=true:=by exact Eq.refl true)(ok2:glbOk C (Str.ofString "sorted")=true:=by exact Eq.refl true):
  X S d m l (.Call (.Name (Str.ofString "sorted") p2) [.Call (.Name (Str.ofString "set") p3) [e] [] p4] [] pos) κ:=
 ⟨λh9 k Q A hq=>Call_ ((Ev.bi Jb ok2).run h9 d k _ A λv h1 k1 hv A1=>by
  subst hv
  refine PyProof.Rows.callWith_builtin1 (args_cons (Call_ ((Ev.bi Ni (Bs ok)).run h1 d k1 _ A1 λv h2 k2 hv A2=> ?_) Bm) (Ad rfl)) (Ad rfl) rfl
  subst hv
  refine PyProof.Rows.callWith_type1 (args_cons (he.run h2 k2 _ A2 λv d1 l1 h3 k3 z A3=>args_nil ?_) (Ad (all1 (Aj ok)))) (Ad (all1 (Aj ok))) rfl
  obtain ⟨D,its,cN,ns,hv,hm,hi,hl,h⟩:=z
  subst hv
  refine call_set_list S.hh (News.isList A3.N1 hm) hi (Nat.lt_of_lt_of_le hl (by decide)) λS9 h4 tk o' vs' ks' hS hk hget hO hmem hlen=>args_nil ?_
  have F4:=A3.F.keeps hk
  have N4:News _ _ h4 (l1++S.own):=λp hp=>⟨hk _ _ (A3.N p hp).1,(A3.N p hp).2⟩
  refine Ul S.hh F4 N4 hget hO (by exact zn2 39962252041513182985064186145 rfl hl hlen) λD2 vs2 gs2 c2 h5 tk5 dr5 F5 N5 hlt hI2 hperm hsort=> ?_
  have hnd:ks'.Nodup:=hO.choose_spec.choose_spec.choose_spec.2.2.2.2.1
  refine hq _ dr5 _ h5 tk5 (h dr5 D2 vs2 gs2 c2 (λp hp=>hlt p (lL _ hp)) hI2 ?_ (λx=>(hperm.mem_iff).trans (hmem x)) (by rw [hperm.length_eq];exact hlen)) ((⟨F4,N4,A3.D,A3.O⟩:At S h4 m l1).new F5 N5 hlt)
  exact List.Pairwise.imp₂ (λV V h1 h2=>Int.lt_iff_le_and_ne.mpr ⟨h1,h2⟩) hsort (hperm.nodup_iff.mpr hnd)) Bm⟩
theorem X.addR(h1:Ev S m l e1 (isI a))(h2:X S d m l e2 λv d' l'=>∃b,isI b v/\∀t,κ (.int (a+b) t) d' l'):X S d m l (.BinOp e1 .Add e2 pos) κ:=
 ⟨λh k Q A hq=>wpAny_BinOp (h1.run h d k _ A λv1 h1 k1 ⟨t1,e1⟩ A1=>h2.run h1 k1 _ A1 λv2 d' l' h2 k2 ⟨b,⟨t2,e2⟩,z⟩ A2=>by subst e1 e2;exact add_int (hq _ _ _ _ _ (z _) A2))⟩
theorem Rl(a b:Int):ite (b<a) b a<=a/\ite (b<a) b a<=b/\(ite (b<a) b a=a\/ite (b<a) b a=b):=iteInduction (motive:=λz=>z<=a/\z<=b/\(z=a\/z=b)) (λq=>⟨Int.le_of_lt q,Int.le_refl _,.inr rfl⟩) λq=>⟨Int.le_refl _,Int.not_lt.mp q,.inl rfl⟩
theorem CX.min(h:∀z t,z<=a/\z<=b/\(z=a\/z=b)->κ (.int z t) d l):CX S d m l (.builtin "min") [.int a t1,.int b t2] κ:=
 ⟨λh9 k Q A hq=>min_two_N S.hh A.F A.N (λh' tk F N=>hq _ _ _ _ _ (h _ _ (Rl a b)) ⟨F,N,A.D,A.O⟩)⟩
end
end
section
noncomputable abbrev Ap(vs:List Value):Obj:= {cls:= .type "tuple",data:= .seq vs.toArray 0}
noncomputable abbrev Ed(w:World)(tk:Tok)(T:Addr):Obj:=dictOf [{hash:=PyData.keyHash w.params (Str.ofString "glyphs"),key:=Value.str (Str.ofString "glyphs") tk,val:=Value.ref T}] 1
structure Own(C:Addr)(name:Str):Prop where
 pg:∀w:World,plainGet (hd.heap_39 w.params) C name=true
 hdi:∀w:World,hasDictIn (hd.heap_39 w.params) C=true
 fi:∀w:World,findIn (hd.heap_39 w.params) (.ref C) name=some none
structure Mth(C:Addr)(name:Str)(f:Addr):Prop where
 pg:∀w:World,plainGet (hd.heap_39 w.params) C name=true
 fi:∀w:World,findIn (hd.heap_39 w.params) (.ref C) name=some (some (.ref f))
 fn:∀w:World,isFn (hd.heap_39 w.params) (.ref f)=true
 keep:∀w:World,keepIn (hd.heap_39 w.params) (.ref f)=true
theorem Bl:Own 301 (Str.ofString "glyphs"):=⟨λw=>by k_is,λw=>by k_is,λw=>by k_is⟩
theorem mth_index:Mth 301 (Str.ofString "index") 284:=⟨λw=>by k_is,λw=>by k_is,λw=>by k_is,λw=>by k_is⟩
theorem Kx:Mth 301 (Str.ofString "has") 291:=⟨λw=>by k_is,λw=>by k_is,λw=>by k_is,λw=>by k_is⟩
theorem mth_told:Mth 301 (Str.ofString "told") 298:=⟨λw=>by k_is,λw=>by k_is,λw=>by k_is,λw=>by k_is⟩
section
variable {C:Cd}{n:Nat}{w:World}{x:Str}{px pos p2 p3 p4:Pos}{e e0 e1 e2:PySem.Expr}{es:List PySem.Expr}{S:Si C n w}{K:Flow->Shared->Prop}{d:Drawn}{m:Loc}{l r:Led}{a b i:Int}{t:Tok}{v:Value}{vs its:List Value}{P:Value->Prop}{κ:Value->Drawn->Led->Prop}{cN kd:Nat}{X0 dx D T:Addr}{ns gs:List Int}{g:Obj->Led}{Cl f:Addr}{des:List DictEntry}{name:Str}{sl:Array (Option Value)}
theorem Ev.attr(hO:Own Cl name)(he:Ev S m l (.Name x px) (· = .ref X0))(hX:(X0,instObj Cl dx)∈l)(hd:(dx,dictOf des cN)∈l)(hg:getL name des=some (some v))(hp:P v)(hv:handedIn v=true:=by exact Eq.refl true):Ev S m l (.Attribute (.Name x px) name pos) P:=
 ⟨λh d k Q A hq=>Attribute_Name_ (he.run h d k _ A λo h1 k1 ho A1=>by
  subst ho
  exact get_own A1.F S.gd (InstAt.of_news A1.N1 hX hd) (hO.pg w) (hO.hdi w) (hO.fi w) rfl hg hv (hq v h1 _ hp A1)) rfl⟩
theorem X.meth1(hM:Mth Cl name f)(he:Ev S m l (.Name x px) (· = .ref X0))(hX:(X0,instObj Cl dx)∈l)(hd:(dx,dictOf des cN)∈l)(hg:getL name des=some none)(ha:X S d m l e1 λv1 d1 l1=>CX S d1 m l1 (.ref f) [.ref X0,v1] κ)(ok:Au e1=true:=by exact Eq.refl true)(hp:(p2.endLine==pos.line)=true:=by exact Eq.refl true):X S d m l (.Call (.Attribute (.Name x px) name p2) [e1] [] pos) κ:=
 ⟨λh k Q A hq=>MethodCall_ (he.run h d k _ A λo h1 k1 ho A1=>by
  subst ho
  exact method_inst A1.F S.gd (InstAt.of_news A1.N1 hX hd) (hM.pg w) (hM.fi w) (hM.fn w) hg (callWith_K A1.gd (hM.keep w) (args_cons (ha.run h1 k1 _ A1 λv1 d1 l1 h2 k2 z A2=>args_nil ⟨A2.gd,z.run h2 k2 Q A2 hq⟩) (Ad ok)) (Ad ok) rfl)) (Dv rfl ok hp)⟩
theorem X.meth0(hM:Mth Cl name f)(he:Ev S m l (.Name x px) (· = .ref X0))(hX:(X0,instObj Cl dx)∈l)(hd:(dx,dictOf des cN)∈l)(hg:getL name des=some none)(ha:CX S d m l (.ref f) [.ref X0] κ)(hp:(p2.endLine==pos.line)=true:=by exact Eq.refl true):X S d m l (.Call (.Attribute (.Name x px) name p2) [] [] pos) κ:=
 ⟨λh k Q A hq=>MethodCall_ (he.run h d k _ A λo h1 k1 ho A1=>by
  subst ho
  exact method_inst A1.F S.gd (InstAt.of_news A1.N1 hX hd) (hM.pg w) (hM.fi w) (hM.fn w) hg (callWith_K0 A1.gd (hM.keep w) (ha.run h1 k1 Q A1 hq))) (Hv rfl hp)⟩
theorem X.geC(h:X S d m l e λv d' l'=>∃a,isI a v/\κ (.bool (decide (a ≥ b))) d' l'):X S d m l (.Compare e [.GtE] [.Constant (.int b) kd p2] pos) κ:=
 ⟨λh9 k Q A hq=>wpAny_Compare1 (h.run h9 k _ A λv1 d' l' h1 k1 ⟨a,⟨t,e⟩,z⟩ A1=>by
  subst e
  exact wpAny_Constant_int (ge_int (hq _ _ _ h1 _ z A1))) rfl⟩
end
structure E6(C:Addr)(name:Str):Prop where
 sa:∀w:World,findIn (hd.heap_39 w.params) (.ref C) (Str.ofString "__setattr__")=some (some (.builtin "object.__setattr__"))
 po:∀w:World,plainOver (hd.heap_39 w.params) C=true
 ti:∀w:World,takerIn (hd.heap_39 w.params) C name=some none
 hdi:∀w:World,hasDictIn (hd.heap_39 w.params) C=true
structure Gu(C fI:Addr):Prop where
 mks:∀w:World,makesIn (hd.heap_39 w.params) C=true
 fi:∀w:World,findIn (hd.heap_39 w.params) (.ref C) (Str.ofString "__init__")=some (some (.ref fI))
 ty:∀w:World,typeIn (hd.heap_39 w.params) (.ref fI)=some (.type "function")
theorem Uh:E6 301 (Str.ofString "glyphs"):=⟨λw=>by k_is,λw=>by k_is,λw=>by k_is,λw=>by k_is⟩
theorem En:Gu 301 277:=⟨λw=>by k_is,λw=>by k_is,λw=>by k_is⟩
theorem Here.under(H:Here w A (k+1) h₀ L):Here w (A.under (.builtin "type.__call__" ⟨.ref C::vs,[]⟩)) k h₀ L:=by
 refine H.on λp loose mean mg mb env outer A₀ base B X T hh hf hfr hke hd hu=> ?_
 refine .of B X T hh ?_ hfr hke ?_ ?_
 ·exact hf
 ·rw [depth_under_make];exact zn3 88604346307872564072737 rfl hd
 ·show A.units+Code.cUnits _+8*k<_
  have:Code.cUnits (.builtin "type.__call__" ⟨.ref C::vs,[]⟩)<=8:=by
   exact nLe rfl
  exact zn4 731791052518342484480398927221025 rfl hu this
noncomputable def Ini(w:World)(C fI:Addr)(k:Nat)(vs:List Value)(PO:Addr->Addr->Obj->Prop):Prop:=
 ∀x dx:Addr,x≠dx->Tel w fI k ⟨.ref x::vs,[]⟩ [(dx,dictOf [] 0)] [(x,instObj C dx)] λv mu' new=>v= .none/\new= []/\∃o,mu'= [(dx,o)]/\PO x dx o
section
variable {C:Cd}{n:Nat}{w:World}{x:Str}{px pos p2 p3 p4:Pos}{e e0 e1 e2:PySem.Expr}{es:List PySem.Expr}{rest:List Stmt}{rs:List (List Stmt)}{S:Si C n w}{K:Flow->Shared->Prop}{d:Drawn}{m:Loc}{l r:Led}{a b i:Int}{t:Tok}{v:Value}{vs its:List Value}{P:Value->Prop}{κ:Value->Drawn->Led->Prop}{cN kd:Nat}{X0 dx D T:Addr}{ns gs:List Int}{g:Obj->Led}{Cl f:Addr}{des:List DictEntry}{name:Str}{PO:Addr->Addr->Obj->Prop}{j:Nat}
theorem W.setAttr(hS:E6 Cl name)(hs:∀l,Ev S m l (.Name x px) (· = .ref X0))(hl:(getL name des).isSome=true)
  (he:X S d m l e λv d' l'=>(X0,instObj Cl dx)∈l'/\∃g,U dx (dictOf des cN) l' g/\∃(q:Tok->List DictEntry) (n':Nat),(∀tk,(putL name (PyData.keyHash w.params name) (.str name tk) v des,putN name des cN)=(q tk,n')/\(q tk).length<=1000)/\∀tk,W S K d' m (g (dictOf (q tk) n')) rest rs)
  (ok:Af e=true:=by exact Eq.refl true):W S K d m l (.Assign [.Attribute (.Name x px) name pos] e p2::rest) rs:=
 ⟨λh k A=>wpAny_execs_cons (plainObj_wpAny_Assign_Attribute (he.run h k _ A λv d' l' h1 k1 z9 A1=>z9.2.elim λg z9'=>z9'.2.elim λq z9''=>z9''.elim λn' z8=>(hs l').run h1 d' k1 _ A1 λo h2 k2 ho A2=>by
  subst ho
  exact set_dict A2.F S.gd A2.N (InstAt.of_news A2.N1 z9.1 z9'.1.mem) rfl (hS.sa w) (hS.po w) (hS.ti w) (hS.hdi w) hl (z8.1 _).1 (Ih (A2.updF z9'.1) _) (z8.1 _).2 λh' F' N'=>(z8.2 _).run h' _ (A2.upd z9'.1 F' N')) (Cg ok))⟩
theorem CX.cls(hM:Gu Cl f)(hI:Ini w Cl f j vs PO)(h:∀X dx o,PO X dx o->(∀p∈l,p.1<dx)->dx<X->κ (.ref X) d ((X,instObj Cl dx)::(dx,o)::l))(hk:decide (j+1<=n)=true:=by exact Eq.refl true):CX S d m l (.ref Cl) vs κ:=
 ⟨λh9 k Q A hq=>wpAny_call (PySem.W.make_K A.F A.N A.gd (hM.mks w) (hM.fi w) (hM.ty w) λx dx h1 F N hlt hdx=>by
  have A1:=(A.new (h':=h1) (o:=dictOf [] 0) F (λp hp=>N p (.tail _ hp)) hlt).new F N (λp hp=>(lC hp).elim (λe=>e▸hdx) λhp=>Nat.lt_trans (hlt p hp) hdx)
  refine hI x dx (Nat.ne_of_gt hdx) _ S.h₀ S.L m (l++S.own) _ _ (S.less (of_decide_eq_true hk)).under F (λp hp=>N p ?_) (λp hp q hq=> ?_) λv mu' new h' tk' F' N' hlt' hne hP=> ?_
  ·rcases lC hp with e | hp
   ·exact e▸ .tail _ (.head _)
   rcases lC hp with e | hp
   ·exact e▸ .head _
   ·exact .tail _ (.tail _ hp)
  ·rw [List.mem_singleton.mp hq]
   rcases lC hp with e | hp
   ·rw [e];exact Nat.ne_of_gt hdx
   ·exact Nat.ne_of_lt (hlt p hp)
  obtain ⟨rfl,rfl,o,rfl,ho⟩:=hP
  refine ⟨rfl,hq _ _ _ _ _ (h x dx o ho (λp hp=>hlt p (lL _ hp)) hdx) ⟨F',λp hp=>N' p ?_,?_,?_⟩⟩
  ·rcases lC hp with e | hp
   ·exact e▸ .tail _ (.head _)
   rcases lC hp with e | hp
   ·exact e▸ .head _
   ·exact .tail _ (.tail _ hp)
  ·exact Fh (l:=(x,instObj Cl dx)::(dx,dictOf [] 0)::l) rfl A1.D
  ·intro p hp q hq
   rcases lC hq with e | hq
   ·exact e▸A1.O p hp _ (.head _)
   rcases lC hq with e | hq
   ·rw [e];exact A1.O p hp (dx,dictOf [] 0) (.tail _ (.head _))
   ·exact A1.O p hp q (.tail _ (.tail _ hq)))⟩
end
end
example:Fl:=by walk_at "zF"
section
example:True:=by
 k_with_none
 k_with "mem"=>repeat (first | exact List.Mem.head _ | apply List.Mem.tail)
 k_with "ev"=>first
  | exact Ev.nameI rfl
  | exact Ev.nameV rfl
  | exact Ev.nameI (by assumption)
  | exact Ev.nameV (by assumption)
  | exact Ev.int
  | (refine' Ev.itemN ?q1 Ev.int ?im ?iv ?ip;(case q1=>walk_at "ev");(case im=>walk_at "mem");(case iv=>exact rfl);(case ip=>first | exact ⟨_,rfl⟩ | exact rfl))
  | (refine' Ev.add ?q1 ?q2;(case q1=>walk_at "ev");(case q2=>walk_at "ev"))
  | (refine' Ev.sub ?q1 ?q2;(case q1=>walk_at "ev");(case q2=>walk_at "ev"))
  | (refine' Ev.min ?q1 ?q2;(case q1=>walk_at "ev");(case q2=>walk_at "ev"))
 trivial
noncomputable abbrev Gf(n:Nat)(vs:List Value):Obj:= {cls:= .type "tuple",data:= .seq vs.toArray n}
section
variable {prog:Program}{w:World}{A:Around}{E:Value->Shared->Prop}{s:Shared}{h₀:Heap}{L:Addr}{m:Str->Option Value}{news rest:List (Addr×Obj)}{T:Addr}{vs:List Value}{gs:List Int}
theorem Ps(x k:Int)(h:true=decide (0<k)):k* (x/k)<=x:=Int.mul_ediv_self_le (Int.ne_of_gt (of_decide_eq_true h.symm))
theorem Pr(x k:Int)(h:true=decide (0<k)):x<k* (x/k)+k:=Int.lt_mul_ediv_self_add (of_decide_eq_true h.symm)
theorem V2{nT:Nat}{value slice:PySem.Expr}{k:Int}{u:Tok}{Q:Value->Shared->Prop}(N:News h₀ L s.heap news)(hm:Pick news (T,Gf nT vs) rest)(hI:IntsAre vs gs)
  (h0:0<=k)(hk:k<gs.length)(hsz:gs.length<1000)(h:∀x t,gs[k.toNat]?=some x->Q (.int x t) s)
  (hs:subscripted slice false (.ref T) (.int k u)=operate [.ref T,.int k u] (getItem (.ref T) (.int k u)):=by with_unfolding_all rfl):
  wpAny (model prog w) A (subscriptTail value slice (.ref T) (.int k u)) Q E s:=by
 have z:=(N _ (hm.sub _ (.head _))).1
 have hT:s.TypeIs (.ref T) "tuple":=⟨_,z,rfl⟩
 have hkn:k.toNat<gs.length:=lin [_,_] [_] 839043611296301345 rfl hk (iTo (zi1 11044661541 rfl h0))
 obtain ⟨t,ht⟩:=hI.get k.toNat gs[k.toNat] (by simp [hkn])
 have hl:=IntsAre.length hI
 have hki:seqIndex? k vs.toArray.size=some k.toNat:=by
  unfold seqIndex?
  rw [List.size_toArray,hl]
  dsimp only
  rw [if_neg (show ¬k<0 by exact zi1 11044978985 rfl h0),if_pos (by simp only [Bool.and_eq_true,decide_eq_true_eq];exact ⟨zi1 11044661541 rfl h0,lin [_] [_] 25298633195814 rfl hk⟩)]
 exact tail_any hT slot_tuple_getitem.lookup (getItem_meets hT (by decide) slot_tuple_getitem entry_tuple_getitem (args_tuple_getitem _ _) (MeetsSeq.tuple_getitem_at T _ nT k u k.toNat _ (by exact zi2 1152922271522058337811749 rfl h0 p63) (by exact lin [_] [_,_] 2596879439243777076592486229875917094 rfl hk hsz p63) hki (by simpa using ht)) ⟨z,h _ t (by simp [hkn])⟩) hs
theorem Md(N:News h₀ L s.heap news)(hm:Pick news (T,Ap vs) rest)(hI:IntsAre vs gs)(hsz:gs.length<1000)
  (h:∀t tk,Q (.int gs.length t) {s with toks:=tk}):wpAny (model prog w) A (call (.builtin "len") [.ref T]) Q E s:=by
 have z:=(N _ (hm.sub _ (.head _))).1
 have hl:=IntsAre.length hI
 refine len_tuple (items:=vs.toArray) ?_ (by rw [List.size_toArray];exact lin [_,_] [_] 1267651443460043910945395966237236518 rfl hsz hl p63) ?_
 ·exact ⟨_,z,rfl,0,rfl⟩
 ·rw [List.size_toArray,hl];exact h _ _
end
structure E4 where
 lo:Int
 hi:Int
 tl:Tok
 th:Tok
noncomputable def C1(gs:List Int)(g:Int)(c:E4):Prop:=
 0<=c.lo/\c.lo<=c.hi/\c.hi<=gs.length/\(∀(i:Nat) (x:Int),gs[i]?=some x->(i:Int)<c.lo->x<g)/\(∀(i:Nat) (x:Int),gs[i]?=some x->c.hi<= (i:Int)->g<=x)
noncomputable abbrev Al(w:World)(X dx T:Addr)(tk:Tok)(vs:List Value):List (Addr×Obj):= [(X,instObj 301 dx),(dx,Ed w tk T),(T,Ap vs)]
noncomputable def IndexIs(gs:List Int)(g r:Int):Prop:=(∃i:Nat,r=i/\gs[i]?=some g)\/(r= -1/\g∉gs)
theorem Hk{a b:Int}(h0:0<=a)(h:a<b):a<= (a+b).fdiv 2/\(a+b).fdiv 2<b:=by
 rw [Int.fdiv_eq_ediv_of_nonneg _ (by decide)]
 exact ⟨zi3 14573963164583006308434245 rfl h (Pr _ 2 rfl),zi3 1277464370895873147206 rfl h (Ps _ 2 rfl)⟩
theorem D0{gs:List Int}(hs:gs.Pairwise (· < ·)){i j:Nat}{x y:Int}(hx:gs[i]?=some x)(hy:gs[j]?=some y)(h:i<j):x<y:=by
 obtain ⟨h1,e1⟩:=List.getElem?_eq_some_iff.mp hx
 obtain ⟨h2,e2⟩:=List.getElem?_eq_some_iff.mp hy
 have:=List.pairwise_iff_getElem.mp hs i j h1 h2 h
 rwa [e1,e2] at this
theorem getD_at{gs:List Int}{i:Nat}(h:i<gs.length):gs[i]?=some (gs.getD i 0):=by rw [List.getD_eq_getElem?_getD,List.getElem?_eq_getElem h];rfl
theorem Pw{gs:List Int}{g:Int}{c:E4}{tl th:Tok}(hs:gs.Pairwise (· < ·))(h:C1 gs g c)(hlt:c.lo<c.hi)(hg:gs.getD ((c.lo+c.hi).fdiv 2).toNat 0<g):
  C1 gs g ⟨(c.lo+c.hi).fdiv 2+1,c.hi,tl,th⟩/\(c.hi- ((c.lo+c.hi).fdiv 2+1)).toNat< (c.hi- c.lo).toNat:=by
 obtain ⟨g1,g2,g3,g4,g5⟩:=h
 obtain ⟨m1,m2⟩:=Hk g1 hlt
 generalize (c.lo+c.hi).fdiv 2=md at*
 have hmd:=getD_at (gs:=gs) ((Int.toNat_lt (Int.le_trans g1 m1)).mpr (Int.lt_of_lt_of_le m2 g3))
 refine ⟨⟨by show (0:Int)<=md+1;exact zi2 1482856671776221477 rfl g1 m1,by show md+1<=c.hi;exact zi2 35500097294629 rfl m2,g3,λi x hx hi=> ?_,g5⟩,by exact lin [_,_] [_,_,_] 3490762176036562131049320060846369 rfl m1 (iTo (zi2 1449536028092709 rfl m2)) (iTo (zi2 1415226009893 rfl hlt))⟩
 have hi':(i:Int)<md+1:=hi
 by_cases e:i=md.toNat
 ·rw [e,hmd] at hx
  exact sJ hx▸hg
 ·have:=D0 hs hx hmd (by exact zn2 34662809889 rfl (Nat.lt_of_le_of_ne (lin [_,_] [_] 2037476907133643555104 rfl hi' (iTo (lin [_] [_] 12406914212178213 rfl hi'))) e))
  exact Int.lt_trans this hg
theorem Pv{gs:List Int}{g:Int}{c:E4}{tl th:Tok}(hs:gs.Pairwise (· < ·))(h:C1 gs g c)(hlt:c.lo<c.hi)(hg:¬gs.getD ((c.lo+c.hi).fdiv 2).toNat 0<g):
  C1 gs g ⟨c.lo,(c.lo+c.hi).fdiv 2,tl,th⟩/\((c.lo+c.hi).fdiv 2- c.lo).toNat< (c.hi- c.lo).toNat:=by
 obtain ⟨g1,g2,g3,g4,g5⟩:=h
 obtain ⟨m1,m2⟩:=Hk g1 hlt
 generalize (c.lo+c.hi).fdiv 2=md at*
 have hmd:=getD_at (gs:=gs) ((Int.toNat_lt (Int.le_trans g1 m1)).mpr (Int.lt_of_lt_of_le m2 g3))
 refine ⟨⟨g1,m1,by show md<=gs.length;exact lin [_] [_,_] 37224528052990214437 rfl g3 m2,g4,λi x hx hi=> ?_⟩,by exact lin [_,_] [_,_,_] 83270935241254174635891158450465 rfl m2 (iTo (zi2 1414152268069 rfl m1)) (iTo (zi2 1415226009893 rfl hlt))⟩
 have hi':md<= (i:Int):=hi
 by_cases e:i=md.toNat
 ·rw [e,hmd] at hx
  exact sJ hx▸Int.not_lt.mp hg
 ·have:=D0 hs hmd hx (Nat.lt_of_le_of_ne (Int.toNat_le.mpr hi') (Ne.symm e))
  exact Int.le_trans (Int.not_lt.mp hg) (Int.le_of_lt this)
theorem Pu(h:C1 gs g c)(hx:gs[c.lo.toNat]?=some x)(e:x=g):IndexIs gs g c.lo:=
 .inl ⟨c.lo.toNat,(iTo h.1).symm,by rw [hx,e]⟩
theorem Px{gs:List Int}{g:Int}{c:E4}(hs:gs.Pairwise (· < ·))(h:C1 gs g c)(hn:¬c.lo<c.hi)(hx:∀x,gs[c.lo.toNat]?=some x->x≠g):IndexIs gs g (-1):=by
 obtain ⟨g1,g2,g3,g4,g5⟩:=h
 refine .inr ⟨rfl,λhm=> ?_⟩
 obtain ⟨i,hi,e⟩:=List.getElem_of_mem hm
 have hi':gs[i]?=some g:=by rw [List.getElem?_eq_some_iff];exact ⟨hi,e⟩
 by_cases h1:(i:Int)<c.lo
 ·exact absurd (g4 i g hi' h1) (Int.lt_irrefl _)
 ·by_cases h2:i=c.lo.toNat
  ·rw [h2] at hi';exact hx g hi' rfl
  ·have hle:c.lo.toNat<=i:=Int.toNat_le.mpr (Int.not_lt.mp h1)
   have hl:c.lo.toNat<gs.length:=Nat.lt_of_le_of_lt hle hi
   have h3:gs[c.lo.toNat]?=some gs[c.lo.toNat]:=by simp [hl]
   have h4:=D0 hs h3 hi' (Nat.lt_of_le_of_ne hle (Ne.symm h2))
   have h5:=g5 c.lo.toNat _ h3 (Int.le_trans (Int.not_lt.mp hn) (Int.self_le_toNat _))
   exact absurd h5 (Int.not_le.mpr h4)
section
variable {C:Cd}{n:Nat}{w:World}{x:Str}{px pos p2:Pos}{e e1 e2:PySem.Expr}{S:Si C n w}{d:Drawn}{m:Loc}{l:Led}{a i:Int}{vs:List Value}{T:Addr}{gs:List Int}
theorem As{α:Type}{a:α}:∀ {l:List α},a∈l->∃r,Pick l a r
 | b::l,h=>(lC h).elim (λe=>⟨l,e▸ .here⟩) λh=>let ⟨r,p⟩:=As h;⟨b::r,.there p⟩
theorem Ev.tupItem{nT:Nat}(he:Ev S m l e1 (· = .ref T))(hi:Ev S m l e2 (isI i))(hm:(T,Gf nT vs)∈l)(hI:IntsAre vs gs)(h0:0<=i)(hl:gs.length<1000)(hx:gs[i.toNat]?=some a)(ok:Af e2=true:=by exact Eq.refl true):Ev S m l (.Subscript e1 e2 pos) (isI a):=by
 obtain ⟨r,hp⟩:=As hm
 exact ⟨λh d k Q A hq=>Subscript_ (he.run h d k _ A λv1 h1 k1 hv1 A1=>hi.run h1 d k1 _ A1 λv2 h2 k2 ⟨u,hv2⟩ A2=>by
  subst hv1 hv2
  have hk:=(List.getElem?_eq_some_iff.mp hx).1
  exact kba_turn (value':=PySem.Expr.Name (Str.ofString "_") ⟨0,0,0,0⟩) (λV=>rfl) (V2 A2.N1 hp hI h0 (by omega) hl (λy t hy=>by rw [hx] at hy;exact hq _ _ _ ⟨t,by rw [Option.some.inj hy]⟩ A2) (D7 ok)))⟩
theorem Ev.tupLen(he:Ev S m l e (· = .ref T))(hm:(T,Ap vs)∈l)(hI:IntsAre vs gs)(hl:gs.length<1000)(ok:okB C (Str.ofString "len") [e]=true:=by exact Eq.refl true):Ev S m l (.Call (.Name (Str.ofString "len") p2) [e] [] pos) (isI gs.length):=by
 obtain ⟨r,hp⟩:=As hm
 exact Ev.b1 G4 he (λv hv d=>⟨λh k Q A hq=>by
  subst hv
  exact Md A.N1 hp hI hl λt tk=>hq _ _ _ _ _ ⟨⟨_,rfl⟩,rfl,rfl⟩ A⟩) ok
end
section
variable {C:Cd}{n:Nat}{w:World}{x y:Str}{px py pos p2 p3:Pos}{e e1 e2:PySem.Expr}{rest:List Stmt}{rs:List (List Stmt)}{S:Si C n w}{K:Flow->Shared->Prop}{d:Drawn}{m:Loc}{l r:Led}{a b:Int}{κ:Value->Drawn->Led->Prop}{κb:Prop->Drawn->Led->Prop}{kd:Nat}{P1 P2:Value->Prop}
theorem X.tup2(h1:Ev S m l e1 P1)(h2:Ev S m l e2 P2)(h:∀T v1 v2,P1 v1->P2 v2->(∀p∈l,p.1<T)->κ (.ref T) d ((T,Ap [v1,v2])::l))(ok:(Au e1&&Au e2)=true:=by exact Eq.refl true):X S d m l (.Tuple [e1,e2] kd pos) κ:=
 ⟨λh9 k Q A hq=>Tuple_ (args_cons (h1.run h9 d k _ A λv1 h1' k1 p1 A1=>args_cons (h2.run h1' d k1 _ A1 λv2 h2' k2 p2 A2=>args_nil (kup_newTuple A2.F A2.N (λT h' F N hlt=>hq _ _ _ _ _ (h T v1 v2 p1 p2 λp hp=>hlt p (lL _ hp)) (A2.new F N hlt)) (by rw [sizeLine_eq];exact nLe rfl))) (Ad ((Bool.and_eq_true _ _).mp ok).2)) (Ad ((Bool.and_eq_true _ _).mp ok).1))⟩
theorem W.unpack2(he:X S d m l e λv d' l'=>∃T v1 v2,v= .ref T/\(T,Ap [v1,v2])∈l'/\W S K d' (mN y v2 (mN x v1 m)) l' rest rs)(hx:locOk C x=true:=by exact Eq.refl true)(hy:locOk C y=true:=by exact Eq.refl true)
  (hs:∀S:Si C n w,swapsWithSole [.Tuple [.Name x px,.Name y py] kd p2] e pos.line S.env=pure false:=by intro _;rfl)(hw:∀S:Si C n w,swappedStores [.Tuple [.Name x px,.Name y py] kd p2] e S.env=pure none:=by intro _;rfl):W S K d m l (.Assign [.Tuple [.Name x px,.Name y py] kd p2] e pos::rest) rs:=
 ⟨λh9 k A=>wpAny_execs_cons (Assign_Tuple (he.run h9 k _ A λv d' l' h1 k1 z9 A1=>by
  obtain ⟨T,v1,v2,ev,hT,z⟩:=z9
  subst ev
  exact unpackN_ (items:= #[v1,v2]) A1.F A1.N ⟨_,(A1.N1 _ hT).1,rfl,_,rfl⟩ S.hh rfl rfl λh2 F2 N2=>assignInOrder_cons (PyProof.Rows.assign_Name (Si.store ⟨F2,N2,A1.D,A1.O⟩ hx λh3 k3 A3=>assignInOrder_cons (PyProof.Rows.assign_Name (Si.store A3 hy λh4 k4 A4=>wpAny_pure (z.run h4 k4 A4)))))) (hs S) (hw S))⟩
theorem XB.ne(h:X S d m l e1 λv d' l'=>∃a b,isI a v/\Ev S m l' e2 (isI b)/\κb (a≠b) d' l')(hm:Af e2=true:=by exact Eq.refl true):XB S d m l (.Compare e1 [.NotEq] [e2] pos) κb:=
 ⟨λh9 k Q A hq=>wpAny_isTrue_Compare1 (h.run h9 k _ A λv1 d' l' h1 k1 z9 A1=>z9.elim λa z9=>z9.elim λb z9=>z9.2.1.run h1 d' k1 _ A1 λv2 h2 k2 z8 A2=>by
  obtain ⟨t,ev⟩:=z9.1
  obtain ⟨t2,ev2⟩:=z8
  have z2:=z9.2.2
  subst ev ev2
  exact PyProof.Rows.ne_int (wpAny_truthy_bool (hq _ _ d' l' h2 _ bne_iff_ne z2 A2))) (C6 hm)⟩
end
theorem Vm{w:World}{X dx T:Addr}{tk0 tg:Tok}{vs:List Value}{gs:List Int}{g:Int}(hi:IntsAre vs gs)(hs:gs.Pairwise (· < ·))(hl:gs.length<=120):
  Tel w 284 6 ⟨[.ref X,.int g tg],[]⟩ [] (Al w X dx T tk0 vs)
   (λv mu' new=>∃r t,v= .int r t/\mu'= []/\new= []/\IndexIs gs g r):=by
 refine' Cn (j:=5) [(Str.ofString "self",.ref X),(Str.ofString "glyph",.int g tg)] ?k6 ?k7 ?k9 ?kB ?kn ?_ ?c2 ?c3 ?c4 ?c5
 case k6=>k_is
 case k7=>k_is
 case k9=>exact λV V=>BindsTo.of_eq rfl
 case kB=>exact locs rfl
 case kn=>exact Eq.refl true
 case c2=>exact rfl
 case c3=>exact rfl
 case c4=>exact rfl
 case c5=>decide
 intro S K d m l₁ v1 v2 hro hK hN
 have h1:=hro _ (.head _)
 have h2:=hro _ (.tail _ (.head _))
 have h3:=hro _ (.tail _ (.tail _ (.head _)))
 have hl':gs.length<1000:=Nat.lt_of_le_of_lt hl (by decide)
 have R:∀r t,IndexIs gs g r->Rt S K d l₁ (.int r t):=λr t h=>hK _ _ _ ⟨r,t,rfl,rfl,rfl,h⟩ (λV h=>no h) λV h=>h
 refine W.assignI Ev.int λtl=>W.assignI (Ev.tupLen (Ev.attr Bl (Ev.nameV v1) h1 h2 rfl rfl) h3 hi hl') λth=> ?_
 refine W.while (λj G=>∀(u:Loc) lo hi' tl th,u "self"=some (.ref X)->u "glyph"=some (.int g tg)->u "low"=some (.int lo tl)->u "high"=some (.int hi' th)->C1 gs g ⟨lo,hi',tl,th⟩->(hi'- lo).toNat=j->G u l₁) _
  (λi G h u lo hi' tl th a1 a2 a3 a4 a5 a6=>h _ _ λG' h'=>h' u lo hi' tl th a1 a2 a3 a4 a5 a6)
  (λG h=>h _ 0 gs.length tl th v1 v2 rfl rfl ⟨Int.le_refl _,Int.natCast_nonneg _,Int.le_refl _,λi x V h=>absurd (h:((i:Nat):Int)<0) (Int.not_lt.mpr (Int.natCast_nonneg i)),λi x hx h=>by
   have h1:=(List.getElem?_eq_some_iff.mp hx).1
   exact absurd (Int.ofNat_le.mp h) (Nat.not_le.mpr h1)⟩ rfl) ?_
 intro K' j hr hn u lo hi' tl th u1 u2 u3 u4 hok hj
 have hok':=hok
 obtain ⟨g1,g2,g3,g4,g5⟩:=hok'
 dsimp only at g1 g2 g3
 refine ⟨_,Bv.lt (Ev.nameI u3) (Ev.nameI u4),λhlt=> ?_,λhlt=> ?_⟩
 ·refine W.assignI (Ev.div (Ev.add (Ev.nameI u3) (Ev.nameI u4)) Ev.int (by decide) (by decide)) λtm=> ?_
  obtain ⟨m1,m2⟩:=Hk g1 hlt
  have hx:=getD_at (gs:=gs) ((Int.toNat_lt (Int.le_trans g1 m1)).mpr (Int.lt_of_lt_of_le m2 g3))
  refine W.ite (Bv.lt (Ev.tupItem (Ev.attr Bl (Ev.nameV u1) h1 h2 rfl rfl) (Ev.nameI rfl) h3 hi (Int.le_trans g1 m1) hl' hx) (Ev.nameI u2)) (λhc=> ?_) (λhc=> ?_)
  ·refine W.assignI (Ev.add (Ev.nameI rfl) Ev.int) λtl'=>W.nil ?_
   have z:=Pw (tl:=tl') (th:=th) hs hok hlt hc
   exact hn _ (hj▸z.2) _ _ _ _ _ u1 u2 rfl u4 z.1 rfl
  ·refine W.assignI (Ev.nameI rfl) λth'=>W.nil ?_
   have z:=Pv (tl:=tl) (th:=th') hs hok hlt hc
   exact hn _ (hj▸z.2) _ _ _ _ _ u1 u2 u3 rfl z.1 rfl
 ·refine W.via (λG=>(∀x,gs[lo.toNat]?=some x->x≠g)->G u d l₁) (λhx=>W.retI Ev.intN λt=>R _ _ (Px hs hok hlt hx)) λJ=> ?_
  by_cases hb:lo<gs.length
  ·have hx:=getD_at (gs:=gs) ((Int.toNat_lt g1).mpr hb)
   refine W.ite (Bv.and (Bv.lt (Ev.nameI u3) (Ev.tupLen (Ev.attr Bl (Ev.nameV u1) h1 h2 rfl rfl) h3 hi hl')) λV=>Bv.eq (Ev.tupItem (Ev.attr Bl (Ev.nameV u1) h1 h2 rfl rfl) (Ev.nameI u3) h3 hi g1 hl' hx) (Ev.nameI u2)) (λhc=> ?_) (λhc=>W.nil (J λx hy e=> ?_))
   ·exact W.retI (Ev.nameI u3) λt=>R _ _ (Pu hok hx hc.2)
   ·rw [hx] at hy
    exact hc ⟨hb,(sJ hy).trans e⟩
  ·refine W.ite (Bv.and (q:=False) (Bv.lt (Ev.nameI u3) (Ev.tupLen (Ev.attr Bl (Ev.nameV u1) h1 h2 rfl rfl) h3 hi hl')) λh=>absurd h hb) (λhc=>hc.2.elim) (λhc=>W.nil (J λx hy e=> ?_))
   exact hb ((Int.toNat_lt g1).mp (List.getElem?_eq_some_iff.mp hy).1)
end
example:Fl:=by walk_at "zF"
section
theorem tuple_open(F:Fr h₀ L s.heap m)(N:News h₀ L s.heap news)(hp:Pick news (l,listOf vs.toArray c) rest)(hsz:vs.length<=1000)
  (h:∀T h',Fr h₀ L h' m->News h₀ L h' ((T,Ap vs)::news)->(∀q∈news,q.1<T)->Q (.ref T) {s with heap:=h'}):wpAny (model prog w) A (call (.type "tuple") [.ref l]) Q E s:=by
 refine call_tuple_list (items:=vs.toArray) ⟨_,(N _ (hp.sub _ (.head _))).1,rfl,c,rfl⟩ (λh1 hk=> ?_) (by rw [List.size_toArray,sizeLine_eq];omega)
 have F1:=F.keeps hk
 have N1:News h₀ L h1 news:=λp hp=>⟨hk _ _ (N p hp).1,(N p hp).2⟩
 exact h _ _ (F1.push _) (News.push F1 N1 _ rfl) λq hq=>Heap.lt_size (N1 q hq).1
theorem Ut{kvs:List (Int×Value)}{k:Int}{v:Value}:∀x,x∈(stored kvs k v).map (·.1) ↔ x∈kvs.map (·.1)\/x=k:=by
 intro x
 unfold stored
 split
 ·rename_i h
  have e:(kvs.map (λkv=>if kv.1=k then (kv.1,v) else kv)).map (·.1)=kvs.map (·.1):=by
   rw [List.map_map]
   exact List.map_congr_left λkv V=>by
    show (if kv.1=k then (kv.1,v) else kv).1=kv.1
    split<;>rfl
  rw [e]
  refine ⟨.inl,λh'=>h'.elim id λe=> ?_⟩
  obtain ⟨kv,hm,hk⟩:=List.any_eq_true.mp h
  rw [e,<-of_decide_eq_true hk]
  exact List.mem_map_of_mem hm
 ·rw [List.map_append,List.mem_append,List.map_singleton,List.mem_singleton]
structure IDict(w:World)(o:Obj)(kvs:List (Int×Value)):Prop where
 is:o.IsDictOf (intKind PySem.Challenge.rw_nu0172_01.row.prog w) kvs
 fl:∃D,PyProof.V.FlatPairs PyData.int kvs D
theorem Ei:Fn (Str.ofString "Coverage") (.ref 301):=⟨λw=>by k_is,λw=>by k_is⟩
section
variable {C:Cd}{n:Nat}{w:World}{x:Str}{px pos p2:Pos}{e e1 e2:PySem.Expr}{rest:List Stmt}{rs:List (List Stmt)}{S:Si C n w}{K:Flow->Shared->Prop}{d:Drawn}{m:Loc}{l:Led}{k i:Int}{v:Value}{dv:PyData}{vs:List Value}{T Dd D:Addr}{gs:List Int}{g:Obj->Led}{o:Obj}{kvs:List (Int×Value)}{κ:Value->Drawn->Led->Prop}{P:Value->Prop}{cN:Nat}
theorem X.dict0(h:∀D o,(∀p∈l,p.1<D)->(D==sysModules)=false->IDict w o []->κ (.ref D) d ((D,o)::l)):X S d m l (.Dict [] [] pos) κ:=by
 obtain ⟨p,loose,mg,mb,Tp⟩:=S.top
 exact ⟨λh9 k Q A hq=>newDict_K A.F A.N Tp.nolimit λD h' o F N hlt hsys V V h1 h2=>hq _ _ _ _ _ (h D o (λp hp=>hlt p (lL _ hp)) hsys ⟨h1,_,h2⟩) (A.new F N hlt)⟩
theorem W.setDict(he:Ev S m l e P)(hP:∀v,P v->∃dv,PyProof.V.Flat v dv)(hd:Ev S m l e1 (· = .ref Dd))(hk:Ev S m l e2 (isI k))(U9:U Dd o l g)(h1:IDict w o kvs)(hl:kvs.length<=1000)
  (h:∀v o',P v->IDict w o' (stored kvs k v)->W S K d m (g o') rest rs)(ok:Af e=true:=by exact Eq.refl true):W S K d m l (.Assign [.Subscript e1 e2 pos] e p2::rest) rs:=
 ⟨λh9 k9 A=>wpAny_execs_cons (wpAny_Assign_Subscript (he.run h9 d k9 _ A λv h1' k1 pv A1=>hd.run h1' d k1 _ A1 λv1 h2 k2 hv1 A2=>hk.run h2 d k2 _ A2 λv2 h3 k3 ⟨u,hv2⟩ A3=>by
  subst hv1 hv2
  obtain ⟨dv,hv⟩:=hP v pv
  obtain ⟨D,hf⟩:=h1.fl
  exact setItem_K (knd:=intKind PySem.Challenge.rw_nu0172_01.row.prog w) (enc:=PyData.int) (k:=k) PyProof.V.same_int (intKind_is _ _ _ _) hv A3.F A3.N (A3.updF U9) h1.is hf (λh' o' F' N' a b=>(h v o' pv ⟨a,_,b⟩).run h' _ (A3.upd U9 F' N')) (by rw [PyProof.V.FlatPairs.length hf,sizeLine_eq];omega)) (Cg ok))⟩
theorem CX.sortedDict(hsys:(Dd==sysModules)=false)(hm:(Dd,o)∈l)(h1:IDict w o kvs)(hl:kvs.length<128)(h:∀D vs gs c,(∀p∈l,p.1<D)->IntsAre vs gs->gs.Pairwise (· < ·)->(∀x,x∈gs ↔ x∈kvs.map (·.1))->gs.length=kvs.length->κ (.ref D) d ((D,listOf vs.toArray c)::l)):CX S d m l (.builtin "sorted") [.ref Dd] κ:=
 ⟨λh9 k9 Q A hq=>by
  have hdo:Heap.DictOf (intKind PySem.Challenge.rw_nu0172_01.row.prog w) h9 Dd kvs:=Heap.dictOf_iff.mpr ⟨_,(A.N1 _ hm).1,h1.is⟩
  obtain ⟨ep,hat⟩:=hdo.dictAt
  obtain ⟨p,loose,mg,mb,Tp⟩:=S.top
  refine Um (ns:=kvs.map (·.1)) (kdl_dict (knd:=intKind PySem.Challenge.rw_nu0172_01.row.prog w) (kvs:=kvs) (ep:=ep) hsys) S.hh A.F A.N hat hl (by rw [List.length_map]) ?_ ?_
  ·rintro i v k ⟨k',y,e1,e2⟩ e3
   rw [List.getElem?_map,e1] at e3
   cases e3
   exact Value.isInt_shape e2
  intro D vs2 gs2 c2 h4 tk4 F4 N4 hlt hI2 hperm hsort
  have hnd:(kvs.map (·.1)).Nodup:=h1.is.choose_spec.choose_spec.2.2.2.2
  exact hq _ _ _ _ _ (h D vs2 gs2 c2 (λp hp=>hlt p (lL _ hp)) hI2 (List.Pairwise.imp₂ (λa b h1 h2=>by omega) hsort (hperm.nodup_iff.mpr hnd)) (λx=>hperm.mem_iff) (by rw [hperm.length_eq,List.length_map])) (A.new F4 N4 hlt)⟩
theorem CX.tuple(hm:(D,listOf vs.toArray cN)∈l)(hl:vs.length<=1000)(h:∀T,(∀p∈l,p.1<T)->κ (.ref T) d ((T,Ap vs)::l)):CX S d m l (.type "tuple") [.ref D] κ:=by
 obtain ⟨r,hp⟩:=As hm
 exact ⟨λh9 k9 Q A hq=>tuple_open A.F A.N (hp.app S.own) hl λT h' F N hlt=>hq _ _ _ _ _ (h T λp hp=>hlt p (lL _ hp)) (A.new F N hlt)⟩
end
theorem Ej:Ini w 301 277 4 [.ref T] λV V o=>∃tk,o=Ed w tk T:=by
 intro x dx hne
 refine' De (j:=3) [(Str.ofString "self",.ref x),(Str.ofString "glyphs",.ref T)] ?k6 ?k7 ?k9 ?kB ?kn ?kd ?_ ?c2 ?c3 ?c4 ?c5
 case k6=>k_is
 case k7=>k_is
 case k9=>exact λV V=>BindsTo.of_eq rfl
 case kB=>exact locs rfl
 case kn=>exact Eq.refl true
 case kd=>exact λp hp=>lS hp▸hne
 case c2=>exact rfl
 case c3=>exact rfl
 case c4=>exact rfl
 case c5=>decide
 intro S K d m l₁ v1 v2 hro hK hN
 refine W.setAttr Uh (λV=>Ev.nameV v1) rfl (X.evV (Ev.nameV v2) ⟨.tail _ (hro _ (.head _)),_,.head,λtk=> [{hash:=PyData.keyHash w.params (Str.ofString "glyphs"),key:=Value.str (Str.ofString "glyphs") tk,val:=Value.ref T}],1,λtk=>⟨rfl,nLe rfl⟩,λtk=>W.end (hK _ _ [] _ ⟨rfl,rfl,_,rfl,tk,rfl⟩ (λV h=>no h) λV h=>h) hN⟩)
theorem Vk{w:World}{G:Addr}{cg:Nat}{vg:List Value}{gs:List Int}(hig:IntsAre vg gs)(hgl:gs.length<=120):
  Tel w 312 6 ⟨[.ref G],[]⟩ [] [(G,listOf vg.toArray cg)]
   (λv mu' new=>∃X dx T tk vs hs,v= .ref X/\mu'= []/\new= [(X,instObj 301 dx),(dx,Ed w tk T),(T,Ap vs)]/\IntsAre vs hs/\hs.Pairwise (· < ·)/\(∀x,x∈hs ↔ x∈gs)/\hs.length<=gs.length/\T<dx/\dx<X):=by
 refine' Cn (j:=5) [(Str.ofString "glyphs",.ref G)] ?k6 ?k7 ?k9 ?kB ?kn ?_ ?c2 ?c3 ?c4 ?c5
 case k6=>k_is
 case k7=>k_is
 case k9=>exact λV V=>BindsTo.of_eq rfl
 case kB=>exact locs rfl
 case kn=>exact Eq.refl true
 case c2=>exact rfl
 case c3=>exact rfl
 case c4=>exact rfl
 case c5=>decide
 intro S K d m l₁ v1 hro hK hN
 have hG:=hro _ (.head _)
 refine W.assignX (X.dict0 λDd o0 hD hsys h0=> ?_)
 refine W.forList (λi F=>∀(u:Loc) (o:Obj) (kvs:List (Int×Value)),u "found"=some (.ref Dd)->IDict w o kvs->(∀x:Int,x∈kvs.map Prod.fst ↔ x∈gs.take i)->kvs.length<=i->F u ((Dd,o)::l₁))
  (λi G h u o kvs a1 a2 a3 a4=>h _ _ λG' h'=>h' u o kvs a1 a2 a3 a4) (Ev.nameV v1) hig (λi u o kvs V V V V=> .tail _ hG) (λG h=>h _ o0 [] rfl h0 (λx=>Iff.rfl) (Nat.le_refl _)) ?turn ?done
 case turn=>
  intro S' K' i a t hi hr hn u o kvs u1 a2 a3 a4
  have hlt:=(List.getElem?_eq_some_iff.mp hi).1
  refine W.setDict (P:=(· = .bool true)) Ev.bool (λv hv=>⟨_,hv▸PyProof.V.Flat.bool _⟩) (Ev.nameV u1) (Ev.nameI rfl) .head a2 (by exact zn3 44500953897345282561520412408840480 rfl hgl a4 hlt) λv o' hv h'=>hn _ o' _ u1 h' (λx=> ?_) (nTr (stored_length_le _ _ _) (Nat.succ_le_succ a4))
  rw [Ut,a3,List.take_add_one,hi,List.mem_append]
  exact or_congr Iff.rfl (List.mem_singleton (a:=x) (b:=a)).symm
 case done=>
  intro u o kvs u1 a2 a3 a4
  rw [List.take_length] at a3
  refine W.retX (X.f1 Ei (X.t1 By (X.b1 Jb (X.evV (Ev.nameV u1) (CX.sortedDict hsys (.head _) a2 (by exact zn2 39962252032289809848697782561 rfl hgl a4) λD vs hs c hD2 hi2 hp2 hm2 hl2=>CX.tuple (.head _) (by rw [IntsAre.length hi2];exact zn3 83444410848755539443492384607469856 rfl hgl a4 hl2) λT hT=>CX.cls En Ej λX dx ob ⟨tk,ho⟩ hX hlt=> ?_)))))
  subst ho
  have hDd:∀r∈l₁,r.1<T:=λr hr=>hT r (.tail _ (.tail _ hr))
  have hTd:=hX (T,Ap vs) (.head _)
  exact hK _ _ _ ⟨X,dx,T,tk,vs,hs,rfl,rfl,rfl,hi2,hp2,λx=>(hm2 x).trans (a3 x),by exact zn3 72376489219227936 rfl a4 hl2,hTd,hlt⟩
   (λp hp r hr=>(lC hp).elim (λe=>e▸Nat.lt_trans (Nat.lt_trans (hDd r hr) hTd) hlt) λhp=>(lC hp).elim (λe=>e▸Nat.lt_trans (hDd r hr) hTd) λhp=>lS hp▸hDd r hr)
   (SubL.cons (.head _) (SubL.cons (.tail _ (.head _)) (SubL.cons (.tail _ (.tail _ (.head _))) λp hp=> .tail _ (.tail _ (.tail _ (.tail _ (.tail _ hp)))))))
end
section
section
variable {prog:Program}{w:World}{A:Around}{E:Value->Shared->Prop}{s:Shared}{h₀:Heap}{L:Addr}{m:Str->Option Value}{news:List (Addr×Obj)}{g:Obj->List (Addr×Obj)}
end
theorem Tg(h:x∈rangeKs a n):a<=x/\x<a+n:=by
 unfold rangeKs at h
 obtain ⟨k,hk,rfl⟩:=List.mem_map.mp h
 have:=List.mem_range.mp hk
 exact ⟨lin [_] [_] 772407589 rfl,lin [_,_] [_] 37218933715135123750 rfl this⟩
structure Stop(p:Prop):Prop where
 out:p
theorem Pj(h1:∀x∈gs,0<=x/\x<=65535)(h2:gs.length<=6*i)(h3:0<=gl)(h4:e<=65535)(h5:e<=gl+5):(∀x∈gs++rangeKs gl (e+1- gl).toNat,0<=x/\x<=65535)/\(gs++rangeKs gl (e+1- gl).toNat).length<=6* (i+1):=by
 refine ⟨λx hx=>(lA hx).elim (h1 x) λhx=> ?_,?_⟩
 ·have:=Tg hx;omega
 ·rw [List.length_append,rangeKs_length];omega
theorem U0{w:World}{P C:Addr}{seat rest:Int}{t1 t2:Tok}{n nc:Nat}{cs:List Value}{ns:List Int}(hPC:C≠P)(hi:IntsAre cs ns)(hs0:0<=seat)(hs1:seat<900000)(hr:0<=rest)(hlen:ns.length<=40):
  TelD w 394 6 ⟨[.ref P],[]⟩ [(P,Bb C seat t1 rest t2 n)] [(C,listOf cs.toArray nc)]
   (λv mu' new=>∃D vs gs c seat' rest' t1' t2',v= .ref D/\mu'= [(P,Bb C seat' t1' rest' t2' n)]/\new= [(D,listOf vs.toArray c)]/\IntsAre vs gs/\gs.Pairwise (· < ·)/\(∀x∈gs,0<=x/\x<=65535)/\gs.length<=48/\seat<=seat'/\seat'<=seat+30/\0<=rest'):=by
 refine' Uz (j:=5) [(Str.ofString "pen",.ref P)] ?k6 ?k7 ?k9 ?kB ?kn ?kd ?_ ?c2 ?c3 ?c4 ?c5
 case k6=>k_is
 case k7=>k_is
 case k9=>exact λV V=>BindsTo.of_eq rfl
 case kB=>exact locs rfl
 case kn=>exact Eq.refl true
 case kd=>exact λp hp=>lS hp▸hPC
 case c2=>exact rfl
 case c3=>exact rfl
 case c4=>exact rfl
 case c5=>decide
 intro S K d m l₁ m1 hro hK hN
 have hC:=hro _ (.head _)
 have hpen:Eb cs:=⟨ns,hi,hlen⟩
 have hP0:Bo seat 0 seat rest:=⟨Int.le_refl _,by exact zi1 336199973 rfl,hr⟩
 refine W.assignX (X.menuDraw (lo:=0) (hi:=40) rfl rfl rfl (λV=>Ev.nameV m1) hpen hP0 hC (by exact ⟨zi1 11044661541 rfl hs0,zi1 1062533233741009584033648934 rfl hs1⟩) rfl λx1 tx1 seat1 rest1 t11 t21 x1a x1b hP1=> ?_)
 refine W.via (λG=>∀gl tg seat' rest' t1 t2,0<=gl->gl<=65535->Bo seat 2 seat' rest'->G (mN "glyph" (.int gl tg) m) d ((P,Bb C seat' t1 rest' t2 n)::l₁)) ?j1 ?j2
 case j2=>
  intro J
  exact W.iteX (XB.eqC (X.draw (Ev.nameV m1) Ev.int hpen hP1 hC (by exact ⟨zi1 11044661541 rfl hs0,zi1 1088034031350793814051865514278 rfl hs1⟩) (by decide) λx t seat2 rest2 t12 t22 V V hP2=>⟨x,⟨t,rfl⟩,
   λV=>W.assignI Ev.int λt=>W.nil (W.twice (J _ _ _ _ _ _ (by decide) (by decide) hP2)),λV=>W.nil (J _ _ _ _ _ _ x1a (Int.le_trans x1b (by decide)) hP2)⟩))
 intro gl tg seat2 rest2 t12 t22 g0 g1 hP2
 refine W.assignX (X.list0 λD hD=>W.swap ?_)
 refine W.forRange (X.draw (Ev.nameV m1) Ev.int hpen hP2 (.tail _ hC) (by exact ⟨zi1 11044661541 rfl hs0,zi1 1062533233741009584035746086 rfl hs1⟩) (by decide) λx t seat3 rest3 t13 t23 x0 x9 hP3=> ?_)
 obtain ⟨k,rfl⟩:=Int.eq_ofNat_of_zero_le x0
 have hk8:k<=8:=zn1 20915725861152 rfl x9
 refine ⟨k,⟨t,rfl⟩,by exact zn1 21931728590382727456 rfl x9,Lp.intro (λi G=>∀(u:Loc) gl tg vs gs cc seat' rest' t1 t2,u "pen"=some (.ref P)->u "found"=some (.ref D)->u "glyph"=some (.int gl tg)->Bo seat (2*i+3) seat' rest'->0<=gl->gl<=65535->IntsAre vs gs->(∀x∈gs,0<=x/\x<=65535)->gs.length<=6*i->G u ((P,Bb C seat' t1 rest' t2 n)::(D,listOf vs.toArray cc)::l₁))
  (λi G h u gl tg vs gs cc seat' rest' t1 t2 a1 a2 a3 a4 a5 a6 a7 a8 a9=>h _ _ λG' h'=>h' u gl tg vs gs cc seat' rest' t1 t2 a1 a2 a3 a4 a5 a6 a7 a8 a9) (λi u gl tg vs gs cc seat' rest' t1 t2 V V V V V V V V V=>rfl)
  (λG h=>h _ gl tg [] [] 0 seat3 rest3 t13 t23 m1 rfl rfl hP3 g0 g1 .nil (List.forall_mem_nil _) (Nat.le_refl _)) ?turn ?done⟩
 case turn=>
  intro S' K' i v hi hv _ hn u gl tg vs gs cc seat4 rest4 t14 t24 u1 u2 u3 hP4 g0 g1 g2 g3 g4
  refine W.assignX (X.b2 Ja (X.evI Ev.int λt=>X.addR (by walk_at "ev") (X.menuDraw (lo:=0) (hi:=5) rfl rfl rfl (λV=>Ev.nameV u1) hpen hP4 (.tail _ hC) (by exact ⟨zi1 11044661541 rfl hs0,lin [_,_] [_] 1441255149589719500957356996090031179028255014 rfl hs1 x9 hi⟩) rfl λy ty seat5 rest5 t15 t25 y0 y1 hP5=>⟨y,⟨ty,rfl⟩,λt=>CX.min λz tz hz=> ?_⟩)))
  have hz':z<=65535/\z<=gl+5/\gl<=z:=by omega
  have hst:=Pj g3 g4 g0 hz'.1 hz'.2.1
  refine W.expr (X.extR (Ev.nameV u2) (Ev.nameI u3) (by walk_at "ev") (.tail .head) g2 (by exact ⟨zi1 11044661541 rfl g0,⟨zi1 75557467731408880042277 rfl g1,⟨zi2 1482856671776221477 rfl g0 hz'.2.2,zi1 77370846956962693174546725 rfl hz.1⟩⟩⟩) (by exact zn3 116634997982421500811167197200672 rfl x9 hi g4) λvs' c' hi'=>⟨rfl,?_⟩)
  refine W.assignX (X.b2 Ja (X.evI Ev.int λt=>X.addR (by walk_at "ev") (X.menuDraw (lo:=0) (hi:=4) rfl rfl rfl (λV=>Ev.nameV u1) hpen hP5 (.tail _ hC) (by exact ⟨zi1 11044661541 rfl hs0,lin [_,_] [_] 1475845273179872768980333563996190107603795202342 rfl hs1 x9 hi⟩) rfl λy2 ty2 seat6 rest6 t16 t26 y20 y21 hP6=>⟨y2,⟨ty2,rfl⟩,λt=>CX.min λz2 tz2 hz2=> ?_⟩)))
  exact hn _ z2 tz2 vs' _ c' seat6 rest6 t16 t26 u1 u2 rfl (by unfold Bo at hP6 ⊢;exact ⟨zi2 34667004197 rfl hP6.1,⟨lin [_] [_,_] 483050725575484360687442272789059993893 rfl hP6.2.1,zi1 11044661541 rfl hP6.2.2⟩⟩) (by omega) (by exact zi1 75557467731372740870437 rfl hz2.1) hi' hst.1 hst.2
 case done=>
  intro u gl tg vs gs cc seat4 rest4 t14 t24 u1 u2 u3 hP4 g0 g1 g2 g3 g4
  refine W.retX (X.sortedSet (X.evV (Ev.nameV u2) ⟨_,_,_,_,rfl,.tail _ (.head _),g2,by exact zn2 72546196469396468004454689 rfl x9 g4,λd' D2 vs2 gs2 c2 hD2 hi2 hp2 hm2 hl2=> ?_⟩))
  exact hK _ _ _ _ _ ⟨D2,vs2,gs2,c2,seat4,rest4,t14,t24,rfl,rfl,rfl,hi2,hp2,λx hx=>g3 x ((hm2 x).mp hx),by exact zn3 81486237767675204337342196908320 rfl x9 g4 hl2,hP4.1,by have:=hP4.2.1;exact lin [_] [_,_] 17310818625197435179382573922120237349 rfl x9 this,hP4.2.2⟩
   (λp hp=>lS hp▸⟨hD2 (P,Bb C seat4 t14 rest4 t24 n) (.head _),λr hr=>hD2 r (.tail _ (.tail _ hr))⟩)
   (SubL.cons (.tail _ (.head _)) (SubL.cons (.head _) λp hp=> .tail _ (.tail _ (.tail _ hp))))
end
section
theorem ints_app(hp:IntsAre p a)(hq:IntsAre q b):IntsAre (p++q) (a++b):=by
 induction hp with
 | nil=>exact hq
 | cons n t _ ih=>exact .cons n t ih
theorem Kf{vs:List Value}{ns:List Int}(hi:IntsAre vs ns):∀k:Nat,k<ns.length->∃p q a b n t,vs=p++Value.int n t::q/\ns=a++n::b/\p.length=k/\IntsAre p a/\IntsAre q b:=by
 induction hi with
 | nil=>intro k h;exact absurd h (Nat.not_lt_zero _)
 | cons n t r ih=>
  intro k h
  cases k with
  | zero=>exact ⟨[],_,[],_,n,t,rfl,rfl,rfl,.nil,r⟩
  | succ k=>
   obtain ⟨p,q,a,b,n',t',e1,e2,e3,i1,i2⟩:=ih k (by simpa using h)
   exact ⟨_::p,q,n::a,b,n',t',by rw [e1];rfl,by rw [e2];rfl,by rw [List.length_cons,e3],.cons n t i1,i2⟩
section
variable {prog:Program}{w:World}{A:Around}{E:Value->Shared->Prop}{s:Shared}{h₀:Heap}{L:Addr}{m:Str->Option Value}{news:List (Addr×Obj)}{g:Obj->List (Addr×Obj)}
theorem Sn{D:Addr}{vs:List Value}{ns:List Int}{c:Nat}{i:Int}{u:Tok}{Q:Value->Shared->Prop}(F:Fr h₀ L s.heap m)(N:News h₀ L s.heap news)(U:UpdF D (listOf vs.toArray c) news g)(hi:IntsAre vs ns)
  (h0:0<=i)(hlt:i<ns.length)(hsz:ns.length<=1000)
  (h:∀h' n t vs' ns' c',Fr h₀ L h' m->News h₀ L h' (g (listOf vs'.toArray c'))->IntsAre vs' ns'->(∀x,x∈ns ↔ x=n\/x∈ns')->ns'.length+1=ns.length->Q (.int n t) {s with heap:=h'}):
  wpAny (model prog w) A (call (.builtin "list.pop") [.ref D,.int i u]) Q E s:=by
 obtain ⟨p,q,a,b,n,t,rfl,rfl,hk,i1,i2⟩:=Kf hi i.toNat (by exact lin [_,_] [_] 839043611296301345 rfl hlt (iTo (zi1 11044661541 rfl h0)))
 have hlen:=IntsAre.length hi
 obtain ⟨pre,post,rfl,_⟩:=id U.split
 have z:=(N (D,_) (lR _ (.head _))).1
 have hl1:=IntsAre.length i1
 rw [List.length_append,List.length_cons] at hlt hsz
 have hy:(p++Value.int n t::q).toArray[p.length]?=some (Value.int n t):=by simp
 have hz:(p++Value.int n t::q).toArray.size<=sizeLine:=by rw [List.size_toArray,hlen,sizeLine_eq,List.length_append,List.length_cons];omega
 have hf:Builtin.List.listFitsIndex i=true:=by
  unfold Builtin.List.listFitsIndex
  simp only [decide_eq_true_eq,Bool.and_eq_true]
  exact ⟨zi2 1152922271522058337811749 rfl h0 p63,lin [_,_] [_,_] 2855299139380951428389265459396505864932295737638 rfl hlt hsz p63⟩
 have hki:seqIndex? i (p++Value.int n t::q).toArray.size=some p.length:=by
  unfold seqIndex?
  rw [List.size_toArray,hlen,List.length_append,List.length_cons]
  dsimp only
  rw [if_neg (show ¬i<0 by exact zi1 11044978985 rfl h0),if_pos (by simp only [Bool.and_eq_true,decide_eq_true_eq];exact ⟨zi1 11044661541 rfl h0,lin [_,_] [_] 427507157358537152123339046 rfl hlt⟩),hk]
 obtain ⟨f1,n1⟩:=Cw (h':=s.heap.update D (Obj.mapSeq λxs=>xs.eraseIdxIfInBounds p.length)) F N U (λb x hb e=>(Heap.get?_update_other _ _ (Ne.symm hb)).trans e) (PySem.IsL.update z _)
 refine call_meets PySem.F.slot_list_pop ⟨_,z,rfl⟩ PySem.F.entry_list_pop (PySem.F.args_list_pop_2 _ _) (PySem.MeetsSeq.list_pop_at D _ c i u _ _ hf hki hy hz) ⟨z,?_⟩
 have ee:(p++Value.int n t::q).toArray.eraseIdxIfInBounds p.length=(p++q).toArray:=kl_erase p q _
 rw [ee] at n1
 refine h _ n t (p++q) (a++b) _ f1 n1 (ints_app i1 i2) (λx=> ?_) (by simp only [List.length_append,List.length_cons];exact Ac (zn2 398147053597380896 rfl) (zn2 397465356408475936 rfl))
 simp only [List.mem_append,List.mem_cons]
 constructor
 ·rintro (h | h | h)
  ·exact .inr (.inl h)
  ·exact .inl h
  ·exact .inr (.inr h)
 ·rintro (h | h | h)
  ·exact .inr (.inl h)
  ·exact .inl h
  ·exact .inr (.inr h)
end
section
variable {prog:Program}{w:World}{A:Around}{E:Value->Shared->Prop}{s:Shared}{h₀:Heap}{L:Addr}{m:Str->Option Value}{news:List (Addr×Obj)}{g:Obj->List (Addr×Obj)}
theorem Mh(U:UpdF D o l g):∀o',Upd D o o' l (g o'):=by
 induction U with
 | head h=>exact λo'=> .head h
 | tail h _ ih=>exact λo'=> .tail h (ih o')
theorem Iw{D:Addr}{vs:List Value}{ns:List Int}{c:Nat}{n:Int}{t:Tok}{Q:Value->Shared->Prop}(F:Fr h₀ L s.heap m)(N:News h₀ L s.heap news)(U:UpdF D (listOf vs.toArray c) news g)(hi:IntsAre vs ns)(hsz:ns.length<=1000)
  (h:∀h' vs' c',Fr h₀ L h' m->News h₀ L h' (g (listOf vs'.toArray c'))->IntsAre vs' (ns++ [n])->Q .none {s with heap:=h'}):
  wpAny (model prog w) A (call (.builtin "list.append") [.ref D,.int n t]) Q E s:=by
 have hl:=IntsAre.length hi
 refine append_K F N (Mh U _) (λh' F' N'=> ?_) (by rw [List.size_toArray,hl,sizeLine_eq];omega)
 refine h h' (vs++ [.int n t]) (c+1) F' ?_ (ints_app hi (.cons n t .nil))
 rw [List.push_toArray] at N'
 exact N'
end
section
theorem Kv{gs nr nf nr':List Int}{n:Int}(g7:∀x,x∈gs ↔ x∈nr\/x∈nf)(m9:∀x,x∈nr ↔ x=n\/x∈nr'):∀x,x∈gs ↔ x∈nr'\/x∈nf++ [n]:=by
 intro x
 rw [g7,m9]
 simp only [List.mem_append,List.mem_singleton]
 constructor
 ·rintro ((h | h) | h)
  ·exact .inr (.inr h)
  ·exact .inl h
  ·exact .inr (.inl h)
 ·rintro (h | h | h)
  ·exact .inl (.inr h)
  ·exact .inr h
  ·exact .inl (.inl h)
theorem Rn{gs nr nf nr':List Int}{n:Int}(g7:∀x,x∈gs ↔ x∈nr\/x∈nf)(m9:∀x,x∈nr ↔ x=n\/x∈nr'):∀x,x∈gs ↔ x∈nr'\/x∈(nf++ [n])++ [(nf++ [n]).getD (Int.toNat 0) 0]:=by
 have hg:(nf++ [n]).getD (Int.toNat 0) 0∈nf++ [n]:=by
  cases nf with
  | nil=>exact .head _
  | cons a l=>exact .head _
 intro x
 rw [Kv g7 m9 x,List.mem_append (s:=nf++ [n]),List.mem_singleton]
 constructor
 ·rintro (h | h)
  ·exact .inl h
  ·exact .inr (.inl h)
 ·rintro (h | h | h)
  ·exact .inl h
  ·exact .inr h
  ·rw [h];exact .inr hg
end
section
variable {C:Cd}{n:Nat}{w:World}{x:Str}{px pos p2 p3 p4:Pos}{e e0 e1 e2:PySem.Expr}{S:Si C n w}{K:Flow->Shared->Prop}{d:Drawn}{m:Loc}{l r:Led}{a b i:Int}{t:Tok}{vs its:List Value}{κ:Value->Drawn->Led->Prop}{cN:Nat}{D:Addr}{ns:List Int}{g:Obj->Led}
theorem CX.listCopy(hm:(D,listOf its.toArray cN)∈l)(hl:its.length<=1000)(h:∀R c,(∀p∈l,p.1<R)->κ (.ref R) d ((R,listOf its.toArray c)::l)):CX S d m l (.type "list") [.ref D] κ:=
 ⟨λh9 k Q A hq=>list_copyK A.F A.N (News.isList A.N1 hm) (λR c h' F N hD=>hq _ _ _ _ _ (h R c λp hp=>hD p (lL _ hp)) (A.new F N hD)) (by rw [List.size_toArray,sizeLine_eq];omega)⟩
theorem CX.append(U9:U D (listOf its.toArray cN) l g)(hi:IntsAre its ns)(hl:ns.length<=1000)(h:∀vs' c',IntsAre vs' (ns++ [a])->κ .none d (g (listOf vs'.toArray c'))):CX S d m l (.builtin "list.append") [.ref D,.int a t] κ:=
 ⟨λh9 k Q A hq=>Iw A.F A.N (A.updF U9) hi hl λh' vs' c' F N i9=>hq _ _ _ _ _ (h vs' c' i9) (A.upd U9 F N)⟩
theorem CX.pop(U9:U D (listOf its.toArray cN) l g)(hi:IntsAre its ns)(h0:0<=i)(h1:i<ns.length)(hl:ns.length<=1000)(h:∀y ty vs' ns' c',IntsAre vs' ns'->(∀x,x∈ns ↔ x=y\/x∈ns')->ns'.length+1=ns.length->κ (.int y ty) d (g (listOf vs'.toArray c'))):CX S d m l (.builtin "list.pop") [.ref D,.int i t] κ:=
 ⟨λh9 k Q A hq=>Sn A.F A.N (A.updF U9) hi h0 h1 hl λh' y ty vs' ns' c' F N i9 m9 k9=>hq _ _ _ _ _ (h y ty vs' ns' c' i9 m9 k9) (A.upd U9 F N)⟩
theorem Ev.itemI(hd:Ev S m l e1 (· = .ref D))(hi:Ev S m l e2 (isI i))(hm:(D,listOf its.toArray cN)∈l)(hI:IntsAre its ns)(h0:0<=i)(h1:i<2^63)(hx:ns[i.toNat]?=some a)(ok:Af e2=true:=by exact Eq.refl true):Ev S m l (.Subscript e1 e2 pos) (isI a):=by
 obtain ⟨t,ht⟩:=hI.get _ _ hx
 exact Ev.item hd hi hm h0 h1 ht ⟨t,rfl⟩ ok
end
theorem O4{nf:List Int}{y:Int}:∃x,(nf++ [y])[(0:Int).toNat]?=some x/\(nf++ [y]).getD (Int.toNat 0) 0=x:=by
 cases nf with
 | nil=>exact ⟨_,rfl,rfl⟩
 | cons a l=>exact ⟨_,rfl,rfl⟩
theorem Vp{w:World}{P C G:Addr}{seat rest:Int}{t1 t2:Tok}{n nc cg:Nat}{cs vg:List Value}{ns gs:List Int}(hPC:C≠P)(hGP:G≠P)(hi:IntsAre cs ns)(hig:IntsAre vg gs)(hgl:gs.length<=48)(hs0:0<=seat)(hs1:seat<900000)(hr:0<=rest)(hlen:ns.length<=40):
  Tel w 401 6 ⟨[.ref P,.ref G],[]⟩ [(P,Bb C seat t1 rest t2 n)] [(C,listOf cs.toArray nc),(G,listOf vg.toArray cg)]
   (λv mu' new=>∃D vs hs c seat' rest' t1' t2',v= .ref D/\mu'= [(P,Bb C seat' t1' rest' t2' n)]/\new= [(D,listOf vs.toArray c)]/\IntsAre vs hs/\(∀x,x∈hs ↔ x∈gs)/\hs.length<=96/\seat<=seat'/\seat'<=seat+100/\0<=rest'):=by
 refine' De (j:=5) [(Str.ofString "pen",.ref P),(Str.ofString "glyphs",.ref G)] ?k6 ?k7 ?k9 ?kB ?kn ?kd ?_ ?c2 ?c3 ?c4 ?c5
 case k6=>k_is
 case k7=>k_is
 case k9=>exact λV V=>BindsTo.of_eq rfl
 case kB=>exact locs rfl
 case kn=>exact Eq.refl true
 case kd=>exact λp hp=>(lC hp).elim (λe=>e▸hPC) λhp=>lS hp▸hGP
 case c2=>exact rfl
 case c3=>exact rfl
 case c4=>exact rfl
 case c5=>decide
 intro S K d m l₁ v1 v2 hro hK hN
 have hC:=hro _ (.head _)
 have hG:=hro _ (.tail _ (.head _))
 have hpen:Eb cs:=⟨ns,hi,hlen⟩
 have hP0:Bo seat (2* ((gs.length:Int)- gs.length)) seat rest:=⟨Int.le_refl _,by exact lin [_] [_] 810055260307749 rfl,hr⟩
 have hgv:=IntsAre.length hig
 refine W.assignX (X.t1 Fc (X.evV (Ev.nameV v2) (CX.listCopy (.tail _ hG) (by exact zn2 39964669800918690776268570912 rfl hgl hgv) λR cr hR=>W.swap ?_)))
 refine W.assignX (X.list0 λD hD=>W.swap ?_)
 refine W.while (λj G9=>∀(u:Loc) (vr:List Value) (nr:List Int) (cr:Nat) (vf:List Value) (nf:List Int) (cf:Nat) (seat' rest':Int) (t1 t2:Tok),u "pen"=some (.ref P)->u "rest"=some (.ref R)->u "found"=some (.ref D)->nr.length=j->j<=gs.length->Bo seat (2* ((gs.length:Int)- j)) seat' rest'->IntsAre vr nr->IntsAre vf nf->(∀x,x∈gs ↔ x∈nr\/x∈nf)->nf.length+2*j<=2*gs.length->
   G9 u ((P,Bb C seat' t1 rest' t2 n)::(D,listOf vf.toArray cf)::(R,listOf vr.toArray cr)::l₁)) gs.length
  (λi G h u vr nr cr vf nf cf seat' rest' t1 t2 a1 a2 a3 a4 a5 a6 a7 a8 a9 b1=>h _ _ λG' h'=>h' u vr nr cr vf nf cf seat' rest' t1 t2 a1 a2 a3 a4 a5 a6 a7 a8 a9 b1)
  (λG h=>h _ vg gs cr [] [] 0 seat rest t1 t2 v1 rfl rfl rfl (Nat.le_refl _) hP0 hig .nil (λx=>⟨.inl,λh=>h.elim id λh=>no h⟩) (by show 0+_<=_;exact zn1 25795318048 rfl)) ?turn
 intro K' i hr hn u vr nr cr vf nf cf seat1 rest1 t11 t21 u1 u2 u3 e1 g1 hP1 i1 i2 m1 hl1
 have hv:=IntsAre.length i1
 refine ⟨_,Bv.list (Ev.nameV u2) (.tail _ (.tail _ (.head _))) (by exact zn5 91792731213251891151705481291678401653329527105 rfl hgl e1 hl1 hv),λhne=> ?_,λhne=> ?_⟩
 ·have hpos:0<nr.length:=by rw [<-hv];exact List.length_pos_iff.mpr hne
  refine W.expr (X.lm1 (Ev.nameV u3) (.tail _ (.head _)) PySem.F.slot_list_append PySem.F.type_list_append (X.lm1 (Ev.nameV u2) (.tail _ (.tail _ (.head _))) PySem.F.slot_list_pop PySem.F.type_list_pop
   (X.draw (Ev.nameV u1) (Ev.len (Ev.nameV u2) (.tail _ (.tail _ (.head _))) (by exact zn5 91792731213251891151705481291678401653329527105 rfl hgl e1 hl1 hv)) hpen hP1 (.tail _ (.tail _ hC)) (by exact ⟨zi1 11044661541 rfl hs0,lin [_,_] [_] 39200557265223216488570366736264407264880775462 rfl hgl hs1⟩) (by exact ⟨zn2 1523378865425852710 rfl hv hpos,zn5 2937367398824060516854575401333708819385667312965 rfl hgl e1 hl1 hv⟩) λx tx seat2 rest2 t12 t22 x0 x1 hP2=>
    CX.pop (.tail (.tail .head)) i1 x0 (by exact lin [_,_] [_] 63421027002861977894 rfl hv x1) (by exact zn4 76340373195691176225027020664355823452480 rfl hgl e1 hl1) λy ty vr' nr' cr' i1' mr kr=>CX.append (.tail .head) i2 (by exact zn3 72803734379279148841692061992911136 rfl hgl hl1) λvf' cf' i2'=>⟨rfl,?_⟩)))
  refine W.iteX (XB.eqC (X.draw (Ev.nameV u1) Ev.int hpen hP2 (.tail _ (.tail _ hC)) (by exact ⟨zi1 11044661541 rfl hs0,lin [_,_] [_] 40141370639588573684296055537935089341394961060134 rfl hgl hs1⟩) (by decide) λx tx seat3 rest3 t13 t23 x0 x1 hP3=>⟨x,⟨tx,rfl⟩,λV=> ?_,λV=>W.nil ?_⟩))
  ·obtain ⟨z,hz,hz2⟩:=O4 (nf:=nf) (y:=y)
   refine W.expr (X.lm1 (Ev.nameV u3) (.tail _ (.head _)) PySem.F.slot_list_append PySem.F.type_list_append (X.evI (Ev.itemI (Ev.nameV u3) Ev.int (.tail _ (.head _)) i2' (by decide) (by decide) hz) λtz=>CX.append (.tail .head) i2' (by rw [List.length_append,List.length_singleton];exact zn3 74551024004381848413892671480752263456 rfl hgl hl1) λvf2 cf2 i22=>⟨rfl,W.nil ?_⟩))
   exact hn nr'.length (by exact zn3 86491949738833772833 rfl e1 kr) u vr' nr' cr' vf2 _ cf2 seat3 rest3 t13 t23 u1 u2 u3 rfl (by exact zn5 95098943158268476919023958786368 rfl e1 hl1 kr) (by unfold Bo at hP3 ⊢;exact ⟨zi2 34667004197 rfl hP3.1,⟨lin [_,_,_,_] [_,_] 543431649152666216329230475781004581031915683648766245 rfl e1 kr hP3.2.1,zi1 11044661541 rfl hP3.2.2⟩⟩) i1' i22 (hz2▸Rn m1 mr) (by rw [List.length_append,List.length_append,List.length_singleton,List.length_singleton];exact zn5 149207440373330979088458922188051872586813728 rfl e1 hl1 kr)
  ·exact hn nr'.length (by exact zn3 86491949738833772833 rfl e1 kr) u vr' nr' cr' vf' _ cf' seat3 rest3 t13 t23 u1 u2 u3 rfl (by exact zn5 95098943158268476919023958786368 rfl e1 hl1 kr) (by unfold Bo at hP3 ⊢;exact ⟨zi2 34667004197 rfl hP3.1,⟨lin [_,_,_,_] [_,_] 543431649152666216329230475781004581031915683648766245 rfl e1 kr hP3.2.1,zi1 11044661541 rfl hP3.2.2⟩⟩) i1' i2' (Kv m1 mr) (by rw [List.length_append,List.length_singleton];exact zn5 145710390989581034266073166199269395943712 rfl e1 hl1 kr)
 ·have h0:nr= []:=List.eq_nil_of_length_eq_zero (by rw [<-hv,Classical.not_not.mp hne];rfl)
  subst h0
  exact W.retV (Ev.nameV u3) (hK _ _ _ _ ⟨D,vf,nf,cf,seat1,rest1,t11,t21,rfl,rfl,rfl,i2,λx=>by rw [m1];simp,by exact zn3 72803734379279148841692061044998432 rfl hgl hl1,hP1.1,by have:=hP1.2.1;exact lin [_,_] [_,_] 2396596416974941902969450861771305311142181 rfl hgl this,hP1.2.2⟩
   (λp hp=>lS hp▸⟨hD (P,Bb C seat t1 rest t2 n) (.head _),λr hr=>hD r (.tail _ (.tail _ hr))⟩)
   (SubL.cons (.head _) (SubL.cons (.tail _ (.head _)) λp hp=> .tail _ (.tail _ (.tail _ hp)))))
end
section
open PyProof.Rows.LCg PyProof.Rows.LCt
theorem X.mono(h:X S d m l e κ)(hk:∀v d l,κ v d l->κ' v d l):X S d m l e κ':=⟨λh9 k Q A hq=>h.run h9 k Q A λv d' l' h' k' z=>hq v d' l' h' k' (hk _ _ _ z)⟩
noncomputable def Dp(sc:Scope)(x:Str):Bool:=decide (sc.kind= .function/\(∀y∈sc.names,y.2≠ .cell)/\(∀y∈sc.names,y.2= .local->sc.names.lookup y.1=some .local)/\sc.names.lookup x=some .local/\(x==Str.ofString "__debug__")=false)
noncomputable def C0(sc cs:Scope):Scope:= {sc with names:=sc.names.map λ(n,k)=>if (k== .free&&cs.kind== .function&&cs.names.lookup n==some .cell) then (n,.cell) else (n,k)}
noncomputable def Do(cl:List (Str×Addr)):List (Str×NameKind)->List (Str×Addr)->List (Str×Addr)
 | [],acc=>acc
 | (n,k)::r,acc=>Do cl r (if k= .free then (n,(cl.lookup n).getD 0)::acc else acc)
theorem Jf(h:∀y∈sc.names,y.2= .free->(env.cells.lookup y.1).isSome=true):closureFor sc env=pure (Do env.cells sc.names []):=by
 unfold closureFor
 dsimp only
 generalize ([]:List (Str×Addr))=acc
 revert h acc
 generalize sc.names=ns
 intro h
 induction ns with
 | nil=>intro acc;rfl
 | cons y r ih=>
  intro acc
  obtain ⟨n,k⟩:=y
  rw [List.forIn_cons]
  have ih:=ih λy hy=>h y (.tail _ hy)
  by_cases hk:k= .free
  ·obtain ⟨c,hc⟩:=Option.isSome_iff_exists.mp (h (n,k) (.head _) hk)
   simp only [hk,cellOf,hc,Do,if_pos,beq_self_eq_true,if_true,pure_bind,Option.getD_some]
   exact ih _
  ·have e:(k==NameKind.free)=false:=by cases k<;>first | rfl | exact absurd rfl hk
   simp only [hk,e,Do,if_false,Bool.false_eq_true,pure_bind]
   exact ih _
theorem Dm(h:(sc.names.all λy=>decide (y.2≠ .free))=true:=by exact Eq.refl true):closureFor sc env=pure (Do env.cells sc.names []):=
 Jf λy hy e=>absurd e (of_decide_eq_true (List.all_eq_true.mp h y hy))
theorem Cu(hc:env.cells.lookup y=some c)(h:(sc.names.all λz=>decide (z.2= .free->z.1=y))=true:=by exact Eq.refl true):closureFor sc env=pure (Do env.cells sc.names []):=
 Jf λz hz e=>by rw [of_decide_eq_true (List.all_eq_true.mp h z hz) e,hc];rfl
theorem B9{cl cl':List (Str×Addr)}{y:Str}{c:Addr}(hc:cl.lookup y=some c)(h:cl'.lookup y=some ((cl.lookup y).getD 0)):cl'.lookup y=some c:=by rw [h,hc];rfl
structure Inn{cn cs fa cc n w}(S:Si (P4 cn cs fa cc) n w)(sc:Scope)(x:Str)(v:Value)(cl:List (Str×Addr))(S':Si ⟨cn,C0 sc cs,none,cc⟩ n w):Prop where
 nm:∀m l pos,Ev S' m l (.Name x pos) (· =v)
 cl:S'.cl=cl
 own:∀p∈S.own,p∈S'.own
section
variable {cn:Str}{cs sc:Scope}{fa D Ca I:Addr}{cc:Value}{n:Nat}{w:World}{x y:Str}{px py pos p2:Pos}{ct elt iter:PySem.Expr}{rest:List Stmt}{rs:List (List Stmt)}{S:Si (P4 cn cs fa cc) n w}{K:Flow->Shared->Prop}{d:Drawn}{m:Loc}{l:Led}{vs:List Value}{κ:Value->Drawn->Led->Prop}{oD:Obj}{cl:List (Str×Addr)}{h:Heap}{k:Nat}
noncomputable def Si.inn(S:Si (P4 cn cs fa cc) n w)(sc:Scope)(Ca:Addr)(cl:List (Str×Addr))(o:Led)(E:Value->Shared->Prop):Si ⟨cn,C0 sc cs,none,cc⟩ n w:=
 {A:=S.A,L:=S.L,lc:=Ca,cl:=cl,h₀:=S.h₀,g:=S.g,o:=S.o,E:=E,own:=S.own++o,H:=S.H,hE:=λh=>nbF h}
theorem Ra:∀ {l:List (Str×NameKind)} {x:Str},l.lookup x=some .local->(l.map λ(n,k)=>if (k==NameKind.free&&cs.kind== .function&&cs.names.lookup n==some .cell) then (n,NameKind.cell) else (n,k)).lookup x=some .local:=λh=>lookup_relabel_local (env:=envX (Str.ofString "") cs 0 0 .none []) h
theorem Kc(ok:Dp sc x=true)(hC:(Ca,oC)∈o)(hn:NsObj oC m₂)(hx:m₂ x=some v):Inn S sc x v cl (S.inn sc Ca cl o E):=by
 have ok:=of_decide_eq_true ok
 refine ⟨λm l pos=>⟨λh d k Q A hq=>wpAny_Name (wpAny_loadName_local (show sc.kind=_ from ok.1) (Ra ok.2.2.2.1) (hn.ns (A.N _ (lR _ (lR _ hC))).1) hx (hq _ h k rfl A)) ok.2.2.2.2⟩,rfl,λp hp=>lL _ hp⟩
inductive Src(vs:List Value):Obj->Prop
 | list {c:Nat}:Src vs (listOf vs.toArray c)
 | tup {c:Nat}:Src vs {cls:= .type "tuple",data:= .seq vs.toArray c}
structure It(S:Si (P4 cn cs fa cc) n w)(m:Loc)(l:Led)(Kp:Led->Prop)(cnt:Nat)(P:Nat->Value->Prop)(I:Addr)(fp:List Addr)(St:Nat->Heap->Prop)(h:Heap):Prop where
 W:Walks PySem.Challenge.rw_nu0172_01.row.prog w S.A I fp [I] cnt P St
 obj:∀i h,St i h->∃o,h.get? I=some o
 keep:∀i h h' o nw,St i h->h.get? I=some o->h'.get? I=some o->(∀b o,S.h₀.get? b=some o->h'.get? b=some o)->News S.h₀ S.L h' nw->Kp nw->St i h'
 st:St 0 h
 lt:∀b∈fp,b<h.objs.size
 A:At S h m l
 IL:S.L≠I
 I0:S.h₀.get? I=none
 off:∀p∈l++S.own,p.1≠I
structure Wv(S:Si (P4 cn cs fa cc) n w)(d:Drawn)(m:Loc)(l:Led)(v:Value)(Kp:Led->Prop)(cnt:Nat)(P:Nat->Value->Prop):Prop where
 run:∀h k (Q:Value->Shared->Prop),At S h m l->(∀I fp St h' k',It S m l Kp cnt P I fp St h'->Q (.ref I) ⟨h',S.g,d,k',S.o⟩)->wpAny (mdl w) S.A (pyIter v) Q S.E ⟨h,S.g,d,k,S.o⟩
theorem Wv.seq(hD:(D,oD)∈l)(hs:Src vs oD):Wv S d m l (.ref D) (λnw=>(D,oD)∈nw) vs.length λi v=>vs[i]?=some v:=
 ⟨λh k Q A z=>by
  have hol:=(A.N1 _ hD).1
  have hlt:=Heap.lt_size hol
  have lt:∀o,∀b∈ [h.objs.size,D],b< (h.push o).objs.size:=λo b hb=>by
   rw [Heap.size_push]
   rcases lC hb with e | hb
   ·exact e▸Nat.lt_succ_self _
   ·exact lS hb▸Nat.lt_succ_of_lt hlt
  have e1:vs.toArray.size=vs.length:=List.size_toArray
  have e2:∀(i:Nat) v,vs.toArray[i]?=some v->vs[i]?=some v:=λi v p=>(List.getElem?_toArray (xs:=vs)).symm.trans p
  cases hs with
  | list=>
   have hls:h.IsList D vs.toArray:=⟨_,hol,rfl,_,rfl⟩
   refine wpAny_pyIter_list hls (z h.objs.size _ _ _ _ ⟨e1▸Gj (Walks.list S.hh h.objs.size D (Nat.ne_of_lt hlt) vs.toArray) e2,λi h' st=>⟨_,st.1.choose_spec.1⟩,?_,⟨⟨_,Heap.get?_push_size _ rfl,rfl,rfl⟩,hls.push _⟩,lt _,A.push _,λe=>A.frOff (e▸ .head _),next_is_new A.F,λp hp e=>A.off p hp (e▸ .head _)⟩)
   exact λi h h' o nw st e e' V N9 S9=>⟨by obtain ⟨o',q,r⟩:=st.1;rw [e] at q;cases q;exact ⟨o,e',r⟩,⟨_,(N9 _ S9).1,rfl,_,rfl⟩⟩
  | tup=>
   have hls:h.IsTuple D vs.toArray:=⟨_,hol,rfl,_,rfl⟩
   refine wpAny_pyIter_tuple hls (z h.objs.size _ _ _ _ ⟨e1▸Gj (Walks.tuple S.hh h.objs.size D (Nat.ne_of_lt hlt) vs.toArray) e2,λi h' st=>⟨_,st.1.choose_spec.1⟩,?_,⟨⟨_,Heap.get?_push_size _ rfl,rfl,rfl⟩,hls.at λo e=>hPu _ e⟩,lt _,A.push _,λe=>A.frOff (e▸ .head _),next_is_new A.F,λp hp e=>A.off p hp (e▸ .head _)⟩)
   exact λi h h' o nw st e e' V N9 S9=>⟨by obtain ⟨o',q,r⟩:=st.1;rw [e] at q;cases q;exact ⟨o,e',r⟩,⟨_,(N9 _ S9).1,rfl,_,rfl⟩⟩⟩
structure Turns(S:Si (P4 cn cs fa cc) n w)(d:Drawn)(m:Loc)(Kp:Led->Prop)(P:Nat->Value->Prop)(sc:Scope)(x:Str)(cl:List (Str×Addr))(elt:PySem.Expr)(J:Nat->List Value->Led->Prop):Prop where
 keep:∀i ys l',J i ys l'->Kp (l'++S.own)
 turn:∀(S':Si ⟨cn,C0 sc cs,none,cc⟩ n w) (i:Nat) (v:Value) (ys:List Value) (l':Led),P i v->Inn S sc x v cl S'->J i ys l'->X S' d m l' elt λy d' l2=>d'=d/\J (i+1) (ys++ [y]) l2
structure TurnsT(S:Si (P4 cn cs fa cc) n w)(d:Drawn)(m:Loc)(Kp:Led->Prop)(P:Nat->Value->Prop)(sc:Scope)(x:Str)(cl:List (Str×Addr))(ct elt:PySem.Expr)(J:Nat->List Value->Led->Prop):Prop where
 keep:∀i ys l',J i ys l'->Kp (l'++S.own)
 turn:∀(S':Si ⟨cn,C0 sc cs,none,cc⟩ n w) (i:Nat) (v:Value) (ys:List Value) (l':Led),P i v->Inn S sc x v cl S'->J i ys l'->∃p,Bv S' m l' ct p/\(p->X S' d m l' elt λy d' l2=>d'=d/\J (i+1) (ys++ [y]) l2)/\(¬p->J (i+1) ys l')
noncomputable abbrev KI(S:Si (P4 cn cs fa cc) n w)(J:Nat->List Value->Led->Prop)(i:Nat)(ys:List Value)(nx:Led):Prop:=∃l',nx=l'++S.own/\Aw l'/\(∀p∈S.own,∀q∈l',p.1≠q.1)/\J i ys l'
theorem Kb(F:Fr S.h₀ S.L h m)(N:News S.h₀ S.L h (o++(l'++S.own)))(hD:Aw l')(hO:∀p∈S.own,∀q∈l',p.1≠q.1)(off:∀p∈o,∀q∈l',p.1≠q.1):At (S.inn sc Ca cl o E) h m l':=
 ⟨F,λp hp=>N p ((lA hp).elim (λh=>lR _ (lL _ h)) λh=>(lA (show p∈S.own++o from h)).elim (λh=>lR _ (lR _ h)) (lL _)),hD,λp hp q hq=>(lA (show p∈S.own++o from hp)).elim (λh=>hO p h q hq) λh=>off p h q hq⟩
theorem Ho{C D9:Addr}{oI oC oN:Obj}{E:Value->Shared->Prop}{y:Value}{k0:Nat}{h0:Heap}{l' l2:Led}{R:Value->Led->Prop}(off:Off3 I C D9 (l'++S.own))(A:At (S.inn sc C cl [(I,oI),(C,oC),(D9,oN)] E) h m l2){Kp:Led->Prop}(hD:Kp (l2++S.own))(hR:R y (l2++S.own)):
  CompEnd S.h₀ S.L m ⟨h0,S.g,d,k0,S.o⟩ I oI C oC D9 oN Kp R y ⟨h,S.g,d,k,S.o⟩:=by
 have O:∀p∈ [(I,oI),(C,oC),(D9,oN)],∀q∈l2,p.1≠q.1:=λp hp=>A.O p (lR S.own hp)
 refine ⟨h,k,l2++S.own,rfl,A.F,λp hp=>A.N p ?_,Off3.of λp hp=> ?_,hD,hR⟩
 ·show p∈l2++(S.own++ [(I,oI),(C,oC),(D9,oN)])
  rcases (List.mem_append (s:= [(I,oI),(C,oC),(D9,oN)]) (t:=l2++S.own)).mp hp with h | h
  ·exact lR _ (lR _ h)
  ·exact (lA h).elim (lL _) λh=>lR _ (lL _ h)
 ·rcases lA hp with h | h
  ·exact ⟨(O _ (.head _) p h).symm,(O _ (.tail _ (.head _)) p h).symm,(O _ (.tail _ (.tail _ (.head _))) p h).symm⟩
  ·exact off.mem p (lR _ h)
theorem K4(off:Off3 I C D9 (l'++o)):∀p∈ [(I,oI),(C,oC),(D9,oN)],∀q∈l',p.1≠q.1:=λp hp q hq=>by
 have z:=off.mem q (lL _ hq)
 rcases lC hp with e | hp
 ·exact e▸z.1.symm
 rcases lC hp with e | hp
 ·exact e▸z.2.1.symm
 ·exact lS hp▸z.2.2.symm
theorem Turns.all{J:Nat->List Value->Led->Prop}{Kp:Led->Prop}{P:Nat->Value->Prop}{cnt:Nat}(T:Turns S d m Kp P sc x cl elt J)(ok:Dp sc x=true):
  ∀c i ys nx,i+c=cnt->KI S J i ys nx->CompRest PySem.Challenge.rw_nu0172_01.row.prog w S.A S.h₀ S.L m S.env elt x sc cl ⟨h,S.g,d,k,S.o⟩ Kp P (KI S J cnt) c i ys nx:=by
 intro c
 induction c with
 | zero=>exact λi ys nx e hk=>(show i=cnt from e)▸hk
 | succ c ih=>
  intro i ys nx e z9 v I oI C oC D9 m₂ h9 tk E' hv hns hx F N off _
  obtain ⟨l',e2,hD,hO,hJ⟩:=z9
  subst e2
  exact (T.turn (S.inn sc C cl [(I,oI),(C,oC),(D9,lst ys)] E') i v ys l' hv (Kc ok (.tail _ (.head _)) hns hx) hJ).run h9 tk _ (Kb F N hD hO (K4 off)) λy d' l2 h2 k2 ⟨e3,hJ2⟩ A2=>by
   subst e3
   exact Ho off A2 (T.keep _ _ _ hJ2) (ih _ _ _ (by exact (Nat.add_right_comm i 1 c).trans e) ⟨l2,rfl,A2.D,λp hp=>A2.O p (lL _ hp),hJ2⟩)
theorem TurnsT.all{J:Nat->List Value->Led->Prop}{Kp:Led->Prop}{P:Nat->Value->Prop}{cnt:Nat}(T:TurnsT S d m Kp P sc x cl ct elt J)(ok:Dp sc x=true):
  ∀c i ys nx,i+c=cnt->KI S J i ys nx->CompRestT PySem.Challenge.rw_nu0172_01.row.prog w S.A S.h₀ S.L m S.env ct elt x sc cl ⟨h,S.g,d,k,S.o⟩ Kp P (KI S J cnt) c i ys nx:=by
 intro c
 induction c with
 | zero=>exact λi ys nx e hk=>(show i=cnt from e)▸hk
 | succ c ih=>
  intro i ys nx e z9 v I oI C oC D9 m₂ h9 tk E' hv hns hx F N off _
  obtain ⟨l',e2,hD,hO,hJ⟩:=z9
  subst e2
  obtain ⟨p,hb,z1,z2⟩:=T.turn (S.inn sc C cl [(I,oI),(C,oC),(D9,lst ys)] E') i v ys l' hv (Kc ok (.tail _ (.head _)) hns hx) hJ
  have e3:i+1+c=cnt:=(Nat.add_right_comm i 1 c).trans e
  exact hb.run h9 d tk _ (Kb F N hD hO (K4 off)) λb h1 k1 hi A1=>by
   cases b with
   | true=>
    exact (z1 (hi.mp rfl)).run h1 k1 _ A1 λy d' l2 h2 k2 ⟨e4,hJ2⟩ A2=>by
     subst e4
     exact Ho off A2 (T.keep _ _ _ hJ2) (ih _ _ _ e3 ⟨l2,rfl,A2.D,λp hp=>A2.O p (lL _ hp),hJ2⟩)
   | false=>
    have hJ2:=z2 λhp=>nbF (hi.mpr hp)
    exact Ho (y:= .none) (R:=λV nw=>CompRestT PySem.Challenge.rw_nu0172_01.row.prog w S.A S.h₀ S.L m S.env ct elt x sc cl ⟨h,S.g,d,k,S.o⟩ Kp P (KI S J cnt) c (i+1) ys nw) off A1 (T.keep _ _ _ hJ2) (ih _ _ _ e3 ⟨l',rfl,A1.D,λp hp=>A1.O p (lL _ hp),hJ2⟩)
noncomputable def Si.plus{C n w}(S:Si C n w)(o:Led):Si C n w:= {S with own:=S.own++o}
theorem At.leaveC(A:At (S.plus [(Ca,oC)]) h m l)(hs:Heap.SameBut Ca h h')(hO:∀p∈S.own,p.1≠Ca):At S h' m l:=by
 have hin:(Ca,oC)∈(S.plus [(Ca,oC)]).own:=lR S.own (.head _)
 have hC:=A.N _ (lR l hin)
 refine ⟨A.F.change hs hC.2.1 hC.2.2,λp hp=> ?_,A.D,λp hp=>A.O p (lL _ hp)⟩
 have hp':p.1≠Ca:=(lA hp).elim (λh=>(A.O _ hin p h).symm) (hO p)
 have N:=A.N p ((lA hp).elim (lL _) λh=>lR l (lL [(Ca,oC)] h))
 exact ⟨hs.extBut _ _ hp' N.1,N.2⟩
structure CR(S:Si (P4 cn cs fa cc) n w)(d:Drawn)(m:Loc)(l:Led)(elt:PySem.Expr)(x:Str)(px:Pos)(iter:PySem.Expr)(ts:List PySem.Expr)(sc:Scope)(pos:Pos)(κ:List Value->Led->Prop):Prop where
 ex:∃cl,closureFor sc S.env=pure cl/\Dp sc x=true/\X S d m l iter λv d' l₀=>d'=d/\∀h k (RR:Value->Addr->Result->Shared->Prop),At S h m l₀->
  (∀D2 Ca oC m' l' ys h k,At (S.plus [(Ca,oC)]) h m ((D2,lst ys)::l')->NsObj oC m'->(∀p∈S.own,p.1≠Ca)->(∀p∈l',p.1≠D2)->κ ys l'->RR (.ref D2) Ca (.ok .next) ⟨h,S.g,d,k,S.o⟩)->
  wpAny (mdl w) S.A (pyIter v) (λit s₂=>wpAny (mdl w) S.A (newList []) (λacc s₃=>wpAny (mdl w) S.A (newFunctionEnv sc S.env.globals cl [] S.env.qual none .none (some S.env)) (λcenv s₄=>
   codeAny (mdl w) S.A (.compStart (.ListComp elt [⟨.Name x px,iter,ts,0⟩] sc pos) 0 it acc {cenv with scope:=relabel sc S.env}) (RR acc cenv.locals) s₄) S.E s₃) S.E s₂) S.E ⟨h,S.g,d,k,S.o⟩
structure Cm(S:Si (P4 cn cs fa cc) n w)(d:Drawn)(m:Loc)(l:Led)(elt:PySem.Expr)(x:Str)(sc:Scope)(cl:List (Str×Addr))(v:Value)(κ:List Value->Led->Prop):Prop where
 ex:∃(Kp:Led->Prop) (P:Nat->Value->Prop) (cnt:Nat) (J:Nat->List Value->Led->Prop),Wv S d m l v Kp cnt P/\Turns S d m Kp P sc x cl elt J/\J 0 [] l/\cnt<=1000/\∀ys l',J cnt ys l'->κ ys l'
structure CmT(S:Si (P4 cn cs fa cc) n w)(d:Drawn)(m:Loc)(l:Led)(ct elt:PySem.Expr)(x:Str)(sc:Scope)(cl:List (Str×Addr))(v:Value)(κ:List Value->Led->Prop):Prop where
 ex:∃(Kp:Led->Prop) (P:Nat->Value->Prop) (cnt:Nat) (J:Nat->List Value->Led->Prop),Wv S d m l v Kp cnt P/\TurnsT S d m Kp P sc x cl ct elt J/\J 0 [] l/\cnt<=1000/\∀ys l',J cnt ys l'->κ ys l'
theorem K3:∀ {l:Led},Off1 D9 l->∀p∈l,p.1≠D9
 | [],_,_,h=>no h
 | _::_,x,p,h=>(lC h).elim (λe=>e▸x.1) (K3 x.2 p)
theorem Jh(F:Fr S.h₀ S.L h m)(N:News S.h₀ S.L h ((D2,lst ys)::nx))(o1:Off1 D2 nx)(hn:h.Ns Ca m')(hC:S.h₀.get? Ca=none)(hL:Ca≠S.L)(hCD:Ca≠D2)(offC:∀p∈nx,p.1≠Ca)(fin:KI S J i ys nx):
  ∃oC l',At (S.plus [(Ca,oC)]) h m ((D2,lst ys)::l')/\NsObj oC m'/\(∀p∈S.own,p.1≠Ca)/\(∀p∈l',p.1≠D2)/\J i ys l':=by
 obtain ⟨oC,e1,e2⟩:=ns_obj hn
 obtain ⟨l',e,hD,hO,hJ⟩:=fin
 subst e
 have oD:=K3 o1
 refine ⟨oC,l',⟨F,λp hp=> ?_,List.pairwise_cons.mpr ⟨λp hp=>oD p (lL _ hp),hD⟩,λp hp q hq=> ?_⟩,e2,λp hp=>offC p (lR _ hp),λp hp=>oD p (lL _ hp),hJ⟩
 ·rcases lA (show p∈((D2,lst ys)::l')++(S.own++ [(Ca,oC)]) from hp) with h | h
  ·exact N p ((lC h).elim (λe=>e▸ .head _) λh=> .tail _ (lL _ h))
  ·exact (lA h).elim (λh=>N p (.tail _ (lR _ h))) λh=>by rw [List.mem_singleton.mp h];exact ⟨e1,hL,hC⟩
 ·rcases lA (show p∈S.own++ [(Ca,oC)] from hp) with hp | hp
  ·exact (lC hq).elim (λe=>e▸oD p (lR _ hp)) (hO p hp q)
  ·rw [List.mem_singleton.mp hp]
   exact (lC hq).elim (λe=>e▸hCD) λh=>(offC q (lL _ h)).symm
theorem CR.of{κ:List Value->Led->Prop}(hcl:closureFor sc S.env=pure cl)(he:X S d m l iter λv d' l'=>d'=d/\Cm S d m l' elt x sc cl v κ)(ok:Dp sc x=true:=by exact Eq.refl true):CR S d m l elt x px iter [] sc pos κ:=
 ⟨cl,hcl,ok,he.mono λv d' l₀ z=>⟨z.1,λh k RR A hR=>by
  obtain ⟨Kp,P,cnt,J,hw,T,h0,hz,done⟩:=z.2.ex
  refine hw.run h k _ A λI fp St h2 k2 it=> ?_
  have ok2:=of_decide_eq_true ok
  refine block_U (RR:=RR) it.W (nTr hz (by rw [sizeLine_eq];exact nLe rfl)) it.obj it.keep ok2.2.1 ok2.1 ok2.2.2.2.1 it.st it.lt it.A.F it.A.N it.IL it.I0 it.off (T.keep _ _ _ h0) (T.all ok _ 0 [] _ (Nat.zero_add _) ⟨l₀,rfl,it.A.D,it.A.O,h0⟩) ?_
  intro D2 C h3 tk m' ys nx F N o1 hn hC _ hL _ hCD offC fin
  obtain ⟨oC,l',A3,n1,n2,n3,hJ⟩:=Jh F N o1 hn hC hL hCD offC fin
  exact hR D2 C oC m' l' ys h3 tk A3 n1 n2 n3 (done ys l' hJ)⟩⟩
theorem CR.ofT{κ:List Value->Led->Prop}(hcl:closureFor sc S.env=pure cl)(he:X S d m l iter λv d' l'=>d'=d/\CmT S d m l' ct elt x sc cl v κ)(ok:Dp sc x=true:=by exact Eq.refl true):CR S d m l elt x px iter [ct] sc pos κ:=
 ⟨cl,hcl,ok,he.mono λv d' l₀ z=>⟨z.1,λh k RR A hR=>by
  obtain ⟨Kp,P,cnt,J,hw,T,h0,hz,done⟩:=z.2.ex
  refine hw.run h k _ A λI fp St h2 k2 it=> ?_
  have ok2:=of_decide_eq_true ok
  refine block_T (RR:=RR) it.W (nTr hz (by rw [sizeLine_eq];exact nLe rfl)) it.obj it.keep ok2.2.1 ok2.1 ok2.2.2.2.1 it.st it.lt it.A.F it.A.N it.IL it.I0 it.off (T.keep _ _ _ h0) (T.all ok _ 0 [] _ (Nat.zero_add _) ⟨l₀,rfl,it.A.D,it.A.O,h0⟩) ?_
  intro D2 C h3 tk m' ys nx F N o1 hn hC _ hL _ hCD offC fin
  obtain ⟨oC,l',A3,n1,n2,n3,hJ⟩:=Jh F N o1 hn hC hL hCD offC fin
  exact hR D2 C oC m' l' ys h3 tk A3 n1 n2 n3 (done ys l' hJ)⟩⟩
theorem X.comp(hc:CR S d m l elt x px iter ts sc pos λys l'=>∀D2,(∀p∈l',p.1≠D2)->κ (.ref D2) d ((D2,lst ys)::l'))(hp:Af iter=true:=by exact Eq.refl true):X S d m l (.ListComp elt [⟨.Name x px,iter,ts,0⟩] sc pos) κ:=
 ⟨λh9 k Q A hq=>by
  obtain ⟨cl,hcl,ok,go⟩:=hc.ex
  have ok:=of_decide_eq_true ok
  rw [eval_ListComp]
  exact wpAny_comprehension_free (use:=none) rfl (λV=>fold_plain hp) hcl ok.1 ok.2.2.1 (go.run h9 k _ A λv9 d9 l9 h8 k8 z8 A8=>by
   obtain ⟨e8,z8⟩:=z8
   subst e8
   exact z8 h8 k8 _ A8 λD2 Ca oC m' l' ys h1 k1 A1 n1 n2 n3 z=>⟨m',n1.ns (A1.N _ (lR _ (lR S.own (.head _)))).1,λh' hs=>hq _ _ _ _ _ (z D2 n3) (A1.leaveC hs n2)⟩)⟩
theorem Ji{ts:List PySem.Expr}{k9:Nat}{Q:Flow->Shared->Prop}{κ:List Value->Led->Prop}(A:At S h m l)(hc:CR S d m l elt x px iter ts sc pos κ)(z:∀ys l' D2 h' k',κ ys l'->(∀p∈l',p.1≠D2)->At S h' (mN y (.ref D2) m) ((D2,lst ys)::l')->Q .next ⟨h',S.g,d,k',S.o⟩)(hy:locOk (P4 cn cs fa cc) y=true)(hp:Af iter=true)
  (hsw:∀S:Si (P4 cn cs fa cc) n w,swapsWith (.ListComp elt [⟨.Name x px,iter,ts,0⟩] sc pos) (some (.Name y py)) p2.line S.env=pure true):wpAny (mdl w) S.A (exec (.Assign [.Name y py] (.ListComp elt [⟨.Name x px,iter,ts,0⟩] sc pos) p2) S.env) Q S.E ⟨h,S.g,d,k9,S.o⟩:=by
 obtain ⟨cl,hcl,ok,go⟩:=hc.ex
 have ok:=of_decide_eq_true ok
 rw [exec_Assign_Name_used _ _ _ _ (hsw S)]
 refine wpAny_bind (wpAny_standAt (wpAny_bind ?_))
 show wpAny _ _ (do let _<-comprehension (.ListComp elt [⟨.Name x px,iter,ts,0⟩] sc pos) sc S.env _ (newList []) false (eval iter S.env) (some (assign (.Name y py) S.env))) _ _ _
 refine wpAny_bind (wpAny_mono (wpAny_comprehension_free (use:=some (assign (.Name y py) S.env)) (Q:=λV s'=>Q .next s') rfl (λV=>fold_plain hp) hcl ok.1 ok.2.2.1 (go.run h k9 _ A λv9 d9 l9 h8 k8 z8 A8=>by
  obtain ⟨e8,z8⟩:=z8
  subst e8
  refine z8 h8 k8 _ A8 λD2 Ca oC m' l' ys h1 k1 A1 n1 n2 n3 z1=> ?_
  exact wpAny_assign_Name (Si.store (S:=S.plus [(Ca,oC)]) A1 hy λh2 k2 A2=>⟨m',n1.ns (A2.N _ (lR _ (lR S.own (.head _)))).1,λh' hs=>z ys l' D2 h' k2 z1 n3 (A2.leaveC hs n2)⟩))) (λV s' hq=>wpAny_pure (wpAny_pure hq)) λV V e=>e)
theorem W.comp{ts:List PySem.Expr}(hc:CR S d m l elt x px iter ts sc pos λys l'=>∀D2,(∀p∈l',p.1≠D2)->W S K d (mN y (.ref D2) m) ((D2,lst ys)::l') rest rs)(hy:locOk (P4 cn cs fa cc) y=true:=by exact Eq.refl true)(hp:Af iter=true:=by exact Eq.refl true)
  (hsw:∀S:Si (P4 cn cs fa cc) n w,swapsWith (.ListComp elt [⟨.Name x px,iter,ts,0⟩] sc pos) (some (.Name y py)) p2.line S.env=pure true:=by intro _;rfl):W S K d m l (.Assign [.Name y py] (.ListComp elt [⟨.Name x px,iter,ts,0⟩] sc pos) p2::rest) rs:=
 ⟨λh9 k A=>wpAny_execs_cons (Ji A hc (λys l' D2 h' k' z n A'=>(z D2 n).run h' k' A') hy hp hsw)⟩
theorem Cm.map{R:Nat->Value->Prop}(hm:(D,oD)∈l)(hs:Src vs oD)(elt_:∀(S':Si ⟨cn,C0 sc cs,none,cc⟩ n w) (i:Nat) (v:Value),vs[i]?=some v->Inn S sc x v cl S'->Ev S' m l elt (R i))(hz:vs.length<=1000){κ:List Value->Led->Prop}(h:∀ys,ys.length=vs.length->(∀(i:Nat) y,ys[i]?=some y->R i y)->κ ys l):Cm S d m l elt x sc cl (.ref D) κ:=
 ⟨_,_,_,λi ys l'=>l'=l/\ys.length=i/\∀(j:Nat) y,ys[j]?=some y->R j y,Wv.seq hm hs,⟨λi ys l' h=>lL _ (h.1▸hm),λS' i v ys l' hv hI ⟨e1,e2,e3⟩=>by
  subst e1 e2
  exact X.ev (elt_ S' _ v hv hI) λy hy=>⟨rfl,rfl,List.length_append,λj z hj=>by
   rcases Nat.lt_or_ge j ys.length with h | h
   ·exact e3 j z ((List.getElem?_append_left h).symm.trans hj)
   ·rw [List.getElem?_append_right h] at hj
    have hz:j- ys.length=0:=by
     have:=(List.getElem?_eq_some_iff.mp hj).1
     exact Nat.lt_one_iff.mp this
    rw [hz] at hj
    rw [Nat.le_antisymm (Nat.le_of_sub_eq_zero hz) h]
    exact sJ hj▸hy⟩⟩,⟨rfl,rfl,λj y h=>nn h⟩,hz,λys l' z=>z.1▸h ys z.2.1 z.2.2⟩
theorem Rd{f:Int->Int}{ys:List Value}{ns:List Int}(hl:ys.length=ns.length)(h:∀(i:Nat) y,ys[i]?=some y->∃a,ns[i]?=some a/\isI (f a) y):IntsAre ys (ns.map f):=by
 induction ns generalizing ys with
 | nil=>rw [List.eq_nil_of_length_eq_zero hl];exact .nil
 | cons a ns ih=>
  cases ys with
  | nil=>exact nomatch hl
  | cons y ys=>
   obtain ⟨b,e,t,e2⟩:=h 0 y rfl
   cases e
   subst e2
   exact .cons _ _ (ih (Nat.succ.inj hl) λi y hy=>h (i+1) y hy)
theorem Cm.mapI{ns:List Int}{f:Int->Int}(hm:(D,oD)∈l)(hs:Src vs oD)(hi:IntsAre vs ns)(elt_:∀(S':Si ⟨cn,C0 sc cs,none,cc⟩ n w) (a:Int) (t:Tok),a∈ns->Inn S sc x (.int a t) cl S'->Ev S' m l elt (isI (f a)))(hz:ns.length<=1000){κ:List Value->Led->Prop}(h:∀ys,IntsAre ys (ns.map f)->κ ys l):Cm S d m l elt x sc cl (.ref D) κ:=
 Cm.map (R:=λi y=>∃a,ns[i]?=some a/\isI (f a) y) hm hs (λS' i v hv hI=>by
  obtain ⟨a,t,e,ha⟩:=IntsAre.at hi i v hv
  subst e
  exact (elt_ S' a t (List.mem_of_getElem? ha) hI).mono λy hy=>⟨a,ha,hy⟩) (by rw [IntsAre.length hi];exact hz) λys hl z=>h ys (Rd (hl.trans (IntsAre.length hi)) z)
theorem CmT.filter{ns:List Int}{f:Int->Int}{P:Int->Prop}[DecidablePred P](hm:(D,oD)∈l)(hs:Src vs oD)(hi:IntsAre vs ns)(test:∀(S':Si ⟨cn,C0 sc cs,none,cc⟩ n w) (a:Int) (t:Tok),a∈ns->Inn S sc x (.int a t) cl S'->Bv S' m l ct (P a))(elt_:∀(S':Si ⟨cn,C0 sc cs,none,cc⟩ n w) (a:Int) (t:Tok),a∈ns->P a->Inn S sc x (.int a t) cl S'->Ev S' m l elt (isI (f a)))(hz:ns.length<=1000){κ:List Value->Led->Prop}(h:∀ys,IntsAre ys ((ns.filter λa=>decide (P a)).map f)->κ ys l):CmT S d m l ct elt x sc cl (.ref D) κ:=
 ⟨_,_,_,λi ys l'=>l'=l/\IntsAre ys (((ns.take i).filter λa=>decide (P a)).map f),Wv.seq hm hs,⟨λi ys l' h=>lL _ (h.1▸hm),λS' i v ys l' hv hI ⟨e1,e2⟩=>by
  subst e1
  obtain ⟨a,t,e,ha⟩:=IntsAre.at hi i v hv
  subst e
  have ha':=List.mem_of_getElem? ha
  have e3:(ns.take (i+1)).filter (λa=>decide (P a))=(ns.take i).filter (λa=>decide (P a))++if P a then [a] else []:=by
   rw [List.take_add_one,ha,List.filter_append]
   congr 1
   by_cases q:P a<;>simp [q]
  refine ⟨P a,test S' a t ha' hI,λhp=>X.ev (elt_ S' a t ha' hp hI) λy ⟨t2,hy⟩=>⟨rfl,rfl,?_⟩,λhp=>⟨rfl,?_⟩⟩
  ·rw [e3,if_pos hp,List.map_append,hy]
   exact ints_app e2 (.cons _ _ .nil)
  ·rw [e3,if_neg hp,List.append_nil]
   exact e2⟩,⟨rfl,.nil⟩,by rw [IntsAre.length hi];exact hz,λys l' z=>z.1▸h ys (by have z2:=z.2;rwa [IntsAre.length hi,List.take_length] at z2)⟩
end
section
variable {C:Cd}{n:Nat}{w:World}{x:Str}{pos:Pos}{S:Si C n w}{m:Loc}{l:Led}{v:Value}{c:Addr}{o:Obj}
theorem Ev.cell(hc:S.cl.lookup x=some c)(hm:(c,o)∈l)(ho:o.data= .cell (some v))(ok:decide (C.cs.kind= .function/\(C.cs.names.lookup x=some .cell\/C.cs.names.lookup x=some .free/\(x==Str.ofString "__classdict__")=false)/\(x==Str.ofString "__debug__")=false)=true:=by exact Eq.refl true):Ev S m l (.Name x pos) (· =v):=
 ⟨λh d k Q A hq=>by
  have ok:=of_decide_eq_true ok
  have hv:h.IsCell c (some v):=⟨o,(A.N1 _ hm).1,ho⟩
  have hc':S.env.cells.lookup x=some c:=by
   unfold Si.env Cd.env
   cases C.fn<;>exact hc
  refine wpAny_Name (ok.2.1.elim (λe=> ?_) λe=> ?_) ok.2.2
  ·exact wpAny_loadName_cell (by rw [S.scope];exact ok.1) (S.kind▸e) hc' hv (hq v h k rfl A)
  ·exact wpAny_loadName_free (by rw [S.scope];exact ok.1) (S.kind▸e.1) hc' hv (hq v h k rfl A) e.2⟩
end
end
section
section
variable {w:World}{f:Addr}{k:Nat}{args:Args}{mu ro:List (Addr×Obj)}{Post:Value->List (Addr×Obj)->List (Addr×Obj)->Prop}
  {name qual:Str}{params:Arguments}{body:List Stmt}{scope:Scope}{dV kV doc pm cdv ct oc:Value}{an od:Option Addr}{osl:Array (Option Value)}{binds:List (Str×Value)}
theorem Ux(ho:(hd.heap_39 w.params).lookup f=some ⟨oc,od,.func (fnOf name qual params body scope dV kV doc pm an cdv ct),osl⟩)(hcd:codeIn (hd.heap_39 w.params) cdv qual=true)
  (hbind:∀s:Shared,(hd.heap_39 w.params).In s.heap->BindsTo s (fnOf name qual params body scope dV kV doc pm an cdv ct) args binds)
  (hkind:(binds.all λy=>scope.names.lookup y.1==some .local||scope.names.lookup y.1==some .cell)=true)(hnd:((cellsFrom 0 scope.names []).map (·.1)).Nodup)
  (h:∀(dp un:Nat) (gd:Option (List Code)) (env:Env) (outer:List Env) (base g:Heap) (L':Addr) (h₁:Heap) (p:Program) (loose:List Str) (mean:ExcName->Option Value) (mg mb:Str->Option Value) (s:Shared) (tk:Nat) (R:Result->Shared->Prop) (cells:List (Addr×Obj)),
   dp+k<recursionLimit->un+8*k<cLine->Below {handled:=none,depth:=dp,frames:=some (env::outer),guards:=gd,units:=un} base (env::outer) g->(hd.heap_39 w.params).In g->Top p loose mean mg mb g->
   Fr g L' h₁ (bindL (envOfC qual scope L' f cdv).kindOf binds λV=>none)->News g L' h₁ (cells++(mu++ro))->CellsAre (bindC (envOfC qual scope L' f cdv).kindOf binds λV=>none) (cellsFrom (L'+1) scope.names []) cells->(∀q∈mu++ro,q.1<L')->
   wpAny (model PySem.Challenge.rw_nu0172_01.row.prog w) (Around.deeper {handled:=none,depth:=dp,frames:=some (env::outer),guards:=gd,units:=un} (envOfC qual scope L' f cdv)) (execs body (envOfC qual scope L' f cdv))
    (λfl s'=>Dh g L' mu ro Post s (match fl with | .ret v=>v | _=> .none) s')
    (λe s'=>wpAny (model PySem.Challenge.rw_nu0172_01.row.prog w) (Around.deeper {handled:=none,depth:=dp,frames:=some (env::outer),guards:=gd,units:=un} (envOfC qual scope L' f cdv)) (leaving (envOfC qual scope L' f cdv) e) (λV s''=>R (.error e) s'') (λe' s''=>R (.error e') s'') s')
    {s with heap:=h₁,toks:=tk})
  (hco:scope.isCoroutine=false) (hgen:scope.isGenerator=false) (hk:scope.kind= .function):TelD w f k args mu ro Post:=by
 intro A h₀ L m news s R H F N hap hR
 refine H.on λp loose mean mg mb env outer A₀ base B X T hh hf hfr hke hd hu=> ?_
 have N1:News h₀ L s.heap (mu++ro):=λq hq=>N q (by
  rcases lA hq with h | h
  ·exact lL _ h
  ·exact lR _ (lL _ h))
 obtain ⟨FG,BG,st,_⟩:=groundX (R:=λV V=>True) B F N1 hf hfr hke
 obtain ⟨hA,dA,fA,gA,uA⟩:=A
 cases hh
 cases hf
 refine codeAny_call_function (by show dA<_;exact Nat.lt_of_le_of_lt (Nat.le_add_right _ _) hd) (F.keep _ _ (X _ _ ho)) rfl hco hgen rfl (codeRec_of (X.keeps F.keep) hcd) (hbind s (X.keeps F.keep) _ _ _ _ ?_)
 refine wpAny_newFunctionEnv_cells hk (kindsX hkind _) λenv' he s' x=> ?_
 subst he
 refine ⟨(T.nolimit.keeps F.keep).keeps x.toInCall.keep,codeAny_func ?_⟩
 obtain ⟨h₁,tk,rfl,_⟩:=x.done
 have hk₁:=x.toInCall.keep
 obtain ⟨cells,NC,Y⟩:=Cl.news (h₀:=s.heap) (Nat.le_refl _) λn c hm=>⟨x.cell n c (lookup_of_mem_nodup (cellsFrom_names scope.names 0 (s.heap.objs.size+1) [] [] rfl▸hnd) hm),x.above n c hm⟩
 have Fg:Fr (hideAll s.heap ((mu++ro).map (·.1))) s.heap.objs.size h₁ (bindL (envOfC qual scope s.heap.objs.size f cdv).kindOf binds λV=>none):=⟨x.toInCall.ns,λb o e=>hk₁ b o (of_hideAll _ e),Nat.le_of_eq (hideAll_size _ _)⟩
 have Ng:News (hideAll s.heap ((mu++ro).map (·.1))) s.heap.objs.size h₁ (cells++(mu++ro)):=λp hp=>by
  rcases lA hp with hp | hp
  ·refine ⟨(NC p hp).1,(NC p hp).2.1,?_⟩
   cases q:(hideAll s.heap ((mu++ro).map (·.1))).get? p.1 with
   | none=>rfl
   | some o=>have:=of_hideAll _ q;rw [(NC p hp).2.2] at this;cases this
  ·exact ⟨hk₁ _ _ (N1 p hp).1,Nat.ne_of_lt (Heap.lt_size (N1 p hp).1),hideAll_none _ (List.mem_map_of_mem hp)⟩
 exact wpAny_mono (h dA uA gA env outer base _ _ h₁ p loose mean mg mb s tk R cells hd hu BG (X.keeps st) (T.keeps st) Fg Ng Y (λq hq=>Heap.lt_size (N1 q hq).1)) (λfl s' hl=>Ge F N hap FG st hR hl) λV V y=>y
end
section
variable {prog:Program}{w:World}{A:Around}{s:Shared}{R:Result->Shared->Prop}
theorem Fe(h:wpR (model prog w) (A.deeper env) (execs body env) (λf s'=>R (.ok (.ret (match f with | .ret v=>v | _=> .none))) s')
   (λe s'=>wpR (model prog w) (A.deeper env) (leaving env e) (λV s''=>R (.error e) s'') (λe' s''=>R (.error e') s'') s') s):Ax (model prog w) A (.func body env) R s:=by
 refine Bw ?_
 show wpR _ (A.deeper env) (do point;match<- (execs body env).onRaise (leaving env) with | .ret v=>ret v | _=>ret .none) _ _ s
 refine Ah (wpAny_point (Am (Cq (Ao h (λf s' h'=> ?_) λV V h'=>h'))))
 cases f<;>exact An h'
theorem Fd(hroom:A.depth<recursionLimit)(ho:s.heap.get? a=some o)
  (hd':o.data= .func fd)(hco:fd.scope.isCoroutine=false)(hgen:fd.scope.isGenerator=false)(hbody:fd.body= .stmts body)(hcd:s.heap.CodeRec fd.code fd.qualname)
  (h:wpAny (model prog w) A.in1 (bindArgs fd args) (λbinds s₁=>
   wpAny (model prog w) A.in1 (newFunctionEnv fd.scope fd.globals fd.closure binds (fd.qualname++".<locals>.") (some a) fd.code none fd.builtins)
    (λenv s₂=>s₂.heap.NoLimit/\Ax (model prog w) A (.func body env) R s₂) (λe s'=>R (.error e) s') s₁) (λe s'=>R (.error e) s') s):
  Ax (model prog w) A (.call (.ref a) args) R s:=by
 refine Bw (Av ?_)
 show wpAny _ A.in1 (callAny (.ref a) args) _ _ s
 refine wpAny_bind (wpAny_load ho ?_)
 obtain ⟨c,oc,vs,tq,hc,hoc,hdc,hq⟩:=hcd
 simp only [hd',callFunction,hco,hgen,hbody,hc]
 rw [hc] at h
 refine wpAny_bind (m:=field (.ref c) 1) (wpAny_field hoc hdc hq (wpAny_bind (wpAny_pure ?_)))
 exact wpAny_bind (wpAny_mono h (λbinds s₁ h₁=>wpAny_bind (wpAny_mono h₁ (λenv s₂ h₂=>wpAny_bind (wpAny_enterFrame h₂.1 hroom
  (wpAny_pure (And.intro rfl (And.intro rfl h₂.2))))) λV V h'=>h')) λV V h'=>h')
end
noncomputable def TelR(w:World)(f:Addr)(k:Nat)(args:Args)(mu ro:List (Addr×Obj))(Post:Value->List (Addr×Obj)->List (Addr×Obj)->Prop):Prop:=
 ∀(A:Around) (h₀:Heap) (L:Addr) (m:Str->Option Value) (news:List (Addr×Obj)) (s:Shared) (R:Result->Shared->Prop),
  Here w A k h₀ L->Fr h₀ L s.heap m->News h₀ L s.heap (mu++(ro++news))->(∀p∈ro++news,∀q∈mu,p.1≠q.1)->
  (∀v mu' new h' tk' dr',Fr h₀ L h' m->News h₀ L h' (mu'++(new++(ro++news)))->(∀p∈new,∀q∈mu++ro,q.1<p.1)->(∀p∈new,∀q∈news,p.1≠q.1)->Post v mu' new->
   R (.ok (.ret v)) {s with heap:=h',toks:=tk',drawn:=dr'})->
  Ax (model PySem.Challenge.rw_nu0172_01.row.prog w) A (.call (.ref f) args) R s
theorem Ic
  (ho:(hd.heap_39 w.params).lookup f=some ⟨oc,od,.func (fnOf name qual params body scope dV kV doc pm an cdv ct),osl⟩)(hcd:codeIn (hd.heap_39 w.params) cdv qual=true)
  (hbind:∀s:Shared,(hd.heap_39 w.params).In s.heap->BindsTo s (fnOf name qual params body scope dV kV doc pm an cdv ct) args binds)(hloc:∀y∈binds,scope.names.lookup y.1=some .local)
  (h:∀(dp un:Nat) (gd:Option (List Code)) (env:Env) (outer:List Env) (base g:Heap) (L':Addr) (h₁:Heap) (p:Program) (loose:List Str) (mean:ExcName->Option Value) (mg mb:Str->Option Value) (s:Shared) (tk:Nat) (R:Result->Shared->Prop),
   dp+k<recursionLimit->un+8*k<cLine->Below {handled:=none,depth:=dp,frames:=some (env::outer),guards:=gd,units:=un} base (env::outer) g->(hd.heap_39 w.params).In g->Top p loose mean mg mb g->
   Fr g L' h₁ (λy=>binds.reverse.lookup y)->News g L' h₁ (mu++ro)->
   wpR (model PySem.Challenge.rw_nu0172_01.row.prog w) (Around.deeper {handled:=none,depth:=dp,frames:=some (env::outer),guards:=gd,units:=un} (envOf qual scope L' f cdv)) (execs body (envOf qual scope L' f cdv))
    (λfl s'=>Dh g L' mu ro Post s (match fl with | .ret v=>v | _=> .none) s')
    (λe s'=>wpR (model PySem.Challenge.rw_nu0172_01.row.prog w) (Around.deeper {handled:=none,depth:=dp,frames:=some (env::outer),guards:=gd,units:=un} (envOf qual scope L' f cdv)) (leaving (envOf qual scope L' f cdv) e) (λV s''=>R (.error e) s'') (λe' s''=>R (.error e') s'') s')
    {s with heap:=h₁,toks:=tk})
  (hco:scope.isCoroutine=false) (hgen:scope.isGenerator=false) (hk:scope.kind= .function) (hcell:∀x∈scope.names,x.2≠ .cell):TelR w f k args mu ro Post:=by
 intro A h₀ L m news s R H F N hap hR
 refine H.on λp loose mean mg mb env outer A₀ base B X T hh hf hfr hke hd hu=> ?_
 have N1:News h₀ L s.heap (mu++ro):=λq hq=>N q (by
  rcases lA hq with h | h
  ·exact lL _ h
  ·exact lR _ (lL _ h))
 obtain ⟨FG,BG,st,_⟩:=groundX (R:=λV V=>True) B F N1 hf hfr hke
 obtain ⟨hA,dA,fA,gA,uA⟩:=A
 cases hh
 cases hf
 refine Fd (by show dA<_;exact Nat.lt_of_le_of_lt (Nat.le_add_right _ _) hd) (F.keep _ _ (X _ _ ho)) rfl hco hgen rfl (codeRec_of (X.keeps F.keep) hcd) (hbind s (X.keeps F.keep) _ _ _ _ ?_)
 refine wpAny_newFunctionEnv hcell hloc (λh₁ hns₀ hsb₀=>⟨(T.nolimit.keeps F.keep).fresh _ hsb₀,Fe ?_⟩) hk
 have hk₁:∀b o,s.heap.get? b=some o->h₁.get? b=some o:=λb o e=>hsb₀.extBut b o (Nat.ne_of_lt (Heap.lt_size e)) (hPu _ e)
 have Fg:Fr (hideAll s.heap ((mu++ro).map (·.1))) s.heap.objs.size h₁ (λy=>binds.reverse.lookup y):=⟨hns₀,λb o e=>hk₁ b o (of_hideAll _ e),Nat.le_of_eq (hideAll_size _ _)⟩
 have Ng:News (hideAll s.heap ((mu++ro).map (·.1))) s.heap.objs.size h₁ (mu++ro):=λq hq=>⟨hk₁ _ _ (N1 q hq).1,Nat.ne_of_lt (Heap.lt_size (N1 q hq).1),hideAll_none _ (List.mem_map_of_mem hq)⟩
 exact Ao (h dA uA gA env outer base _ _ h₁ p loose mean mg mb s (s.toks+binds.length) R hd hu BG (X.keeps st) (T.keeps st) Fg Ng) (λfl s' hl=>Ge F N hap FG st hR hl) λV V y=>y
theorem TelR.use
  (C:TelR w f k ⟨vs,kw⟩ mu ro Post)(H:Here w A k h₀ L)(F:Fr h₀ L s.heap m)(N:News h₀ L s.heap big)(hs:∀p∈mu++(ro++news),p∈big)(hap:∀p∈ro++news,∀q∈mu,p.1≠q.1)
  (h:∀v mu' new h' tk' dr',Fr h₀ L h' m->News h₀ L h' (mu'++(new++(ro++news)))->(∀p∈new,∀q∈mu++ro,q.1<p.1)->(∀p∈new,∀q∈news,p.1≠q.1)->Post v mu' new->Q v {s with heap:=h',toks:=tk',drawn:=dr'}):
  wpR (model PySem.Challenge.rw_nu0172_01.row.prog w) A (call (.ref f) vs kw) Q E s:=
 Co (C A h₀ L m news s _ H F (λp hp=>N p (hs p hp)) hap λv mu' new h' tk' dr' a b c d e=>h v mu' new h' tk' dr' a b c d e)
section
variable {w:World}{f:Addr}{k:Nat}{vs:List Value}{kw:List (Str×Value)}{ro:List (Addr×Obj)}{Post:Value->List (Addr×Obj)->List (Addr×Obj)->Prop}
  {A:Around}{h₀:Heap}{L:Addr}{m:Str->Option Value}{rest big:List (Addr×Obj)}{s:Shared}{Q E:Value->Shared->Prop}
theorem TelD.use0(C:TelD w f k ⟨vs,kw⟩ [] ro Post)(H:Here w A k h₀ L)(F:Fr h₀ L s.heap m)(N:News h₀ L s.heap big)(hro:∀p∈ro,p∈big)
  (h:∀v mu' new h' tk' dr',Post v mu' new->Fr h₀ L h' m->News h₀ L h' (mu'++(new++big))->(∀p∈new,∀r∈ro,r.1<p.1)->(∀p∈new,∀r∈big,p.1≠r.1)->Q v {s with heap:=h',toks:=tk',drawn:=dr'}):
  wpAny (model PySem.Challenge.rw_nu0172_01.row.prog w) A (call (.ref f) vs kw) Q E s:=by
 refine C.use H F N (news:=big) (λp hp'=> ?_) (λp hp' r hr=>no hr) λv mu' new h' tk' dr' F' N' hl hn hP=>h v mu' new h' tk' dr' hP F' (Er N') hl hn
 rcases lA hp' with h | h
 ·cases h
 ·rcases lA h with h | h
  ·exact hro p h
  ·exact h
theorem TelR.use0(C:TelR w f k ⟨vs,kw⟩ [] ro Post)(H:Here w A k h₀ L)(F:Fr h₀ L s.heap m)(N:News h₀ L s.heap big)(hro:∀p∈ro,p∈big)
  (h:∀v mu' new h' tk' dr',Post v mu' new->Fr h₀ L h' m->News h₀ L h' (mu'++(new++big))->(∀p∈new,∀r∈ro,r.1<p.1)->(∀p∈new,∀r∈big,p.1≠r.1)->Q v {s with heap:=h',toks:=tk',drawn:=dr'}):
  wpR (model PySem.Challenge.rw_nu0172_01.row.prog w) A (call (.ref f) vs kw) Q E s:=by
 refine C.use H F N (news:=big) (λp hp'=> ?_) (λp hp' r hr=>no hr) λv mu' new h' tk' dr' F' N' hl hn hP=>h v mu' new h' tk' dr' hP F' (Er N') hl hn
 rcases lA hp' with h | h
 ·cases h
 ·rcases lA h with h | h
  ·exact hro p h
  ·exact h
theorem TelR.use1(C:TelR w f k ⟨vs,kw⟩ [q] ro Post)(H:Here w A k h₀ L)(F:Fr h₀ L s.heap m)(N:News h₀ L s.heap big)(hp:Pick big q rest)(hro:∀p∈ro,p∈rest)(hap:∀p∈rest,p.1≠q.1)
  (h:∀v mu' new h' tk' dr',Post v mu' new->Fr h₀ L h' m->News h₀ L h' (mu'++(new++rest))->(∀p∈new,∀r∈q::ro,r.1<p.1)->(∀p∈new,∀r∈rest,p.1≠r.1)->Q v {s with heap:=h',toks:=tk',drawn:=dr'}):
  wpR (model PySem.Challenge.rw_nu0172_01.row.prog w) A (call (.ref f) vs kw) Q E s:=by
 refine C.use H F N (news:=rest) (λp hp'=>hp.sub p ?_) (λp hp' r hr=> ?_) λv mu' new h' tk' dr' F' N' hl hn hP=>h v mu' new h' tk' dr' hP F' (Er N') hl hn
 ·simp only [List.cons_append,List.nil_append,List.mem_cons,List.mem_append] at hp' ⊢
  rcases hp' with h | h | h
  ·exact .inl h
  ·exact .inr (hro p h)
  ·exact .inr h
 ·rw [List.mem_singleton.mp hr]
  rcases lA hp' with h | h
  ·exact hap p (hro p h)
  ·exact hap p h
end
end
section
noncomputable abbrev Ar(a0 tb:Value)(dx:Addr):Obj:= {cls:= .ref 61,dict:=some dx,data:= .fields #[a0,tb,.none,.none,.bool false,.none]}
structure FlyD(base:Heap)(l:List Env)(e dx T:Addr)(a0 fl:Value)(h:Heap):Prop where
 stays:base.StaysIn h
 newE:base.get? e=none
 newT:base.get? T=none
 ne:T≠e
 frames:h.FunFrames base l
 exc:h.get? e=some (Ar a0 (.ref T) dx)
 tb:∃oT ts,h.get? T=some oT/\oT.data= .fields ts/\ts[3]?=some fl
section
variable {M:Model}{A:Around}{E:Value->Shared->Prop}{s:Shared}{base:Heap}{env:Env}{outer:List Env}{L e dx:Addr}{a0:Value}
theorem Jl(hfr:A.frames=some (env::outer))(hl:s.heap.FunFrames base (env::outer))(hf:env.frame=some L)
  (he:s.heap.get? e=some (Ar a0 tb dx))(hkb:base.StaysIn s.heap)(hen:base.get? e=none)
  (h:∀h' T,FlyD base (env::outer) e dx T a0 (rawInt L) h'->s.heap.UpToSlots h'->Q () {s with heap:=h'}):
  wpAny M A (do let a<-frameOf env;let pl<-entryPlaceOf L hadNext;let b<-EntryCells.newEntry head a .none (rawInt L) .none pl;setField (.ref e) 1 b) Q E s:=by
 have notFrame:e∉(env::outer).filterMap (·.frame):=λhm=>by
  obtain ⟨_,o,ho,hnf⟩:=hl.mem hm
  rw [he] at ho
  cases ho
  exact hnf _ rfl
 refine wpAny_bind (wpAny_frameOf_fun hfr hl hf λh₁ hs₁=> ?_)
 refine wpAny_bind (wpAny_entryPlaceOf λpl hpl=> ?_)
 refine wpAny_bind (wpAny_newObj_type ?_ (hpl.sizeOk5 _ _ _ _ _))
 generalize htr:({cls:= .type "traceback",dict:=none,data:= .fields ([head,.ref L,.none,rawInt L,.none]++(if pl.isEmpty then List.replicate 6 Value.none else pl)).toArray}:Obj)=oT
 have hdT:∃ts,oT.data= .fields ts/\ts[3]?=some (rawInt L):=by subst htr;exact ⟨_,rfl,by simp⟩
 have e1:h₁.get? e=some (Ar a0 tb dx):=(hs₁.2.1 e notFrame).trans he
 have k1:base.StaysIn h₁:=λb o hb=>(hs₁.2.1 b λhm=>by rw [(hl.mem hm).1] at hb;cases hb).trans (hkb b o hb)
 have hTe:h₁.objs.size≠e:=Nat.ne_of_gt (Heap.lt_size e1)
 refine wpAny_setField (hPu oT e1) rfl (show 1<6 by decide) (h _ h₁.objs.size ?_ ?_)
 ·have hT:(h₁.push oT).get? h₁.objs.size=some oT:=by subst htr;exact Heap.get?_push_size _ rfl
  have keep:∀b o,b≠e->h₁.get? b=some o->((h₁.push oT).update e (Obj.mapFields (·.setIfInBounds 1 (Value.ref h₁.objs.size)))).get? b=some o:=λb o hb ho=>
   (Heap.get?_update_other _ _ (Ne.symm hb)).trans (hPu _ ho)
  refine ⟨λb o hb=>keep b o (λq=>by rw [q,hen] at hb;cases hb) (k1 b o hb),hen,k1.fresh,hTe,hl.of_keeps λb o hb hnf=> ?_,Heap.get?_update_self _ (hPu oT e1) rfl,?_⟩
  ·obtain ⟨sl,hs⟩:=hs₁.2.2 b o hb
   exact ⟨_,keep b _ (λq=>by rw [q,he] at hb;cases hb;exact hnf _ rfl) hs,rfl⟩
  ·obtain ⟨ts,d1,d2⟩:=hdT
   exact ⟨oT,ts,(Heap.get?_update_other _ _ (Ne.symm hTe)).trans hT,d1,d2⟩
 ·intro b o hb hnf
  obtain ⟨sl,hs⟩:=hs₁.2.2 b o hb
  exact ⟨sl,(Heap.get?_update_other _ _ (λq:e=b=>by rw [<-q,he] at hb;cases hb;exact hnf _ rfl)).trans (hPu _ hs)⟩
theorem R6(hfr:A.frames=some (env::outer))(hl:s.heap.FunFrames base (env::outer))(hf:env.frame=some L)
  (he:s.heap.get? e=some (Ar a0 .none dx))(hkb:base.StaysIn s.heap)(hen:base.get? e=none)
  (h:∀h' T,FlyD base (env::outer) e dx T a0 (rawInt L) h'->s.heap.UpToSlots h'->Q () {s with heap:=h'}):wpAny M A (noteFrame (.ref e) env) Q E s:=by
 unfold noteFrame
 simp only [hf]
 refine wpAny_bind (wpAny_field he rfl (x:= .none) rfl ?_)
 refine wpAny_ite_false (by decide) ?_
 exact Jl hfr hl hf he hkb hen h
theorem R5(hfr:A.frames=some (env::outer))(hf:env.frame=some L)(H:FlyD base (env::outer) e dx T a0 .none s.heap)
  (h:∀h' T',FlyD base (env::outer) e dx T' a0 (rawInt L) h'->s.heap.UpToSlots h'->Q () {s with heap:=h'}):wpAny M A (noteFrame (.ref e) env) Q E s:=by
 obtain ⟨hkb,hen,hnT,hTe,hl,he,oT,ts,hT,hdT,h3⟩:=H
 unfold noteFrame
 simp only [hf]
 refine wpAny_bind (wpAny_field he rfl (x:= .ref T) rfl ?_)
 refine wpAny_ite_true (decide_eq_true (show (Value.ref T !=Value.none)=true from by simp)) ?_
 refine wpAny_bind (wpAny_field hT hdT h3 ?_)
 rw [if_neg (show ¬((Value.none==rawInt L)=true) from by simp [rawInt])]
 refine wpAny_bind (wpAny_setField hT hdT (Array.getElem?_eq_some_iff.mp h3).1 ?_)
 have other:∀b,b≠T->(s.heap.update T (Obj.mapFields (·.setIfInBounds 3 Value.none))).get? b=s.heap.get? b:=λb hb=>Heap.get?_update_other _ _ (Ne.symm hb)
 have plain:∀b o,s.heap.get? b=some o->(∀vs,o.data≠ .fields vs)->b≠T:=λb o hb hnf q=>by
  rw [q,hT] at hb;cases hb;exact hnf ts hdT
 refine Jl (s:= {s with heap:=s.heap.update T (Obj.mapFields (·.setIfInBounds 3 Value.none))}) hfr (hl.of_keeps λb o hb hnf=>⟨o,(other b (plain b o hb hnf)).trans hb,rfl⟩) hf ((other e (Ne.symm hTe)).trans he)
  (λb o hb=>(other b λq=>by rw [q,hnT] at hb;cases hb).trans (hkb b o hb)) hen λh' T' H' U=>h h' T' H' λb o hb hnf=>U b o ((other b (plain b o hb hnf)).trans hb) hnf
theorem Fo(H:FlyD base l e dx T a0 fl s.heap)
  (h:∀h',FlyD base l e dx T a0 .none h'->s.heap.UpToSlots h'->Q () {s with heap:=h'}):wpAny M A (setFlight (.ref e) none) Q E s:=by
 obtain ⟨hkb,hen,hnT,hTe,hl,he,oT,ts,hT,hdT,h3⟩:=H
 have hsz:3<ts.size:=(Array.getElem?_eq_some_iff.mp h3).1
 have other:∀b,b≠T->(s.heap.update T (Obj.mapFields (·.setIfInBounds 3 ((none:Option Addr).elim Value.none λf=>rawInt f)))).get? b=s.heap.get? b:=λb hb=>Heap.get?_update_other _ _ (Ne.symm hb)
 have plain:∀b o,s.heap.get? b=some o->(∀vs,o.data≠ .fields vs)->b≠T:=λb o hb hnf q=>by
  rw [q,hT] at hb;cases hb;exact hnf ts hdT
 refine wpAny_bind (wpAny_field he rfl (x:= .ref T) rfl ?_)
 refine wpAny_ite_true (decide_eq_true (show (Value.ref T !=Value.none)=true from by simp)) ?_
 refine wpAny_setField hT hdT hsz (h _ ⟨λb o hb=>(other b λq=>by rw [q,hnT] at hb;cases hb).trans (hkb b o hb),hen,hnT,hTe,hl.of_keeps λb o hb hnf=>⟨o,(other b (plain b o hb hnf)).trans hb,rfl⟩,(other e (Ne.symm hTe)).trans he,?_⟩ λb o hb hnf=>⟨o.slots,(other b (plain b o hb hnf)).trans hb⟩)
 exact ⟨_,_,Heap.get?_update_self _ hT (Obj.isFreed_of_fields (Obj.data_mapFields hdT _)),Obj.data_mapFields hdT _,by simp [hsz]⟩
theorem FlyD.out(H:FlyD base (env::outer) e dx T a0 fl h):FlyD base outer e dx T a0 fl h:=
 ⟨H.stays,H.newE,H.newT,H.ne,H.frames.2.2,H.exc,H.tb⟩
theorem Qz(hfr:A.frames=some (env::outer))(hl:s.heap.FunFrames base (env::outer))(hf:env.frame=some L)
  (he:s.heap.get? e=some (Ar a0 .none dx))(hkb:base.StaysIn s.heap)(hen:base.get? e=none)
  (h:∀h' T,FlyD base outer e dx T a0 .none h'->s.heap.UpToSlots h'->Q () {s with heap:=h'}):wpAny M A (leaving env (.ref e)) Q E s:=by
 unfold leaving
 refine wpAny_bind (R6 hfr hl hf he hkb hen λh' T H U=> ?_)
 exact Fo (s:= {s with heap:=h'}) H λh2 H2 U2=>h h2 T H2.out (U.trans U2)
end
end
section
noncomputable def RaisedD(base G:Heap)(l:List Env)(e dx:Addr)(news:List (Addr×Obj))(h:Heap):Prop:=
 ∃B T a0,base.StaysIn B/\(∀b o,G.get? b=some o->b∉l.filterMap (·.frame)->B.get? b=some o)/\(∀q∈news,B.get? q.1=some q.2/\G.get? q.1=none/\base.get? q.1=none)/\FlyD B l e dx T a0 .none h
section
variable {M:Model}{A:Around}{E:Value->Shared->Prop}{s':Shared}{base g:Heap}{outer:List Env}{L a e dx:Addr}{a0:Value}{m:Str->Option Value}{name:Str}{scope:Scope}{cd:Value}{Q:Unit->Shared->Prop}{news:List (Addr×Obj)}
theorem Kk(K:Below A base outer g)(F:Fr g L s'.heap m)(N:News g L s'.heap ((e,Ar a0 .none dx)::news))(hne:∀q∈news,q.1≠e)
  (hQ:∀h',RaisedD base g outer e dx news h'->g.UpToSlots h'->Q () {s' with heap:=h'})(hk:scope.kind= .function:=by rfl):
  wpAny M (A.deeper (envOf name scope L a cd)) (leaving (envOf name scope L a cd) (.ref e)) Q E s':=by
 have K':=K.push (name:=name) (a:=a) (cd:=cd) F hk
 generalize hfs:(envOf name scope L a cd::outer).filterMap (·.frame)=fs
 have hin:∀env∈(envOf name scope L a cd::outer),∀b,env.frame=some b->b∈fs:=λenv he b hb=>by rw [<-hfs];exact List.mem_filterMap.mpr ⟨env,he,hb⟩
 have he:=(N _ (.head _)).1
 have hge:=(N _ (.head _)).2.2
 have hbe:base.get? e=none:=fresh_of_stays K.stays hge
 have nfr:∀b∈fs,base.get? b=none:=λb hb=>by rw [<-hfs] at hb;exact (K'.frames.mem hb).1
 have st:base.StaysIn (hideAll s'.heap (e::fs)):=λb o q=>hideAll_get _ (K'.stays b o q) λhm=>by
  rcases lC hm with rfl | hm
  ·rw [hbe] at q;cases q
  ·rw [nfr b hm] at q;cases q
 have sg:∀b o,g.get? b=some o->b∉outer.filterMap (·.frame)->(hideAll s'.heap (e::fs)).get? b=some o:=λb o q nm=>hideAll_get _ (F.keep b o q) λhm=>by
  rcases lC hm with rfl | hm
  ·rw [hge] at q;cases q
  ·rw [<-hfs] at hm
   rcases kts_mem hm with z | z
   ·rw [z,kts_self F] at q;cases q
   ·exact nm z
 have hl:∀q∈news,(hideAll s'.heap (e::fs)).get? q.1=some q.2/\g.get? q.1=none/\base.get? q.1=none:=λq hq=>by
  have z:=N q (.tail _ hq)
  refine ⟨hideAll_get _ z.1 λhm=> ?_,z.2.2,fresh_of_stays K.stays z.2.2⟩
  rcases lC hm with hm | hm
  ·exact hne q hq hm
  ·rw [<-hfs] at hm
   obtain ⟨env,hev,hf⟩:=List.mem_filterMap.mp hm
   rcases lC hev with rfl | hev
   ·exact z.2.1 (sJ hf).symm
   ·obtain ⟨o,ho,_⟩:=(K.frames.mem (List.mem_filterMap.mpr ⟨env,hev,hf⟩)).2
    rw [z.2.2] at ho;cases ho
 refine Qz (base:=hideAll s'.heap (e::fs)) K'.stack (funFrames_hide K'.frames λenv hev b hb=>List.mem_cons_of_mem _ (hin env hev b hb)) rfl he (λb o q=>of_hideAll _ q) (hideAll_none _ (.head _)) λh' T H U=> ?_
 exact hQ h' ⟨_,T,a0,st,sg,hl,H⟩ ((Heap.UpToSlots.of_keeps F.keep).trans U)
end
section
variable {prog:Program}{w:World}{A₀:Around}{E:Value->Shared->Prop}{s':Shared}{base g g₀ G:Heap}{outer:List Env}{L a e dx C:Addr}{m:Str->Option Value}{name:Str}{scope:Scope}{cd:Value}
 {n:Str}{b₀:Stmt}{suite:List Stmt}{pos np:Pos}{rest:List ExceptHandler}{Q:Flow->Shared->Prop}{news:List (Addr×Obj)}{KF:Frag}
 {p:Program}{loose:List Str}{mean:ExcName->Option Value}{mg mb:Str->Option Value}{x:Str}
structure CG(base G B g:Heap)(A₀:Around)(outer:List Env)(env:Env)(L:Addr)(m:Str->Option Value)(news:List (Addr×Obj)):Prop where
 K:Below A₀ base outer g
 F:Fr g L G m
 bg:∀b o,G.get? b=some o->b∉(env::outer).filterMap (·.frame)->B.get? b=some o
 l:∀q∈news,B.get? q.1=some q.2/\G.get? q.1=none/\base.get? q.1=none
 L:B.get? L=none
theorem RaisedD.on{h:Heap}{P:Prop}(R:RaisedD base G (envOf name scope L a cd::outer) e dx news h)(F:Fr g L G m)(K:Below A₀ base outer g)(k:∀B T a0,base.StaysIn B->CG base G B g A₀ outer (envOf name scope L a cd) L m news->FlyD B (envOf name scope L a cd::outer) e dx T a0 .none h->P):P:=by
 obtain ⟨B,T,a0,hB,hBG,hl,hfl⟩:=R
 refine k B T a0 hB ⟨K,F,hBG,hl,?_⟩ hfl
 obtain ⟨_,⟨L',_,hf,hn',_⟩,_⟩:=hfl.frames
 exact (sJ hf:L=L')▸hn'
theorem CG.ground{B h₅:Heap}(c:CG base G B g A₀ outer (envOf name scope L a cd) L m news)(H:B.StaysIn h₅)(U:G.UpToSlots h₅){P:Prop}(k:∀g',KtsTurn (outer.filterMap (·.frame)) g g'->Fr g' L h₅ m->Below A₀ base outer g'->P):P:=by
 obtain ⟨g',x,y,z⟩:=kts_ground c.K c.F c.bg H U
 exact k g' x y z
theorem CG.fin{B h₆:Heap}{T:Addr}{a0 fl:Value}{l:List Env}(c:CG base G B g A₀ outer (envOf name scope L a cd) L m news)(H:FlyD B l e dx T a0 fl h₆)(U:G.UpToSlots h₆){P:Prop}(k:∀g',KtsTurn (outer.filterMap (·.frame)) g g'->Fr g' L h₆ m->Below A₀ base outer g'->News g' L h₆ ((e,Ar a0 (.ref T) dx)::news)->P):P:=
 c.ground H.stays U λg₆ T₆ F₆ K₆=>k g₆ T₆ F₆ K₆ (News.more F₆ (λq hq=>⟨H.stays _ _ (c.l q hq).1,λz=>by have:=(c.l q hq).1;rw [z,c.L] at this;exact nn this,T₆.none_ _ (kts_none c.F.keep (c.l q hq).2.1)⟩) H.exc (λes n q=>by cases q) (T₆.none_ _ (kts_fresh c.F c.bg H.newE λo ho mm=>by
  obtain ⟨_,o',ho',hd⟩:=c.K.frames.mem mm
  rw [ho] at ho'
  cases ho'
  obtain ⟨sl,hs⟩:=U _ _ (c.F.keep _ _ ho) hd
  rw [H.exc] at hs
  exact hd _ (congrArg Obj.data (sJ hs)).symm)))
theorem Ov{M:Model}{A:Around}{h:Heap}{gn:Array GenState}{d:Drawn}{t:Nat}{os:OsState}{a0 tb:Value}{Q:Bool->Shared->Prop}{E:Value->Shared->Prop}(X:KF.In g)(q:ktsIn KF 61 "BaseException"=true)(F:Fr g L h m)(he:h.get? e=some (Ar a0 tb dx))(hq:Q true ⟨h,gn,d,t,os⟩):wpAny M A (excMatches (.ref e) (.ref 61)) Q E ⟨h,gn,d,t,os⟩:=by
 obtain ⟨nm,q',N,bs,bm,hdct,sn,sub,ab,col,dd,k0,k1,k2,k3,k5,newId,hC,hbase,_⟩:=kts_cls X q
 exact wpAny_excMatches_sub_self (F.keep _ _ hC) he rfl hbase hq
theorem Je{n:Option Str}{B:Heap}{T:Addr}{a0:Value}(hB:base.StaysIn B)(c:CG base G B g A₀ outer (envOf name scope L a cd) L m news)(hfl:FlyD B (envOf name scope L a cd::outer) e dx T a0 .none s'.heap)(hsm:G.UpToSlots s'.heap)(XB:KF.In base)(TB:Top p loose mean mg mb base)
  (ex:nsIn KF mainGlobals x=some (some (.ref 61)))(q:ktsIn KF 61 "BaseException"=true)(hk:scope.kind= .function)(hx:(envOf name scope L a cd).kindOf x=some .globalImplicit)(hd:(x== ("__debug__":Str))=false)
  (k:∀T h₅ RR,FlyD B (envOf name scope L a cd::outer) e dx T a0 .none h₅->G.UpToSlots h₅->(∀f s₂,(match n with
    | none=>Q f s₂
    | some n=>wpAny (model prog w) (A₀.deeper (envOf name scope L a cd)) (do bindName (envOf name scope L a cd) n .none;unbindBehindTheSuite (envOf name scope L a cd) n pos) (λV s₃=>Q f s₃) E s₂)->RR (.ok f) s₂)->
   codeAny (model prog w) ((A₀.deeper (envOf name scope L a cd)).mark (some (.ref e))) (.handlers (.ref e) [.ExceptHandler none n (b₀::suite) pos] (envOf name scope L a cd)) RR {s' with heap:=h₅}):
  wpAny (model prog w) (A₀.deeper (envOf name scope L a cd)) (noteFrame (.ref e) (envOf name scope L a cd))
   (λV s₂=>wpAny (model prog w) (A₀.deeper (envOf name scope L a cd)) (setFlight (.ref e) none) (λV s₃=>
    wpAny (model prog w) (A₀.deeper (envOf name scope L a cd)) (handleBy (.ref e) (envOf name scope L a cd) (.ExceptHandler (some (.Name x np)) n (b₀::suite) pos::rest)) Q E s₃) E s₂) E s':=
 R5 (Around.frames_deeper c.K.stack) rfl hfl λh₄ T₄ H₄ hsm₄=>Fo (s:= {s' with heap:=h₄}) H₄ λh₅ H₅ hsm₅'=>c.ground H₅.stays (hsm.trans (hsm₄.trans hsm₅')) λg₅ T₅ F₅ K₅=>
  wpAny_handleBy_cons (codeAny_handlers_test (name_K F₅ (XB.keeps K₅.stays) (topRead_of (TB.keeps K₅.stays)) ex (Ov (XB.keeps K₅.stays) q F₅ H₅.exc (k _ h₅ _ H₅ (hsm.trans (hsm₄.trans hsm₅')) λf s₂ z=>by cases n<;>exact z)) hk hx hd)) (λq=>by cases q)
theorem Od(R:RaisedD base G (envOf name scope L a cd::outer) e dx news s'.heap)(F:Fr g L G m)(K:Below A₀ base outer g)(hsm:G.UpToSlots s'.heap)(XB:KF.In base)(TB:Top p loose mean mg mb base)
  (D:KtsDicts (outer.filterMap (·.frame)) g)
  (ex:nsIn KF mainGlobals x=some (some (.ref 61)))(q:ktsIn KF 61 "BaseException"=true)
  (k:∀h' g' T a0,KtsTurn (outer.filterMap (·.frame)) g g'->Fr g' L h' m->News g' L h' ((e,Ar a0 (.ref T) dx)::news)->Below A₀ base outer g'->KF.In g'->Top p loose mean mg mb g'->KtsDicts (outer.filterMap (·.frame)) g'->
   wpAny (model prog w) ((A₀.deeper (envOf name scope L a cd)).mark (some (.ref e))) (execs (b₀::suite) (envOf name scope L a cd)) Q (λV V=>False) {s' with heap:=h'})
  (hk:scope.kind= .function:=by rfl) (hx:(envOf name scope L a cd).kindOf x=some .globalImplicit:=by rfl) (hd:(x== ("__debug__":Str))=false:=by decide):
  wpAny (model prog w) (A₀.deeper (envOf name scope L a cd)) (noteFrame (.ref e) (envOf name scope L a cd))
   (λV s₂=>wpAny (model prog w) (A₀.deeper (envOf name scope L a cd)) (setFlight (.ref e) none) (λV s₃=>
    wpAny (model prog w) (A₀.deeper (envOf name scope L a cd)) (handleBy (.ref e) (envOf name scope L a cd) (.ExceptHandler (some (.Name x np)) none (b₀::suite) pos::rest)) Q E s₃) E s₂) E s':=
 R.on F K λB T a0 hB c hfl=>Je hB c hfl hsm XB TB ex q hk hx hd λT h₅ RR H₅ U hR=>codeAny_handlers_suite (Fo (s:= {s' with heap:=h₅}) H₅ λh₆ H₆ U₆=>c.fin H₆ (U.trans U₆) λg₆ T₆ F₆ K₆ N₆=>
  wpAny_mono (k h₆ g₆ _ _ T₆ F₆ N₆ K₆ (XB.keeps K₆.stays) (TB.keeps K₆.stays) (D.turn T₆)) (λf s z=>hR f s z) λV V z=>z.elim)
theorem Oe{n:Str}(R:RaisedD base G (envOf name scope L a cd::outer) e dx news s'.heap)(F:Fr g L G m)(K:Below A₀ base outer g)(hsm:G.UpToSlots s'.heap)(XB:KF.In base)(TB:Top p loose mean mg mb base)
  (D:KtsDicts (outer.filterMap (·.frame)) g)
  (ex:nsIn KF mainGlobals x=some (some (.ref 61)))(q:ktsIn KF 61 "BaseException"=true)
  (k:∀h' g' T a0 tk,KtsTurn (outer.filterMap (·.frame)) g g'->Fr g' L h' (λy=>if y=n then some (.ref e) else m y)->News g' L h' ((e,Ar a0 (.ref T) dx)::news)->Below A₀ base outer g'->KF.In g'->Top p loose mean mg mb g'->KtsDicts (outer.filterMap (·.frame)) g'->
   wpAny (model prog w) ((A₀.deeper (envOf name scope L a cd)).mark (some (.ref e))) (execs (b₀::suite) (envOf name scope L a cd))
    (λf s₄=>wpAny (model prog w) (A₀.deeper (envOf name scope L a cd)) (do bindName (envOf name scope L a cd) n .none;unbindBehindTheSuite (envOf name scope L a cd) n pos) (λV s₅=>Q f s₅) E s₄)
    (λV V=>False) {s' with heap:=h',toks:=tk})
  (hk:scope.kind= .function:=by rfl) (hlo:(envOf name scope L a cd).kindOf n=some .local:=by rfl) (hx:(envOf name scope L a cd).kindOf x=some .globalImplicit:=by rfl) (hd:(x== ("__debug__":Str))=false:=by decide):
  wpAny (model prog w) (A₀.deeper (envOf name scope L a cd)) (noteFrame (.ref e) (envOf name scope L a cd))
   (λV s₂=>wpAny (model prog w) (A₀.deeper (envOf name scope L a cd)) (setFlight (.ref e) none) (λV s₃=>
    wpAny (model prog w) (A₀.deeper (envOf name scope L a cd)) (handleBy (.ref e) (envOf name scope L a cd) (.ExceptHandler (some (.Name x np)) (some n) (b₀::suite) pos::rest)) Q E s₃) E s₂) E s':=
 R.on F K λB T a0 hB c hfl=>Je hB c hfl hsm XB TB ex q hk hx hd λT h₅ RR H₅ U hR=>codeAny_handlers_suite_as (Fo (s:= {s' with heap:=h₅}) H₅ λh₆ H₆ U₆=>c.fin H₆ (U.trans U₆) λg₆ T₆ F₆ K₆ N₆=>
  stN (s:= {s' with heap:=h₆}) F₆ N₆ (λh₇ F₇ N₇=>wpAny_mono (k h₇ g₆ _ _ _ T₆ F₇ N₇ K₆ (XB.keeps K₆.stays) (TB.keeps K₆.stays) (D.turn T₆)) (λf s z=>hR f s z) λV V z=>z.elim) hk hlo)
end
end
section
theorem Sh:classOwn (.type "Exception") "__init__"=pure (some (.builtin "Exception.__init__")):=by kernel_rfl
theorem slot_wd_get:Slot "wrapper_descriptor" "__get__" "wrapper_descriptor.__get__":= .of (owner:="wrapper_descriptor") (n:="__get__") (by rw [typeLookup_type,builtinLookup_eq_fast];kernel_rfl) (by decide+kernel) (by decide+kernel) (by decide+kernel)
 (by first | exact .inl (by decide+kernel) | exact .inr (by decide+kernel)) (by rw [isSubtype_type];kernel_rfl)
theorem Jo:entryFor table "wrapper_descriptor.__get__"=some Builtin.«wrapper_descriptor.__get__»:=entryFor_of_tree (by kernel_rfl)
theorem Iy(a b c:Value):argsOk "wrapper_descriptor.__get__" ⟨[a,b,c],[]⟩:=by unfold argsOk;kernel_rfl
theorem V9:typeOf (.builtin "Exception.__init__")=pure (.type "wrapper_descriptor"):=by kernel_rfl
section
variable {prog:Program}{w:World}{M:Model}{A:Around}{E:Value->Shared->Prop}{h:Heap}{g:Array GenState}{d:Drawn}{t:Nat}{os:OsState}
theorem Uu
  (hso:h.get? so=some {cls:= .type "super",dict:=none,data:= .fields #[.ref D,.ref x,.ref C],slots:= #[]})(hno:Looks (model prog w) h (opaqueClassAbove (.ref C)) none)
  (hC:Looks (model prog w) h (mroOf (.ref C)) l₀)(hl:(l₀.dropWhile (· != .ref D)).drop 1= .type "Exception"::r)(hx:h.get? x=some ox)(hxc:ox.cls= .ref C)(hsub:Looks (model prog w) h (isSubtype (.ref C) (.type "Exception")) true)(hxC:x≠C)
  (hq:Q (.done (.ret (.ref h.objs.size))) ⟨h.push {cls:= .type "method-wrapper",data:= .fields #[.builtin "Exception.__init__",.ref x]},g,d,t,os⟩):
  wpAny (model prog w) A (Builtin.«super.__getattribute__» ⟨[.ref so,.str "__init__" tk],[]⟩) Q E ⟨h,g,d,t,os⟩:=by
 have hlk:=slot_wd_get.lookup
 have hne:(Value.ref x==Value.ref C)=false:=by simp [hxC]
 have hdt:({cls:= .type "super",dict:=none,data:= .fields #[.ref D,.ref x,.ref C],slots:= #[]}:Obj).data= .fields #[.ref D,.ref x,.ref C]:=rfl
 have f0:(#[.ref D,.ref x,.ref C]:Array Value)[0]?=some (.ref D):=rfl
 have f1:(#[.ref D,.ref x,.ref C]:Array Value)[1]?=some (.ref x):=rfl
 have f2:(#[.ref D,.ref x,.ref C]:Array Value)[2]?=some (.ref C):=rfl
 have hn:(("__init__":Str)== ("__class__":Str))=false:=by decide
 have hTb:(⟨h,g,d,t,os⟩:Shared).TypeIs (.builtin "Exception.__init__") "wrapper_descriptor":=V9
 unfold Builtin.«super.__getattribute__»
 repeat (any_goals first
  | (with_reducible refine wpAny_field hso hdt f0 ?_) | (with_reducible refine wpAny_field hso hdt f1 ?_) | (with_reducible refine wpAny_field hso hdt f2 ?_)
  | (with_reducible refine ks_wpAny_notOpaque hno ?_)
  | (with_reducible refine Looks.at hC ?_;rw [hl])
  | (with_reducible refine wpAny_call_entry slot_wd_get hTb Jo ?_ (Iy _ _ _))
  | (with_reducible refine ⟨_,rfl,?_⟩)
  | (simp only [hne,Bool.false_eq_true,if_false];(with_reducible refine wpAny_call_entry slot_wd_get hTb Jo ?_ (Iy _ _ _)))
  | (rw [List.forIn_cons])
  | (rw [Sh])
  | (with_reducible refine wpAny_typeOf hTb ?_)
  | (simp only [hn,hne,Bool.or_false,Bool.false_eq_true,if_false];done)
  | wp_step)
 have hv:(Value.ref x==Value.none)=false:=by simp
 simp only [hne,hv,Bool.false_eq_true,if_false]
 repeat (any_goals first
  | (with_reducible refine Looks.at hsub ?_)
  | (with_reducible refine wpAny_loadPart_at hx ?_;rw [hxc])
  | wp_step)
 have hs:".".intercalate ("Exception.__init__".cutAt '.').dropLast="Exception":=by decide+kernel
 rw [hs]
 refine Looks.at hsub ?_
 repeat (any_goals wp_step)
 refine ⟨_,rfl,?_⟩
 repeat (any_goals wp_step)
 all_goals exact hq
theorem Ri
  (hso:h.get? so=some {cls:= .type "super",dict:=none,data:= .fields #[.ref D,.ref x,.ref C],slots:= #[]})(hno:Looks (model prog w) h (opaqueClassAbove (.ref C)) none)
  (hC:Looks (model prog w) h (mroOf (.ref C)) l₀)(hl:(l₀.dropWhile (· != .ref D)).drop 1= .type "Exception"::r)(hx:h.get? x=some ox)(hxc:ox.cls= .ref C)(hsub:Looks (model prog w) h (isSubtype (.ref C) (.type "Exception")) true)(hxC:x≠C)
  (hq:Q (.ref h.objs.size,[]) ⟨h.push {cls:= .type "method-wrapper",data:= .fields #[.builtin "Exception.__init__",.ref x]},g,d,t+1,os⟩):
  wpAny (model prog w) A (getMethod (.ref so) "__init__" pl) Q E ⟨h,g,d,t,os⟩:=by
 have hlk:=F.ks_slot_super_ga.lookup
 have hcan:=F.ks_canon_super_ga
 have hT:∀t',(⟨h,g,d,t',os⟩:Shared).TypeIs (.ref so) "super":=λV=>⟨_,hso,rfl⟩
 refine wpAny_bind (wpAny_specialOf (hT _) hlk ?_)
 refine wpAny_ite_true (decide_eq_true hcan) ?_
 refine wpAny_bind (wpAny_bind (wpAny_mkText (wpAny_holding (wpAny_bind (wpAny_typeOf (hT _) (wpAny_bind (wpAny_of_eq hlk ?_)))))))
 refine wpAny_bind (wpAny_of_eq (show (if onTheHeap (.type "super") then typeLookup (.type "super") "__getattr__" else pure none)=pure none from rfl) ?_)
 refine wpAny_bind (wpAny_attempt (wpAny_holding ?_))
 show wpAny _ _ (bindSpecial (.builtin "super.__getattribute__") (.ref so)>>=_) _ _ _
 refine wpAny_bind (wpAny_of_eq (F.ks_slot_super_ga.bind _) ?_)
 refine wpAny_mono (Q:=λv s'=>v= .ref h.objs.size/\s'=⟨h.push {cls:= .type "method-wrapper",data:= .fields #[.builtin "Exception.__init__",.ref x]},g,d,t+1,os⟩) (E:=λV V=>False)
  (wpAny_call_entry F.ks_slot_super_ga (hT _) F.ks_entry_super_ga (Uu hso hno hC hl hx hxc hsub hxC ⟨_,rfl,rfl,rfl⟩) (F.ks_gaArgs_super _ _)) (λv s' hv=> ?_) λV V z=>z.elim
 obtain ⟨rfl,rfl⟩:=hv
 exact wpAny_pure (wpAny_pure hq)
noncomputable abbrev C8(x:Addr):Obj:= {cls:= .type "method-wrapper",data:= .fields #[.builtin "Exception.__init__",.ref x]}
theorem Ob{q x T0:Addr}{v:Value}{C:Addr}{Q:Value->Shared->Prop}{nm qn:Str}{N:Addr}{bs bm:List Value}{hdct:Bool}{sn:List Str}{sub:List Value}{ab:Bool}{col:Option Bool}{dd:Option Addr}{k0 k1 k2 k3 k5:Option Value}{newId:String}(hC:h.get? C=some (excClassObj nm qn C N bs bm hdct sn sub ab col dd k0 k1 k2 k3 k5 newId))(hsub:Looks (model prog w) h (isSubtype (.ref C) (.type "Exception")) true)(hq:h.get? q=some (C8 x))(hx:h.get? x=some {cls:= .ref C,data:= .fields #[.ref T0,.none,.none,.none,.bool false,.none]})
  (hQ:∀h' T,h'.get? x=some {cls:= .ref C,data:= .fields #[.ref T,.none,.none,.none,.bool false,.none]}->h'.get? T=some {cls:= .type "tuple",data:= .seq #[v]}->h.get? T=none->(∀b o,b≠x->h.get? b=some o->h'.get? b=some o)->Q .none ⟨h',g,d,t,os⟩):
  wpAny (model prog w) A (call (.ref q) [v]) Q E ⟨h,g,d,t,os⟩:=by
 have Fx:=PySem.F.excBase_Exception
 refine wpAny_call (codeAny_of_tree ?_)
 show wpAny _ _ (callAny (.ref q) _) _ _ _
 unfold callAny
 refine wpAny_bind (wpAny_load hq ?_)
 repeat (any_goals first
  | (with_reducible refine Looks.at hsub ?_)
  | (with_reducible refine wpAny_loadPart_at hx ?_)
  | (with_reducible refine wpAny_loadPart_at hC ?_)
  | (with_reducible refine wpAny_load hC ?_)
  | wp_step)
 refine ⟨Code.quiet_builtin _ (by decide+kernel),codeAny_builtin Fx.initEntry ?_⟩
 unfold Builtin.«BaseException.__init__»
 repeat (any_goals first
  | (with_reducible refine wpAny_loadPart_at hx ?_)
  | wp_step)
 have hxl:=Heap.lt_size hx
 have h1:=hPu {cls:= .type "tuple",data:= .seq #[v]} hx
 refine hQ _ h.objs.size (Heap.get?_update_self _ h1 rfl) ((Heap.get?_update_other _ _ (Nat.ne_of_lt hxl)).trans (Heap.get?_push_size _ rfl)) (Heap.get?_none_of_le (Nat.le_refl _)) λb o hb e=> ?_
 exact (Heap.get?_update_other _ _ (Ne.symm hb)).trans (hPu _ e)
end
end
section
noncomputable abbrev C7:List Value:= [.ref 48,.type "Exception",.type "BaseException",.type "object"]
noncomputable abbrev C3:Obj:=excClassObj "TableFault" "TableFault" 61 60 [.ref 48] C7 true [] [] false none none (some (.ref 52)) none (some (.str "TableFault" 238)) (some (.str "TableFault" 246)) (some (.bool true)) "Exception.__new__"
theorem Dw(w:World):(hd.heap_39 w.params).lookup 61=some C3:=by k_is
theorem Pz(w:World):findIn (hd.heap_39 w.params) (.ref 61) "__init__"=some (some (.ref 38)):=by k_is
theorem Pe(w:World):typeIn (hd.heap_39 w.params) (.ref 38)=some (.type "function"):=by k_is
section
variable {prog:Program}{w:World}{A:Around}{E:Value->Shared->Prop}{h:Heap}{g:Array GenState}{d:Drawn}{t:Nat}{os:OsState}
theorem R3(rest:List Value):∃(x1 x2:Sem Unit) (x3:Value->String->Sem Unit) (x4:Value->Sem Unit),checkBuiltinCall "Exception.__new__" ⟨.ref 61::rest,[]⟩=
  (isType (.ref 61)>>= λt=>if (!t)=true then x1 else isSubtype (.ref 61) (.type "Exception")>>= λu=>if (!u)=true then x2 else Bind.staticBase (.ref 61)>>= λbase=>Bind.madeBy base>>= λy=>match y with
   | some made=>if (Manifest.canonical made !=Manifest.canonical "Exception.__new__")=true then x3 base made else Bind.checkArgs "Exception.__new__" ⟨.any,"Exception","Exception",.cls,[⟨"args",.varPos,false⟩,⟨"kwargs",.varKw,false⟩]⟩ ⟨.ref 61::rest,[]⟩
   | _=>x4 base):=by
 have Fx:=PySem.F.excBase_Exception
 unfold checkBuiltinCall
 rw [show Manifest.signature? "Exception.__new__"=_ from Fx.newRow,show (builtinKind "Exception.__new__",splitId "Exception.__new__")=(some .builtinFn,some ("Exception","__new__")) by rw [Fx.newKind,Fx.newSplit]]
 apply Exists.intro;apply Exists.intro;apply Exists.intro;apply Exists.intro
 refine Eq.trans (if_pos (by decide)) ?_
 with_unfolding_all rfl
theorem R0(hC:h.get? 61=some C3)(hq:Q () ⟨h,g,d,t,os⟩):
  wpAny M A (checkBuiltinCall "Exception.__new__" ⟨.ref 61::rest,[]⟩) Q E ⟨h,g,d,t,os⟩:=by
 have Fx:=PySem.F.excBase_Exception
 have hcont:(Value.ref 61::C7).contains (.type "Exception")=true:=by decide
 have hstar:=Fx.noStar
 obtain ⟨x1,x2,x3,x4,e⟩:=R3 rest
 rw [e]
 repeat (first | refine wpAny_loadPart_at hC ?_ | (refine wpAny_isSubtype_exc hC ?_;rw [hcont]) | refine wpAny_staticBase_exc hC ?_ | refine wpAny_madeBy_exc hC ?_ | (refine wpAny_ite_false (decide_eq_false (by rw [bne_self_eq_false];exact Bool.false_ne_true)) ?_) | wp_step)
 exact hq
theorem R1(hC:h.get? 61=some C3)
  (hq:R (.ok (.ret (.ref (h.objs.size+1)))) ⟨(h.push {cls:= .type "tuple",data:= .seq rest.toArray}).push {cls:= .ref 61,data:= .fields #[.ref h.objs.size,.none,.none,.none,.bool false,.none]},g,d,t,os⟩)(hrest:rest.length<=sizeLine):
  codeAny (model prog w) A (.builtin "Exception.__new__" ⟨.ref 61::rest,[]⟩) R ⟨h,g,d,t,os⟩:=by
 have Fx:=PySem.F.excBase_Exception
 have hends:=Fx.ends
 have hcB:(Value.ref 61::C7).contains (.type "Exception")=true:=by decide
 have hcA:(Value.ref 61::C7).contains (.type "AttributeError")=false:=by decide
 have hcN:(Value.ref 61::C7).contains (.type "NameError")=false:=by decide
 refine codeAny_builtinAt Fx.entry ?_
 refine PySem.wpAt_bind ?_
 show PySem.wpAt _ _ _ (stack>>=_) _ _ _
 refine PySem.wpAt_bind (PySem.wpAt_stack λp below=>PySem.wpAt_of_wpAny ?_)
 wp_walk
 refine PySem.wpAt_of_wpAny ?_
 rw [Fx.owner]
 repeat (first | with_reducible refine wpAny_madeHere_exc Fx.canon hC ?_ | with_reducible refine wpAny_loadPart_at hC ?_ | (with_reducible refine wpAny_isSubtype_exc hC ?_;first | rw [hcB] | rw [hcA] | rw [hcN]) | wp_step)
 show R _ _
 rw [Heap.size_push]
 exact hq
theorem V8(X:(hd.heap_39 w.params).In h)(hrest:rest.length<=sizeLine)
  (hq:∀h' e,Heap.MadeExcOf h h' e (.ref 61) rest->wpAny (model prog w) A (call (.ref 38) (.ref e::rest)) (λr s'=>r= .none/\Q (.done (.ret (.ref e))) s') E ⟨h',g,d,t,os⟩):
  wpAny (model prog w) A (Builtin.«type.__call__» ⟨.ref 61::rest,[]⟩) Q E ⟨h,g,d,t,os⟩:=by
 have Fx:=PySem.F.excBase_Exception
 have hC:h.get? 61=some C3:=X _ _ (Dw w)
 repeat (first | with_reducible refine wpAny_loadPart_at hC ?_ | with_reducible refine wpAny_madeBy_exc hC ?_ | wp_step)
 refine codeAny_call_builtin_code (Code.quiet_builtin _ Fx.quiet) (R0 hC ?_)
 refine R1 hC ?_ hrest
 have kk:∀b o,h.get? b=some o->((h.push {cls:= .type "tuple",data:= .seq rest.toArray}).push {cls:= .ref 61,data:= .fields #[.ref h.objs.size,.none,.none,.none,.bool false,.none]}).get? b=some o:=
  λb o e=>hPu _ (hPu _ e)
 have hC₁:=kk _ _ hC
 have X₁:=X.keeps kk
 have hget:((h.push {cls:= .type "tuple",data:= .seq rest.toArray}).push
   {cls:= .ref 61,data:= .fields #[.ref h.objs.size,.none,.none,.none,.bool false,.none]}).get? (h.objs.size+1)=some
   {cls:= .ref 61,data:= .fields #[.ref h.objs.size,.none,.none,.none,.bool false,.none]}:=by heap_get
 have hcC:(Value.ref 61::C7).contains (.ref 61)=true:=by decide
 unfold isInstance
 repeat (first | with_reducible refine wpAny_loadPart_at hget ?_ | (with_reducible refine wpAny_isSubtype_exc hC₁ ?_;rw [hcC]) | wp_step)
 show wpAny _ _ (typeLookup (.ref 61) _) _ _ _
 refine (looks_findIn X₁ (Pz w)).here ?_
 refine wpAny_holding (wpAny_bind ?_)
 unfold bindSpecial
 refine wpAny_bind ((looks_typeIn X₁ (Pe w)).here ?_)
 refine wpAny_ite_true (by decide) ?_
 refine wpAny_pure (wpAny_bind (wpAny_mono (hq _ (h.objs.size+1) ⟨kk,Heap.get?_none_of_le (Nat.le_succ _),h.objs.size,hget,Heap.get?_none_of_le (Nat.le_refl _),?_⟩) (λr s' hr=> ?_) λV V x=>x))
 ·exact hPu _ (Heap.get?_push_at rfl rfl)
 ·obtain ⟨rfl,hQ⟩:=hr
  wp_walk
  exact hQ
theorem N8(X:(hd.heap_39 w.params).In h)(hrest:rest.length<=sizeLine)
  (hq:∀h' e,Heap.MadeExcOf h h' e (.ref 61) rest->wpAny (model prog w) (A.under (.builtin "type.__call__" ⟨.ref 61::rest,[]⟩)) (call (.ref 38) (.ref e::rest)) (λr s'=>r= .none/\Q (.ref e) s') E ⟨h',g,d,t,os⟩):
  wpAny (model prog w) A (call (.ref 61) rest) Q E ⟨h,g,d,t,os⟩:=by
 have hC:h.get? 61=some C3:=X _ _ (Dw w)
 have f1:=tc_lookup
 have f2:=tc_bind (.ref 61)
 have hT:(⟨h,g,d,t,os⟩:Shared).TypeIs (.ref 61) "type":=⟨_,hC,rfl⟩
 refine wpAny_call (codeAny_of_tree ?_)
 show wpAny _ _ (callAny (.ref 61) _) _ _ _
 repeat (any_goals (first | assumption | with_reducible refine wpAny_loadPart_at hC ?_ | wp_step))
 refine ⟨rfl,?_⟩
 refine codeAny_call_builtin_at (Code.quiet_builtin _ (by decide+kernel)) entry_typeCall (wpAny_check_type_call_sub hC (V8 (w:=w) X hrest λh' e hm=> ?_))
 exact hq h' e hm
end
end
section
theorem Tw(w:World):findIn (hd.heap_39 w.params) (.ref 61) "__setattr__"=some (some (.builtin "object.__setattr__")):=by k_is
theorem Wg(w:World):findIn (hd.heap_39 w.params) (.ref 61) "what"=some none:=by k_is
theorem I1(w:World):findIn (hd.heap_39 w.params) (.ref 61) "at"=some none:=by k_is
theorem J4(w:World):(clsIn (hd.heap_39 w.params) 61).map (·.hasDict)=some true:=by rfl
theorem Kw(w:World):(clsIn (hd.heap_39 w.params) 61).map (·.mro)=some [.ref 61,.ref 48,.type "Exception",.type "BaseException",.type "object"]:=by rfl
theorem R9(w:World):mroIn (hd.heap_39 w.params) 61 (.type "object")=some true:=by k_is
theorem Ti(x:Value):refuseLoop x "__setattr__" [.ref 61,.ref 48,.type "Exception",.type "BaseException",.type "object"]=pure ():=by
 rw [refuseLoop_ref,refuseLoop_ref];exact PySem.F.store_Exception.passes x
section
variable {prog:Program}{w:World}{A:Around}{E:Value->Shared->Prop}{s:Shared}{x:Addr}{ox:Obj}{od:Option Obj}{name:Str}{v:Value}{h₀:Heap}{L:Addr}{m:Str->Option Value}{news:List (Addr×Obj)}
theorem Lr(X:(hd.heap_39 w.params).In s.heap)(I:InstAt s.heap x ox 61 od)(ha:findIn (hd.heap_39 w.params) (.ref 61) name=some none)
  (h:wpAny (model prog w) A.in1 (PySem.Builtin.ObjectAttr.storeInOwnDict (.ref x) (.ref 61) (.str name s.toks) name v false) (λfin s'=>∃u,fin=PySem.Fin.done (.ret u)/\Q () s') (λV V=>False) {s with toks:=s.toks+1}):
  wpAny (model prog w) A (setAttr (.ref x) name v) Q E s:=by
 have SF:=PySem.F.store_object
 refine set_plain X I (Tw w) ?_
 have hk:∀b o,s.heap.get? b=some o->({s with toks:=s.toks+1}:Shared).heap.get? b=some o:=λV V e=>e
 have sub:Looks (model prog w) s.heap (isInstance (.ref x) (.type "object")) true:=I.type.andThen (looks_mroIn X (R9 w))
 refine codeAny_call_builtin SF.slot.plain SF.entry (@check_slot (model prog w) _ _ {s with toks:=s.toks+1} "object.__setattr__" "object" "__setattr__" (.ref x) [.str name s.toks,v] [] _ SF.kind SF.split sub (SF.args (.ref x) (.str name s.toks) v) ?_)
 obtain ⟨cd,hc,hcm⟩:=Option.map_eq_some_iff.mp (Kw w)
 have hm:Looks (model prog w) s.heap (mroOf (.ref 61)) cd.mro:=(looks_clsIn X hc).andThen .now
 rw [osa_eq,refuse_eq]
 refine wpAny_bind (wpAny_bind (I.type.here (s:= {s with toks:=s.toks+1}) (wpAny_bind (hm.here (s:= {s with toks:=s.toks+1}) ?_))))
 rw [hcm,Ti]
 refine wpAny_pure (wpAny_bind (I.type.here (s:= {s with toks:=s.toks+1}) (wpAny_bind ((looks_findIn X ha).here (s:= {s with toks:=s.toks+1}) (wpAny_bind (wpAny_pure ?_))))))
 refine wpAny_mono h (λfin s' z=> ?_) λV V z=>z.elim
 obtain ⟨u,rfl,hq⟩:=z
 exact hq
theorem L4(D:s.heap.get? dx=some (dictOf es n))(hl:(getL name es).isSome=true)(hz:(putL name (PyData.keyHash w.params name) (.str name s.toks) v es).length<=1000)
  (h:Q (.done (.ret .none)) {s with heap:=s.heap.update dx (Obj.putName name (PyData.keyHash w.params name) (.str name s.toks) v),toks:=s.toks+1}):
  wpAny (model prog w) A (PySem.Builtin.ObjectAttr.storeInDict dx (.str name tk) name v) Q E s:=by
 refine wpAny_bind (wpAny_pure (wpAny_bind ?_))
 unfold nsSet
 refine wpAny_bind (wpAny_bind (wpAny_askSetting (wpAny_pure (wpAny_bind (wpAny_mkText (wpAny_bind (wpAny_loadPart D ?_)))))))
 dsimp only
 have c:(!es.toArray.any (·.key.isStr name)&&es.toArray.any (·.refKey))=false:=by
  unfold getL at hl
  rw [<-Array.any_toList,<-Array.any_toList]
  split at hl
  ·rename_i en he
   rw [List.any_eq_true.mpr ⟨en,List.mem_of_find?_eq_some he,List.find?_some he⟩];rfl
  ·split at hl
   ·cases hl
   ·rename_i z;rw [Bool.not_eq_true] at z;rw [z,Bool.and_false]
 rw [aRefKeyMayBeTheName_at,c]
 refine wpAny_updatePart D ?_
 have D':=Heap.get?_update_self (Obj.putName name (PyData.keyHash w.params name) (.str name s.toks) v) D (by rw [putName_dict];rfl)
 rw [putName_dict] at D'
 refine wpAny_bind (wpAny_lookBehind (s:= {s with heap:=s.heap.update dx (Obj.putName name (PyData.keyHash w.params name) (.str name s.toks) v),toks:=s.toks+1}) D' (pastItsLine_dict (by rw [List.size_toArray,sizeLine_eq];omega)) ?_)
 exact wpAny_pure h
noncomputable abbrev Ee(T0:Addr):Obj:= {cls:= .ref 61,data:= .fields #[.ref T0,.none,.none,.none,.bool false,.none]}
theorem T5(X:(hd.heap_39 w.params).In s.heap)(hx:s.heap.get? x=some (Ee T0))(ha:findIn (hd.heap_39 w.params) (.ref 61) name=some none)
  (h:∀h' dx tk,s.heap.get? dx=none->h'.get? x=some (Ar (.ref T0) .none dx)->h'.get? dx=some (dictOf [⟨PyData.keyHash w.params name,.str name tk,v⟩] 1)->(∀b o,b≠x->s.heap.get? b=some o->h'.get? b=some o)->Q () {s with heap:=h',toks:=s.toks+2}):
  wpAny (model prog w) A (setAttr (.ref x) name v) Q E s:=by
 refine Lr X (od:=none) ⟨hx,rfl,rfl,trivial⟩ ha ?_
 obtain ⟨cd,hc,hcd⟩:=Option.map_eq_some_iff.mp (J4 w)
 refine wpAny_bind (wpAny_pure (wpAny_bind (wpAny_bind (wpAny_loadPart hx (wpAny_bind ((looks_clsIn X hc).here (s:= {s with toks:=s.toks+1}) ?_))))))
 rw [hcd]
 have hxl:=Heap.lt_size hx
 have h1:=hPu {cls:= .type "dict",data:= .dict #[]} hx
 have hxn:x≠s.heap.objs.size:=Nat.ne_of_lt hxl
 refine wpAny_bind (wpAny_alloc ?_)
 refine wpAny_bind (wpAny_update h1 ?_)
 refine wpAny_bind (wpAny_pure ?_)
 refine wpAny_pure ?_
 have h2:((s.heap.push {cls:= .type "dict",data:= .dict #[]}).update x (λo=> {o with dict:=some s.heap.objs.size})).get? s.heap.objs.size=some (dictOf [] 0):=
  (Heap.get?_update_other _ _ hxn).trans (Heap.get?_push_size _ rfl)
 have h3:=Heap.get?_update_self (λo=> {o with dict:=some s.heap.objs.size}) h1 rfl
 refine L4 (es:= []) (n:=0) h2 rfl (by show 1<=1000;decide) ⟨_,rfl,?_⟩
 have D':=Heap.get?_update_self (Obj.putName name (PyData.keyHash w.params name) (.str name (s.toks+1)) v) h2 rfl
 rw [putName_dict] at D'
 refine h _ s.heap.objs.size (s.toks+1) (Heap.get?_none_of_le (Nat.le_refl _)) ((Heap.get?_update_other _ _ (Ne.symm hxn)).trans h3) D' λb o hb e=> ?_
 exact (Heap.get?_update_other _ _ (Nat.ne_of_gt (Heap.lt_size e))).trans ((Heap.get?_update_other _ _ (Ne.symm hb)).trans (hPu _ e))
theorem Ud(X:(hd.heap_39 w.params).In s.heap)(hx:s.heap.get? x=some (Ar (.ref T0) tb dx))(hdx:s.heap.get? dx=some (dictOf es n))(ha:findIn (hd.heap_39 w.params) (.ref 61) name=some none)
  (hl:(getL name es).isSome=true)(hz:∀tk,(putL name (PyData.keyHash w.params name) (.str name tk) v es).length<=1000)
  (h:∀h' tk,h'.get? dx=some (dictOf (putL name (PyData.keyHash w.params name) (.str name tk) v es) (putN name es n))->(∀b o,b≠dx->s.heap.get? b=some o->h'.get? b=some o)->Q () {s with heap:=h',toks:=s.toks+2}):
  wpAny (model prog w) A (setAttr (.ref x) name v) Q E s:=by
 refine Lr X (od:=some (dictOf es n)) ⟨hx,rfl,rfl,hdx⟩ ha ?_
 obtain ⟨cd,hc,hcd⟩:=Option.map_eq_some_iff.mp (J4 w)
 refine wpAny_bind (wpAny_pure (wpAny_bind (wpAny_bind (wpAny_loadPart hx (wpAny_bind ((looks_clsIn X hc).here (s:= {s with toks:=s.toks+1}) ?_))))))
 rw [hcd]
 refine wpAny_pure ?_
 refine L4 (s:= {s with toks:=s.toks+1}) hdx hl (hz _) ⟨_,rfl,?_⟩
 have D':=Heap.get?_update_self (Obj.putName name (PyData.keyHash w.params name) (.str name (s.toks+1)) v) hdx (by rw [putName_dict];rfl)
 rw [putName_dict] at D'
 exact h _ _ D' λb o hb e=>(Heap.get?_update_other _ _ (Ne.symm hb)).trans e
theorem Pf(w:World):findIn (hd.heap_39 w.params) (.ref 61) "__getattribute__"=some (some (.builtin "BaseException.__getattribute__")):=by k_is
theorem Pi(w:World):findIn (hd.heap_39 w.params) (.ref 61) "__getattr__"=some none:=by k_is
theorem Na(w:World):mroIn (hd.heap_39 w.params) 61 (.type "BaseException")=some true:=by k_is
theorem Pk(w:World):hasDictIn (hd.heap_39 w.params) 61=true:=by k_is
theorem noGet_none(K:Frag):noGet K none=true:=rfl
theorem Ph(X:(hd.heap_39 w.params).In s.heap)(hx:s.heap.get? x=some (Ar a0 tb dx))(hdx:s.heap.get? dx=some (dictOf es n))
  (hl:getL "at" es=some (some v))(hh:handedIn v=true)(h:Q v {s with toks:=s.toks+1}):wpAny (model prog w) A (getAttr (.ref x) "at" expr) Q E s:=by
 have FB:=PySem.F.attrBase_Exception
 have I:InstAt s.heap x (Ar a0 tb dx) 61 (some (dictOf es n)):=⟨hx,rfl,rfl,hdx⟩
 obtain ⟨hp,g,d,t,os⟩:=s
 have f3:=FB.ga.bind (.ref x)
 have hx0:(expr&&onTheHeap (Value.builtin "BaseException.__getattribute__"))=false:=by cases expr<;>rfl
 have hx2:(Value.builtin "BaseException.__getattribute__"==Value.builtin "object.__getattribute__")=false:=by decide+kernel
 have hx1:(onTheHeap (Value.ref 61)&&Value.builtin "BaseException.__getattribute__"==Value.builtin "object.__getattribute__")=false:=by rw [hx2];rfl
 repeat (any_goals (first | assumption | (with_reducible refine wpAny_loadPart_at hx ?_) | with_reducible refine (looks_findIn X (Pf w)).at ?_ | with_reducible refine (looks_findIn X (Pi w)).at ?_ | wp_step))
 have L0:=I.type (M:=model prog w)
 have sub:Looks (model prog w) hp (isInstance (.ref x) (.type "BaseException")) true:=L0.andThen (looks_mroIn X (Na w))
 have hl':lookIn "at" (dictOf es n)=some (some v):=(lookIn_dict "at" es n).trans hl
 have LF:=looks_find (M:=model prog w) X I (findObj_own (Pk w) (I1 w) (noGet_none _) hl')
 have hk:builtinKind "BaseException.__getattribute__"=some .slot:=by decide+kernel
 have hsplit:splitId "BaseException.__getattribute__"=some ("BaseException","__getattribute__"):=by decide+kernel
 refine codeAny_call_builtin FB.ga.plain PySem.F.entry_bexc_ga (@check_slot (model prog w) _ _ ⟨hp,g,d,t+1,os⟩ "BaseException.__getattribute__" "BaseException" "__getattribute__" (.ref x) [.str "at" t] [] _ hk hsplit sub (PySem.F.args_bexc_ga (.ref x) (.str "at" t)) ?_)
 clear hk hsplit f3 hx0 hx1 hx2 FB
 unfold Builtin.«object.__getattribute__»
 repeat (first | with_reducible refine LF.at ?_ | (with_reducible refine wpAny_loadPart_at hx ?_) | wp_step)
 show wpAny _ _ (handedOut v) _ _ _
 rw [handedOut_of hh]
 exact wpAny_pure h
end
end
example:Fl:=by walk_at "zF"
section
example:True:=by
 k_with "eval Constant int"=>(refine Dq ?_)
 trivial
example:True:=by
 k_with "binaryOp Add int int"=>(refine Dl ?_)
 trivial
example:True:=by
 k_with "storeName"=>(k_here;k_dflt (refine' D4 ?F ?N ?_ ?a ?b;(case F=>k_asm);(case N=>k_asm);(case a=>rfl);(case b=>rfl));intro h' k' F' N')
 trivial
section
variable {M:Model}{A:Around}{E:Value->Shared->Prop}{s:Shared}
theorem Nv(hplain:args.any (·.1)=false)
  (h:wpAny M A (evalArgs (.ref u) true args []) (λy s₁=>s₁.heap.get? u=some (C8 x)/\wpAny M A (call (.ref u) (first++y.pos) y.kw) Q E s₁) E s):wpAny M A (callWith pos (.ref u) first args []) Q E s:=by
 unfold callWith
 refine wpAny_bind (wpAny_holding (wpAny_mono h (λy s₁ h₁=>wpAny_bind (wpAny_standAt ?_)) λV V x=>x))
 obtain ⟨ho,hcall⟩:=h₁
 rw [hplain]
 refine wpAny_bind (m:=keeperOf (.ref u)) ?_
 refine wpAny_bind (wpAny_load ho ?_)
 refine wpAny_pure ?_
 exact wpAny_bind (wpAny_mono hcall (λr s₂ hr=>wpAny_bind (wpAny_holding (wpAny_point (wpAny_pure hr)))) λV V x=>x)
theorem Nw
  (h:wpAny M A (spliced (backTo pos (starEach (e::rest) env))) (λvs s₁=>s₁.heap.get? u=some (C8 x)/\wpAny M A (call (.ref u) (first++vs)) Q E s₁) E s)
  (he:starEach (e::rest) env=(false,eval e env)::starEach rest env:=by rfl)(hplain:(backTo pos (starEach rest env)).any (·.1)=false:=by rfl):
  wpAny M A (callWith pos (.ref u) first (backTo pos (starEach (e::rest) env)) []) Q E s:=by
 rw [he] at h ⊢
 refine Nv (x:=x) (by show (false|| (backTo pos (starEach rest env)).any (·.1))=false;rw [hplain];rfl) ?_
 exact evalArgs_plain h
end
theorem Kz(F:Fr h₀ L h m)(ha:h.get? a=none)(N:News h₀ L h' news)(ho:h'.get? a=some o):News h₀ L h' ((a,o)::news):=by
 intro p hp
 rcases lC hp with rfl | hp
 ·refine ⟨ho,λq=> ?_,?_⟩
  ·obtain ⟨oL,es,ep,hL,r⟩:=F.ns
   have q':a=L:=q
   rw [<-q',ha] at hL;cases hL
  ·cases z:h₀.get? a with
   | none=>rfl
   | some o'=>have:=F.keep _ _ z;rw [ha] at this;cases this
 ·exact N p hp
theorem Ky(N:News h₀ L h news)(ha:h.get? a=none):∀q∈news,q.1≠a:=λq hq e=>by
 have:=(N q hq).1
 rw [e,ha] at this;cases this
theorem P0(hargs:args= [.str x t,.int n u]\/(args= [.str x t]/\n= -1/\u=209))
  (B:Below A₀ base outer h₀)(F:Fr h₀ L s.heap m)(X:(hd.heap_39 w.params).In h₀)(N:News h₀ L s.heap ((e,Ee T0)::news))(hne:∀q∈news,q.1≠e)(T:Top p loose mean mg mb h₀)(hA:A.frames=some (env::outer))(hf:env.frame=some L)(hk:env.scope.kind= .function)(hroom:A.depth<recursionLimit)
  (h:∀h' dx T tk1 tk2 tk,Fr h₀ L h' m->News h₀ L h' ((e,Ar (.ref T) .none dx)::(dx,dictOf [⟨PyData.keyHash w.params "what",.str "what" tk1,.str x t⟩,⟨PyData.keyHash w.params "at",.str "at" tk2,.int n u⟩] 2)::news)->(∀q∈news,q.1≠dx)->dx≠e->R (.ok (.ret .none)) {s with heap:=h',toks:=tk}):
  codeAny (model PySem.Challenge.rw_nu0172_01.row.prog w) A (.call (.ref 38) ⟨.ref e::args,[]⟩) R s:=by
 refine' ks_code_super (env:=env) (binds:= [("self",.ref e),("what",.str x t),("at",.int n u)]) B F X N T hA hf hk ?k6 ?k7 ?k8 ?k9 ?kB ?_ ?c1 ?c2 ?c3 ?c4
 case k6=>k_is
 case k7=>k_is
 case k8=>exact hroom
 case k9=>
  rcases hargs with rfl | ⟨rfl,rfl,rfl⟩
  ·exact binds_K (X.keeps F.keep) rfl (by k_is) rfl rfl rfl
  ·exact binds_K (X.keeps F.keep) rfl (by k_is) rfl rfl rfl
 case kB=>exact locs rfl
 case c1=>decide
 case c2=>exact rfl
 case c3=>exact rfl
 case c4=>exact rfl
 intro g' L' h' FG' F' N' B' X' T' l1
 (try dsimp only)
 have hxC:e≠61:=λq=>by
  have z:=(N _ (.head _)).2.2
  rw [q,X _ _ (Dw w)] at z
  cases z
 clear B F N hargs
 k_steps
 refine ks_node (x:=e) (C:=61) (D:=48) (ox:=Ee T0) (odx:=none) F' X' N' T' (by k_is) (by rfl) (by rfl) ⟨(N' _ (.head _)).1,rfl,rfl,trivial⟩ (by k_is) (by rfl) (by first | rfl | decide+kernel) (by k_is) (by k_is) (by k_is) (by k_is) (by decide) (by rfl) (by rfl) (by rfl) (by rfl) (by decide+kernel) (by first | boot_by_name | rfl | kernel_rfl) ?_
 intro so h1 F1 N1 l2
 have X1:(hd.heap_39 w.params).In h1:=X'.keeps F1.keep
 obtain ⟨cd,hc,hcm⟩:=Option.map_eq_some_iff.mp (Kw w)
 have hC:Looks (model PySem.Challenge.rw_nu0172_01.row.prog w) h1 (mroOf (.ref 61)) cd.mro:=(looks_clsIn X1 hc).andThen .now
 have hsub:Looks (model PySem.Challenge.rw_nu0172_01.row.prog w) h1 (isSubtype (.ref 61) (.type "Exception")) true:=looks_mroIn X1 (by k_is)
 refine Ri (C:=61) (D:=48) (x:=e) (ox:=Ee T0) (l₀:=cd.mro) (r:= [.type "BaseException",.type "object"]) (N1 _ (.head _)).1 (looks_opaque X1 (by k_is)) hC (by rw [hcm];rfl) (N1 _ (.tail _ (.head _))).1 rfl hsub hxC ?_
 have F2:=F1.push (C8 e)
 have N2:=News.push F1 N1 (C8 e) rfl
 have l3:∀q∈((so,ks_superObj 48 e 61)::(e,Ee T0)::news),q.1<h1.objs.size:=λq hq=>Heap.lt_size (N1 q hq).1
 generalize h1.objs.size=q at F2 N2 l3
 generalize h1.push (C8 e)=h2 at F2 N2
 clear F1 N1 X1 hC hsub
 refine Nw (x:=e) ?_
 k_steps
 ·exact (N2 _ (.head _)).1
 have X2:(hd.heap_39 w.params).In h2:=X'.keeps F2.keep
 have hsub2:Looks (model PySem.Challenge.rw_nu0172_01.row.prog w) h2 (isSubtype (.ref 61) (.type "Exception")) true:=looks_mroIn X2 (by k_is)
 refine Ob (C:=61) (X2 _ _ (Dw w)) hsub2 (N2 _ (.head _)).1 (N2 _ (.tail _ (.tail _ (.head _)))).1 ?_
 intro h3 Te he3 hTe hTn hk3
 have qe:q≠e:=Nat.ne_of_gt (l3 _ (.tail _ (.head _)))
 have se:so≠e:=Nat.ne_of_gt (l2 _ (.head _))
 obtain ⟨F3,N3⟩:=Cw F2 N2 (.tail qe (.tail se (.head hne))) hk3 he3
 clear F2 N2 X2 hsub2 he3 hTe hTn hk3
 k_steps
 refine T5 (X'.keeps F3.keep) (N3 _ (.tail _ (.tail _ (.head _)))).1 (Wg w) ?_
 intro h4 dx tk1 hd0 he4 hd4 hk4
 have ap:=Ky N3 hd0
 obtain ⟨F4,N4⟩:=Cw F3 N3 (.tail qe (.tail se (.head hne))) hk4 he4
 replace N4:=Kz F3 hd0 N4 hd4
 have dxe:dx≠e:=λz=>ap _ (.tail _ (.tail _ (.head _))) z.symm
 have apn:∀z∈news,z.1≠dx:=λz hz=>ap z (.tail _ (.tail _ (.tail _ hz)))
 have dxq:∀z∈((q,C8 e)::(so,ks_superObj 48 e 61)::(e,Ar (.ref Te) .none dx)::news),z.1≠dx:=λz hz=>by
  rcases lC hz with rfl | hz
  ·exact ap _ (.head _)
  rcases lC hz with rfl | hz
  ·exact ap _ (.tail _ (.head _))
  rcases lC hz with rfl | hz
  ·exact Ne.symm dxe
  ·exact apn z hz
 clear F3 N3 ap hd0 he4 hd4 hk4
 k_steps
 refine Ud (X'.keeps F4.keep) (N4 _ (.tail _ (.tail _ (.tail _ (.head _))))).1 (N4 _ (.head _)).1 (I1 w) (by rfl) (λtk=>by show 2<=1000;decide) ?_
 intro h5 tk2 hd5 hk5
 obtain ⟨F5,N5⟩:=Cw F4 N4 (.head dxq) hk5 hd5
 clear F4 N4 hd5 hk5
 k_steps
 rename Fr h₀ L h5 m=>kF
 rename News h₀ L h5 _=>kN
 refine h h5 dx Te tk1 tk2 _ kF (λz hz=>kN z ?_) apn dxe
 rcases lC hz with rfl | hz
 ·exact .tail _ (.tail _ (.tail _ (.head _)))
 rcases lC hz with rfl | hz
 ·exact .head _
 ·exact .tail _ (.tail _ (.tail _ (.tail _ hz)))
example:True:=by
 k_with_none
 trivial
end
example:Fl:=by walk_at "zF"
section
noncomputable abbrev B6(w:World)(tk1 tk2:Tok)(x:Str)(t:Tok)(n:Int)(u:Tok):Obj:=dictOf [⟨PyData.keyHash w.params "what",.str "what" tk1,.str x t⟩,⟨PyData.keyHash w.params "at",.str "at" tk2,.int n u⟩] 2
section
variable {w:World}{p:Program}{loose:List Str}{mean:ExcName->Option Value}{mg mb:Str->Option Value}{env:Env}{outer:List Env}{A A₀:Around}{base h₀:Heap}{L:Addr}{m:Str->Option Value}{s:Shared}{x:Str}{t u:Tok}{n:Int}{news:List (Addr×Obj)}{args:List Value}
theorem Jd(hargs:args= [.str x t,.int n u]\/(args= [.str x t]/\n= -1/\u=209))
  (B:Below A₀ base outer h₀)(F:Fr h₀ L s.heap m)(X:(hd.heap_39 w.params).In h₀)(N:News h₀ L s.heap news)(T:Top p loose mean mg mb h₀)(hA:A.frames=some (env::outer))(hf:env.frame=some L)(hk:env.scope.kind= .function)(hroom:A.depth+1<recursionLimit)
  (h:∀h' e dx T tk1 tk2 tk,Fr h₀ L h' m->News h₀ L h' ((e,Ar (.ref T) .none dx)::(dx,B6 w tk1 tk2 x t n u)::news)->(∀q∈news,q.1≠e)->(∀q∈news,q.1≠dx)->dx≠e->Q (.ref e) {s with heap:=h',toks:=tk}):
  wpAny (model PySem.Challenge.rw_nu0172_01.row.prog w) A (call (.ref 61) args) Q E s:=by
 have hlen:args.length<=sizeLine:=by
  rw [sizeLine_eq]
  rcases hargs with rfl | ⟨rfl,_⟩
  ·show 2<=16777216;decide
  ·show 1<=16777216;decide
 obtain ⟨hp,g,d,tk,os⟩:=s
 refine N8 (X.keeps F.keep) hlen λh1 e hm=> ?_
 obtain ⟨T0,he,_,_⟩:=hm.there
 have F1:=F.keeps hm.keeps
 have N0:News h₀ L h1 news:=λq hq=>⟨hm.keeps _ _ (N q hq).1,(N q hq).2⟩
 have N1:=Kz F hm.new N0 he
 have ap:=Ky N hm.new
 refine wpAny_call (P0 hargs (s:=⟨h1,g,d,tk,os⟩) (env:=env) (outer:=outer) B F1 X N1 ap T (by obtain ⟨_,_,_,_,_⟩:=A;cases hA;rfl) hf hk hroom λh2 dx T tk1 tk2 tk' F2 N2 a1 a2=> ?_)
 exact ⟨rfl,h h2 e dx T tk1 tk2 tk' F2 N2 ap a1 a2⟩
end
section
variable {prog:Program}{w:World}{A:Around}{E:Value->Shared->Prop}{env:Env}{s:Shared}
theorem Tf(hh:A.handled=none)
  (h:wpAny M A x (λv s₁=>∃e a0 dx,v= .ref e/\s₁.heap.get? 61=some C3/\s₁.heap.get? e=some (Ar a0 .none dx)/\E (.ref e) s₁) E s):
  wpAny M A (raiseStmt env (some x) none) Q E s:=by
 have hcB:(Value.ref 61::C7).contains (.type "BaseException")=true:=by decide
 refine wpAny_bind (wpAny_mono h (λv s₁ h₁=> ?_) λV V x=>x)
 obtain ⟨e,a0,dx,rfl,hC,he,hE⟩:=h₁
 obtain ⟨hp,g,d,tk,os⟩:=s₁
 repeat (first | with_reducible refine wpAny_loadPart_at he ?_ | with_reducible refine wpAny_loadPart_at hC ?_ | (with_reducible refine wpAny_isSubtype_exc hC ?_;rw [hcB]) | wp_step)
 exact wpAny_raiseNew_none hh hE
theorem Ir(hh:A.handled=none)
  (h:wpAny (model prog w) A (eval x env) (λv s₁=>∃e a0 dx,v= .ref e/\s₁.heap.get? 61=some C3/\s₁.heap.get? e=some (Ar a0 .none dx)/\E (.ref e) s₁) E s):
  wpAny (model prog w) A (exec (.Raise (some x) none pos) env) Q E s:=by
 rw [arm_exec_Raise]
 refine wpAny_bind (wpAny_standAt (Tf hh ?_))
 exact wpAny_bind (wpAny_mono h (λv s₁ h₁=>wpAny_bind (wpAny_standAt (wpAny_pure h₁))) λV V x=>x)
end
end
section
noncomputable def Dj(w:World)(base h₀:Heap)(l:List Env)(L:Addr)(m:Str->Option Value)(news:List (Addr×Obj))(atv:Int)(e:Addr)(h':Heap):Prop:=
 ∃G dx tk1 tk2 x t u,Fr h₀ L G m/\G.UpToSlots h'/\RaisedD base G l e dx ((dx,B6 w tk1 tk2 x t atv u)::news) h'
noncomputable def Is(w:World)(f:Addr)(k:Nat)(args:Args)(ro:List (Addr×Obj))(atv:Int):Prop:=
 ∀(p:Program) (loose:List Str) (mean:ExcName->Option Value) (mg mb:Str->Option Value) (A A₀:Around) (env:Env) (outer:List Env) (base h₀:Heap) (L:Addr) (m:Str->Option Value) (news:List (Addr×Obj)) (s:Shared) (R:Result->Shared->Prop),
  A.frames=some (env::outer)->env.frame=some L->env.scope.kind= .function->A.handled=none->A.depth+k<recursionLimit->A.units+8*k<cLine->
  Below A₀ base outer h₀->(hd.heap_39 w.params).In h₀->Top p loose mean mg mb h₀->Fr h₀ L s.heap m->News h₀ L s.heap (ro++news)->(∀q∈news,∀r∈ro,q.1≠r.1)->
  (∀e h' tk',Dj w base h₀ (env::outer) L m (ro++news) atv e h'->R (.error (.ref e)) {s with heap:=h',toks:=tk'})->
  codeAny (model PySem.Challenge.rw_nu0172_01.row.prog w) A (.call (.ref f) args) R s
noncomputable def Iq(w:World)(g:Heap)(L':Addr)(ro:List (Addr×Obj))(atv:Int)(s:Shared)(v:Value)(s':Shared):Prop:=
 ∃e dx T tk1 tk2 x t u m' h' tk',v= .ref e/\s'= {s with heap:=h',toks:=tk'}/\Fr g L' h' m'/\News g L' h' ((e,Ar (.ref T) .none dx)::(dx,B6 w tk1 tk2 x t atv u)::ro)/\dx≠e/\∀q∈ro,q.1≠e
theorem J8(R:RaisedD base G l e dx nl h')(hn:∀q∈news,G.get? q.1=some q.2/\q.1∉l.filterMap (·.frame)/\base.get? q.1=none):
  RaisedD base (hideAll G (news.map (·.1))) l e dx (nl++news) h':=by
 obtain ⟨B,T,a0,hB,hBG,hl,hf⟩:=R
 refine ⟨B,T,a0,hB,λb o q nm=>hBG b o (of_hideAll _ q) nm,λq hq=> ?_,hf⟩
 rcases lA hq with hq | hq
 ·refine ⟨(hl q hq).1,?_,(hl q hq).2.2⟩
  cases z:(hideAll G (news.map (·.1))).get? q.1 with
  | none=>rfl
  | some o=>have:=of_hideAll _ z;rw [(hl q hq).2.1] at this;cases this
 ·exact ⟨hBG _ _ (hn q hq).1 (hn q hq).2.1,hideAll_none _ (List.mem_map_of_mem hq),(hn q hq).2.2⟩
theorem U5
  (ho:(hd.heap_39 w.params).lookup f=some ⟨oc,od,.func (fnOf name qual params body scope dV kV doc pm an cdv ct),osl⟩)(hcd:codeIn (hd.heap_39 w.params) cdv qual=true)
  (hbind:∀s:Shared,(hd.heap_39 w.params).In s.heap->BindsTo s (fnOf name qual params body scope dV kV doc pm an cdv ct) args binds)(hloc:∀y∈binds,scope.names.lookup y.1=some .local)
  (h:∀(dp un:Nat) (gd:Option (List Code)) (env:Env) (outer:List Env) (base g:Heap) (L':Addr) (h₁:Heap) (p:Program) (loose:List Str) (mean:ExcName->Option Value) (mg mb:Str->Option Value) (s:Shared) (tk:Nat),
   dp+k<recursionLimit->un+8*k<cLine->Below {handled:=none,depth:=dp,frames:=some (env::outer),guards:=gd,units:=un} base (env::outer) g->(hd.heap_39 w.params).In g->Top p loose mean mg mb g->
   Fr g L' h₁ (λy=>binds.reverse.lookup y)->News g L' h₁ ro->
   wpAny (model PySem.Challenge.rw_nu0172_01.row.prog w) (Around.deeper {handled:=none,depth:=dp,frames:=some (env::outer),guards:=gd,units:=un} (envOf qual scope L' f cdv)) (execs body (envOf qual scope L' f cdv))
    (λV V=>False) (Iq w g L' ro atv s) {s with heap:=h₁,toks:=tk})
  (hco:scope.isCoroutine=false) (hgen:scope.isGenerator=false) (hk:scope.kind= .function) (hcell:∀x∈scope.names,x.2≠ .cell):Is w f k args ro atv:=by
 intro p loose mean mg mb A A₀ env outer base h₀ L m news s R hf hfr hke hh hd' hu B X T F N hap hR
 have N1:News h₀ L s.heap ro:=λq hq=>N q (lL _ hq)
 obtain ⟨FG,BG,st,_⟩:=groundX (R:=λV V=>True) B F N1 hf hfr hke
 obtain ⟨hA,dA,fA,gA,uA⟩:=A
 cases hh
 cases hf
 refine codeAny_call_def (fd:=fnOf name qual params body scope dV kV doc pm an cdv ct) (body:=body) (binds:=binds) (by show dA<_;exact Nat.lt_of_le_of_lt (Nat.le_add_right _ _) hd') (F.keep _ _ (X _ _ ho)) rfl (T.nolimit.keeps F.keep) (codeRec_of (X.keeps F.keep) hcd) rfl (hbind s (X.keeps F.keep)) hcell hloc (λh₁ hns hk₁=> ?_) hco hgen hk
 have Fg:Fr (hideAll s.heap (ro.map (·.1))) s.heap.objs.size h₁ (λy=>binds.reverse.lookup y):=⟨hns,λb o e=>hk₁ b o (of_hideAll _ e),Nat.le_of_eq (hideAll_size _ _)⟩
 have Ng:News (hideAll s.heap (ro.map (·.1))) s.heap.objs.size h₁ ro:=λq hq=>⟨hk₁ _ _ (N1 q hq).1,Nat.ne_of_lt (Heap.lt_size (N1 q hq).1),hideAll_none _ (List.mem_map_of_mem hq)⟩
 refine wpAny_mono (h dA uA gA env outer base _ _ h₁ p loose mean mg mb s (s.toks+binds.length) hd' hu BG (X.keeps st) (T.keeps st) Fg Ng) (λV V z=>z.elim) (λv s' hl=> ?_)
 obtain ⟨e,dx,T9,tk1,tk2,x,t,u,m',h',tk',rfl,rfl,F',N',hde,hre⟩:=hl
 refine Kk (s':= {s with heap:=h',toks:=tk'}) BG F' N' (λq hq=> ?_) (λh2 R2 U2=> ?_) hk
 ·rcases lC hq with rfl | hq
  ·exact hde
  ·exact hre q hq
 ·refine hR e h2 tk' ⟨hideAll (hideAll s.heap (ro.map (·.1))) (news.map (·.1)),dx,tk1,tk2,x,t,u,?_,λb o q hnf=>U2 b o (of_hideAll _ q) hnf,?_⟩
  ·have Nn:News h₀ L (hideAll s.heap (ro.map (·.1))) news:=λq hq=>by
    have z:=N q (lR _ hq)
    refine ⟨hideAll_get _ z.1 λhm=> ?_,z.2⟩
    obtain ⟨r,hr,e'⟩:=List.mem_map.mp hm
    exact hap q hq r hr e'.symm
   exact (groundX (R:=λV V=>True) (A:= {handled:=none,depth:=dA,frames:=some (env::outer),guards:=gA,units:=uA}) (s:= {s with heap:=hideAll s.heap (ro.map (·.1))}) B FG Nn rfl hfr hke).1
  ·refine J8 R2 λq hq=> ?_
   have z:=N q (lR _ hq)
   refine ⟨hideAll_get _ z.1 λhm=> ?_,λhm=> ?_,fresh_of_stays B.stays z.2.2⟩
   ·obtain ⟨r,hr,e'⟩:=List.mem_map.mp hm
    exact hap q hq r hr e'.symm
   ·obtain ⟨env',hev,hf'⟩:=List.mem_filterMap.mp hm
    rcases lC hev with rfl | hev
    ·rw [hfr] at hf';exact z.2.1 (sJ hf').symm
    ·obtain ⟨o,ho',_⟩:=(B.frames.mem (List.mem_filterMap.mpr ⟨env',hev,hf'⟩)).2
     rw [z.2.2] at ho';cases ho'
end
section
noncomputable def TelX(w:World)(f:Addr)(k:Nat)(args:Args)(ro:List (Addr×Obj))(Post:Value->List (Addr×Obj)->Prop):Prop:=
 ∀(p:Program) (loose:List Str) (mean:ExcName->Option Value) (mg mb:Str->Option Value) (A A₀:Around) (env:Env) (h₀:Heap) (L:Addr) (m:Str->Option Value) (news:List (Addr×Obj)) (s:Shared) (R:Result->Shared->Prop),
  A.frames=some [env]->env.frame=some L->env.scope.kind= .function->A.handled=none->A.depth+k<recursionLimit->A.units+8*k<cLine->
  Below A₀ h₀ [] h₀->(hd.heap_39 w.params).In h₀->Top p loose mean mg mb h₀->Fr h₀ L s.heap m->News h₀ L s.heap (ro++news)->
  (∀v new h' tk' dr',Fr h₀ L h' m->News h₀ L h' (new++(ro++news))->(∀p∈new,∀q∈ro++news,p.1≠q.1)->Post v new->R (.ok (.ret v)) {s with heap:=h',toks:=tk',drawn:=dr'})->
  Ax (model PySem.Challenge.rw_nu0172_01.row.prog w) A (.call (.ref f) args) R s
structure LeaveX(Ll:Addr)(g:Heap)(L':Addr)(ro:List (Addr×Obj))(Post:Value->List (Addr×Obj)->Prop)(s:Shared)(v:Value)(s':Shared):Prop where
 ex:∃g' m' new h' tk' dr',s'= {s with heap:=h',toks:=tk',drawn:=dr'}/\KtsTurn [Ll] g g'/\Fr g' L' h' m'/\News g' L' h' (new++ro)/\(∀p∈new,∀q∈ro,p.1≠q.1)/\Post v new
theorem Hq
  (T:KtsTurn [Ll] g g')(F:Fr g' L' h' m')(N:News g' L' h' big)(hs:∀p∈new++ro,p∈big)(hl:∀p∈new,∀q∈ro,p.1≠q.1)(hp:Post v new):
  LeaveX Ll g L' ro Post s v {s with heap:=h',toks:=tk',drawn:=dr'}:=⟨g',m',new,h',tk',dr',rfl,T,F,λp hp=>N p (hs p hp),hl,hp⟩
theorem Vf{h₀:Heap}{L:Addr}{m:Str->Option Value}{ro news:List (Addr×Obj)}{s s':Shared}{v:Value}{R:Result->Shared->Prop}{Post:Value->List (Addr×Obj)->Prop}
  (F:Fr h₀ L s.heap m)(N:News h₀ L s.heap (ro++news))(FG:Fr h₀ L (hideAll s.heap (ro.map (·.1))) m)(st:h₀.StaysIn (hideAll s.heap (ro.map (·.1))))
  (hR:∀v new h' tk' dr',Fr h₀ L h' m->News h₀ L h' (new++(ro++news))->(∀p∈new,∀q∈ro++news,p.1≠q.1)->Post v new->R (.ok (.ret v)) {s with heap:=h',toks:=tk',drawn:=dr'})
  (hl:LeaveX L (hideAll s.heap (ro.map (·.1))) s.heap.objs.size ro Post s v s'):R (.ok (.ret v)) s':=by
 obtain ⟨g',m',new,h',tk',dr',rfl,T,F',N',hlt,hp⟩:=hl.ex
 obtain ⟨oL,es,ep,hL,hLd,hLk,hLf⟩:=FG.ns
 obtain ⟨sl,hL'⟩:=T.frame _ _ hL (List.mem_singleton.mpr rfl)
 have hh0:h₀.get? L=none:=Heap.get?_none_of_le F.above
 have up:∀b o,(hideAll s.heap (ro.map (·.1))).get? b=some o->b≠L->h'.get? b=some o:=λb o e ne=>F'.keep b o (T.other b o e λhm=>ne (lS hm))
 have keepNews:∀q∈news,h'.get? q.1=some q.2:=by
  intro q hq
  have hq':=N q (lR _ hq)
  by_cases hin:q.1∈ro.map (·.1)
  ·obtain ⟨r,hr,e⟩:=List.mem_map.mp hin
   have h1:=N r (lL _ hr)
   have h2:r.2=q.2:=by
    have:=h1.1;rw [e,hq'.1] at this;exact (sJ this).symm
   have h3:=(N' r (lR _ hr)).1
   rw [e,h2] at h3;exact h3
  ·exact up _ _ (hideAll_get _ hq'.1 hin) hq'.2.1
 refine hR _ new h' tk' dr' ⟨⟨_,es,ep,F'.keep L _ hL',hLd,hLk,hLf⟩,λb o e=>up b o (st b o e) (λq=>by rw [q,hh0] at e;cases e),F.above⟩ (λq hq=> ?_) (λq hq r hr e=> ?_) hp
 ·have inner:∀q∈new++ro,h'.get? q.1=some q.2/\q.1≠L/\h₀.get? q.1=none:=λq hq=>by
   have hn:=(N' q hq).2.2
   refine ⟨(N' q hq).1,λe=> ?_,?_⟩
   ·rw [e,hL'] at hn;cases hn
   ·cases e:h₀.get? q.1 with
    | none=>rfl
    | some o=>
     obtain ⟨sl2,e2⟩:=T.up (st _ _ e)
     rw [e2] at hn;cases hn
  rcases lA hq with h | h
  ·exact inner q (lL _ h)
  ·rcases lA h with h | h
   ·exact inner q (lR _ h)
   ·exact ⟨keepNews q h,(N q (lR _ h)).2⟩
 ·rcases lA hr with hr | hr
  ·exact hlt q hq r hr e
  ·have hr':=N r (lR _ hr)
   have hq':=(N' q (lL _ hq)).2.2
   by_cases hin:r.1∈ro.map (·.1)
   ·obtain ⟨t,ht,e2⟩:=List.mem_map.mp hin
    exact hlt q hq t ht (e.trans e2.symm)
   ·obtain ⟨sl2,e2⟩:=T.up (hideAll_get _ hr'.1 hin)
    rw [e] at hq'
    rw [hq'] at e2;cases e2
structure Gx where
 dp:Nat
 un:Nat
 gd:Option (List Code)
 env:Env
 Ll:Addr
 base:Heap
 p:Program
 loose:List Str
 mean:ExcName->Option Value
 mg:Str->Option Value
 mb:Str->Option Value
noncomputable abbrev Gx.A(X:Gx):Around:= {handled:=none,depth:=X.dp,frames:=some [X.env],guards:=X.gd,units:=X.un}
structure Gb(G:Gx)(w:World)(k:Nat):Prop where
 d:G.dp+k<recursionLimit
 u:G.un+8*k<cLine
 fr:G.env.frame=some G.Ll
 XB:(hd.heap_39 w.params).In G.base
 TB:Top G.p G.loose G.mean G.mg G.mb G.base
structure Gh(G:Gx)(w:World)(g:Heap):Prop where
 B:Below G.A G.base [G.env] g
 XX:(hd.heap_39 w.params).In g
 T:Top G.p G.loose G.mean G.mg G.mb g
 KD:KtsDicts ([G.env].filterMap (·.frame)) g
section
variable {w:World}{f:Addr}{k:Nat}{args:Args}{ro:List (Addr×Obj)}{Post:Value->List (Addr×Obj)->Prop}
  {name qual:Str}{params:Arguments}{body:List Stmt}{scope:Scope}{dV kV doc pm cdv ct oc:Value}{an od:Option Addr}{osl:Array (Option Value)}{binds:List (Str×Value)}
theorem L8(ho:(hd.heap_39 w.params).lookup f=some ⟨oc,od,.func (fnOf name qual params body scope dV kV doc pm an cdv ct),osl⟩)(hcd:codeIn (hd.heap_39 w.params) cdv qual=true)
  (hbind:∀s:Shared,(hd.heap_39 w.params).In s.heap->BindsTo s (fnOf name qual params body scope dV kV doc pm an cdv ct) args binds)
  (hkind:(binds.all λy=>scope.names.lookup y.1==some .local||scope.names.lookup y.1==some .cell)=true)(hnd:((cellsFrom 0 scope.names []).map (·.1)).Nodup)(EX:Addr->Env)(hE:∀L',envOfC qual scope L' f cdv=EX L')
  (h:∀(G:Gx) (g:Heap) (L':Addr) (h₁:Heap) (s:Shared) (tk:Nat) (R:Result->Shared->Prop) (cells:List (Addr×Obj)),
   Gb G w k->Gh G w g->
   Fr g L' h₁ (bindL (envOfC qual scope L' f cdv).kindOf binds λV=>none)->News g L' h₁ (cells++ro)->CellsAre (bindC (envOfC qual scope L' f cdv).kindOf binds λV=>none) (cellsFrom (L'+1) scope.names []) cells->(∀q∈ro,q.1<L')->
   wpR (model PySem.Challenge.rw_nu0172_01.row.prog w) (Around.deeper G.A (EX L')) (execs body (EX L'))
    (λfl s'=>LeaveX G.Ll g L' ro Post s (match fl with | .ret v=>v | _=> .none) s')
    (λe s'=>wpR (model PySem.Challenge.rw_nu0172_01.row.prog w) (Around.deeper G.A (EX L')) (leaving (EX L') e) (λV s''=>R (.error e) s'') (λe' s''=>R (.error e') s'') s')
    {s with heap:=h₁,toks:=tk})
  (hco:scope.isCoroutine=false) (hgen:scope.isGenerator=false) (hk:scope.kind= .function):TelX w f k args ro Post:=by
 intro p loose mean mg mb A A₀ env h₀ L m news s R hf hfr hke hh hd' hu B X T F N hR
 have N1:News h₀ L s.heap ro:=λq hq=>N q (lL _ hq)
 obtain ⟨FG,BG,st,_⟩:=groundX (R:=λV V=>True) B F N1 hf hfr hke
 obtain ⟨hA,dA,fA,gA,uA⟩:=A
 cases hh
 cases hf
 refine Fd (by show dA<_;exact Nat.lt_of_le_of_lt (Nat.le_add_right _ _) hd') (F.keep _ _ (X _ _ ho)) rfl hco hgen rfl (codeRec_of (X.keeps F.keep) hcd) (hbind s (X.keeps F.keep) _ _ _ _ ?_)
 refine wpAny_newFunctionEnv_cells hk (kindsX hkind _) λenv' he s' x=> ?_
 subst he
 refine ⟨(T.nolimit.keeps F.keep).keeps x.toInCall.keep,Fe ?_⟩
 obtain ⟨h₁,tk,rfl,_⟩:=x.done
 have hk₁:=x.toInCall.keep
 obtain ⟨cells,NC,Y⟩:=Cl.news (h₀:=s.heap) (Nat.le_refl _) λn c hm=>⟨x.cell n c (lookup_of_mem_nodup (cellsFrom_names scope.names 0 (s.heap.objs.size+1) [] [] rfl▸hnd) hm),x.above n c hm⟩
 have Fg:Fr (hideAll s.heap (ro.map (·.1))) s.heap.objs.size h₁ (bindL (envOfC qual scope s.heap.objs.size f cdv).kindOf binds λV=>none):=⟨x.toInCall.ns,λb o e=>hk₁ b o (of_hideAll _ e),Nat.le_of_eq (hideAll_size _ _)⟩
 have Ng:News (hideAll s.heap (ro.map (·.1))) s.heap.objs.size h₁ (cells++ro):=λp hp=>by
  rcases lA hp with hp | hp
  ·refine ⟨(NC p hp).1,(NC p hp).2.1,?_⟩
   cases q:(hideAll s.heap (ro.map (·.1))).get? p.1 with
   | none=>rfl
   | some o=>have:=of_hideAll _ q;rw [(NC p hp).2.2] at this;cases this
  ·exact ⟨hk₁ _ _ (N1 p hp).1,Nat.ne_of_lt (Heap.lt_size (N1 p hp).1),hideAll_none _ (List.mem_map_of_mem hp)⟩
 have KD:KtsDicts ([env].filterMap (·.frame)) (hideAll s.heap (ro.map (·.1))):=λb hb=>by
  obtain ⟨env',he',hf'⟩:=List.mem_filterMap.mp hb
  rw [List.mem_singleton.mp he',hfr] at hf'
  obtain rfl:=sJ hf'
  obtain ⟨oL,es,ep,hL,hLd,_⟩:=FG.ns
  exact ⟨oL,es,ep,hL,hLd⟩
 have key:=h ⟨dA,uA,gA,env,L,_,p,loose,mean,mg,mb⟩ _ _ h₁ s tk R cells ⟨hd',hu,hfr,X,T⟩ ⟨BG,X.keeps st,T.keeps st,KD⟩ Fg Ng Y (λq hq=>Heap.lt_size (N1 q hq).1)
 have hEq:=hE s.heap.objs.size
 show wpR _ (Around.deeper _ (envOfC qual scope s.heap.objs.size f cdv)) (execs body (envOfC qual scope s.heap.objs.size f cdv)) _ (λe s'=>wpR _ (Around.deeper _ (envOfC qual scope s.heap.objs.size f cdv)) (leaving (envOfC qual scope s.heap.objs.size f cdv) e) _ _ s') _
 rw [hEq]
 exact Ao key (λfl s' hl=>Vf F N FG st hR hl) λV V y=>y
theorem Ve(ho:(hd.heap_39 w.params).lookup f=some ⟨oc,od,.func (fnOf name qual params body scope dV kV doc pm an cdv ct),osl⟩)(hcd:codeIn (hd.heap_39 w.params) cdv qual=true)
  (hbind:∀s:Shared,(hd.heap_39 w.params).In s.heap->BindsTo s (fnOf name qual params body scope dV kV doc pm an cdv ct) args binds)
  (hkind:(binds.all λy=>scope.names.lookup y.1==some .local||scope.names.lookup y.1==some .cell)=true)(hnd:((cellsFrom 0 scope.names []).map (·.1)).Nodup)(hE:∀L',envOfC qual scope L' f cdv=envOf qual scope L' f cdv)
  (h:∀(G:Gx) (g:Heap) (L':Addr) (h₁:Heap) (s:Shared) (tk:Nat) (R:Result->Shared->Prop),
   Gb G w k->Gh G w g->
   Fr g L' h₁ (bindL (envOfC qual scope L' f cdv).kindOf binds λV=>none)->News g L' h₁ ro->(∀q∈ro,q.1<L')->
   wpR (model PySem.Challenge.rw_nu0172_01.row.prog w) (Around.deeper G.A (envOf qual scope L' f cdv)) (execs body (envOf qual scope L' f cdv))
    (λfl s'=>LeaveX G.Ll g L' ro Post s (match fl with | .ret v=>v | _=> .none) s')
    (λe s'=>wpR (model PySem.Challenge.rw_nu0172_01.row.prog w) (Around.deeper G.A (envOf qual scope L' f cdv)) (leaving (envOf qual scope L' f cdv) e) (λV s''=>R (.error e) s'') (λe' s''=>R (.error e') s'') s')
    {s with heap:=h₁,toks:=tk})
  (hco:scope.isCoroutine=false) (hgen:scope.isGenerator=false) (hk:scope.kind= .function):TelX w f k args ro Post:=
 L8 ho hcd hbind hkind hnd (λL'=>envOf qual scope L' f cdv) hE (λG g L' h₁ s tk R V a1 a2 F N V lt=>h G g L' h₁ s tk R a1 a2 F (λp hp=>N p (lR _ hp)) lt) hco hgen hk
end
theorem TelX.use
  (C:TelX w f k ⟨vs,kw⟩ ro Post)(hf:A.frames=some [env])(hfr:env.frame=some L)(hke:env.scope.kind= .function)(hh:A.handled=none)(hd':A.depth+k<recursionLimit)(hu:A.units+8*k<cLine)
  (B:Below A₀ h₀ [] h₀)(X:(hd.heap_39 w.params).In h₀)(T:Top p loose mean mg mb h₀)(F:Fr h₀ L s.heap m)(N:News h₀ L s.heap big)(hro:∀p∈ro,p∈big)
  (h:∀v new h' tk' dr',Post v new->Fr h₀ L h' m->News h₀ L h' (new++big)->(∀p∈new,∀q∈big,p.1≠q.1)->Q v {s with heap:=h',toks:=tk',drawn:=dr'}):
  wpR (model PySem.Challenge.rw_nu0172_01.row.prog w) A (call (.ref f) vs kw) Q E s:=
 Co (C p loose mean mg mb A A₀ env h₀ L m big s _ hf hfr hke hh hd' hu B X T F (λq hq=>(lA hq).elim (λhq=>N q (hro q hq)) (N q)) λv new h' tk' dr' a b c e=>h v new h' tk' dr' e a (λq hq=>(lA hq).elim (λhq=>b q (lL _ hq)) λhq=>b q (lR _ (lR _ hq))) λp hp q hq=>c p hp q (lR _ hq))
end
section
theorem Ib
  (binds bl:List (Str×Value))
  (ho:(hd.heap_39 w.params).lookup f=some ⟨oc,od,.func (fnOf name qual params body scope dV kV doc pm an cdv ct),osl⟩)(hcd:codeIn (hd.heap_39 w.params) cdv qual=true)
  (hbind:∀s:Shared,(hd.heap_39 w.params).In s.heap->BindsTo s (fnOf name qual params body scope dV kV doc pm an cdv ct) args binds)
  (hkind:(binds.all λy=>scope.names.lookup y.1==some .local||scope.names.lookup y.1==some .cell)=true)(hcl:∀a,cellsFrom a scope.names []= [(y,a)])
  (hvy:bindC (λx=>scope.names.lookup x) binds (λV=>none) y=some vy)(hbl:∀p∈bl,bindL (λx=>scope.names.lookup x) binds (λV=>none) p.1=some p.2)
  (h:∀(S:Si ⟨qual,scope,some f,cdv⟩ j w) (K:Flow->Shared->Prop) (d:Drawn) (m:Loc) (l₁:Led) (c:Addr) (o:Obj),S.cl= [(y,c)]->(c,o)∈l₁->o.data= .cell (some vy)->(∀p∈ro,p∈l₁)->
   (∀v d new l,Post v [] new->(∀p∈new,∀r∈ro,r.1<p.1)->(∀p∈new,p∈l)->(∀p∈l₁,p∈l)->Rt S K d l v)->CurM m bl (W S K d m l₁ body []))
  (hco:scope.isCoroutine=false) (hgen:scope.isGenerator=false) (hk:scope.kind= .function):TelD w f (j+1) args [] ro Post:=by
 refine Ux ho hcd hbind hkind (by rw [hcl];exact (List.pairwise_singleton _ _:List.Nodup [y])) (λdp un gd env outer base g L' h₁ p loose mean mg mb s tk R cells hd hu B X T F N Y hlt=> ?_) hco hgen hk
 rw [hcl] at Y
 obtain ⟨o,e,ho⟩:=CellsAre.one Y
 subst e
 have Nc:News g L' h₁ ((L'+1,o)::ro):=N
 obtain ⟨l₁,hD,hm⟩:=Bx _ (Bg Nc)
 have hro:∀p∈ro,p∈l₁:=λp hp=>(hm p).mpr (.tail _ hp)
 refine (CurM.go (h {A:=Around.deeper {handled:=none,depth:=dp,frames:=some (env::outer),guards:=gd,units:=un} (envOfC qual scope L' f cdv),L:=L',lc:=L',cl:=cellsFrom (L'+1) scope.names [],h₀:=g,g:=s.gens,o:=s.os,E:=λe s'=>wpAny (mdl w) (Around.deeper {handled:=none,depth:=dp,frames:=some (env::outer),guards:=gd,units:=un} (envOfC qual scope L' f cdv)) (leaving (envOfC qual scope L' f cdv) e) (λV s''=>R (.error e) s'') (λe' s''=>R (.error e') s'') s',own:= [],H:=Here.of B X T rfl rfl rfl hk ?_ ?_,hE:= ?_} _ s.drawn _ l₁ (L'+1) o (hcl _) ((hm _).mpr (.head _)) (hvy▸ho) hro ?_) λp hp=>hbl p hp).run h₁ tk ⟨F,λp hp=> ?_,hD,λp hp=>no hp⟩
 ·exact zn3 88604346307872564072737 rfl hd
 ·exact zn3 90731934770765406008922401 rfl hu
 ·intro _
  passes_own
 ·intro v d new l hp hl hs h1
  refine ⟨λh k m A=> ?_⟩
  have N':=A.N
  rw [List.append_nil] at N'
  exact Ds (mu':= []) (new:=new) A.F N' (λp hp=>(lA (show p∈new++ro from hp)).elim (hs p) λhp=>h1 p (hro p hp)) hl hp
 ·rw [List.append_nil] at hp
  exact Nc p ((hm p).mp hp)
theorem Vd
  (binds bl:List (Str×Value))
  (ho:(hd.heap_39 w.params).lookup f=some ⟨oc,od,.func (fnOf name qual params body scope dV kV doc pm an cdv ct),osl⟩)(hcd:codeIn (hd.heap_39 w.params) cdv qual=true)
  (hbind:∀s:Shared,(hd.heap_39 w.params).In s.heap->BindsTo s (fnOf name qual params body scope dV kV doc pm an cdv ct) args binds)
  (hkind:(binds.all λy=>scope.names.lookup y.1==some .local||scope.names.lookup y.1==some .cell)=true)(hcl:∀a,cellsFrom a scope.names []= [(y,a)])
  (hvy:bindC (λx=>scope.names.lookup x) binds (λV=>none) y=some vy)(hbl:∀p∈bl,bindL (λx=>scope.names.lookup x) binds (λV=>none) p.1=some p.2)
  (h:∀(S:Si ⟨qual,scope,some f,cdv⟩ j w) (K:Flow->Shared->Prop) (d:Drawn) (m:Loc) (l₁:Led) (c:Addr) (o:Obj),S.cl= [(y,c)]->(c,o)∈l₁->o.data= .cell (some vy)->(∀p∈ro,p∈l₁)->
   (∀v d new l,Post v new->(∀p∈new,∀r∈ro,p.1≠r.1)->(∀p∈new,p∈l)->(∀p∈l₁,p∈l)->Rt S K d l v)->CurM m bl (W S K d m l₁ body []))
  (hco:scope.isCoroutine=false) (hgen:scope.isGenerator=false) (hk:scope.kind= .function):TelX w f (j+1) args ro Post:=by
 refine L8 ho hcd hbind hkind (by rw [hcl];exact (List.pairwise_singleton _ _:List.Nodup [y])) (λL'=>envOfC qual scope L' f cdv) (λV=>rfl) (λG g L' h₁ s tk R cells a1 a2 F N Y hlt=>Av ?_) hco hgen hk
 rw [hcl] at Y
 obtain ⟨o,e,ho⟩:=CellsAre.one Y
 subst e
 have Nc:News g L' h₁ ((L'+1,o)::ro):=N
 obtain ⟨l₁,hD,hm⟩:=Bx _ (Bg Nc)
 have hro:∀p∈ro,p∈l₁:=λp hp=>(hm p).mpr (.tail _ hp)
 refine wpAny_mono ((CurM.go (h {A:=Around.deeper G.A (envOfC qual scope L' f cdv),L:=L',lc:=L',cl:=cellsFrom (L'+1) scope.names [],h₀:=g,g:=s.gens,o:=s.os,E:=λV V=>False,own:= [],H:=Here.of a2.B a2.XX a2.T rfl rfl rfl hk (zn3 88604346307872564072737 rfl a1.d:G.dp+1+j<_) (zn3 90731934770765406008922401 rfl a1.u:G.un+3+8*j<_),hE:=λV V V h=>h.elim} _ s.drawn _ l₁ (L'+1) o (hcl _) ((hm _).mpr (.head _)) (hvy▸ho) hro ?_) λp hp=>hbl p hp).run h₁ tk ⟨F,λp hp=> ?_,hD,λp hp=>no hp⟩) (λV V z=>z) λV V z=>z.elim
 ·intro v d new l hp hl hs h1
  refine ⟨λh k m A=> ?_⟩
  have N':=A.N
  rw [List.append_nil] at N'
  exact Hq (new:=new) .refl A.F N' (λp hp=>(lA (show p∈new++ro from hp)).elim (hs p) λhp=>h1 p (hro p hp)) hl hp
 ·rw [List.append_nil] at hp
  exact Nc p ((hm p).mp hp)
section
variable {C:Cd}{n:Nat}{w:World}{x name:Str}{px pos p2 p3 p4:Pos}{e e0 e1 e2:PySem.Expr}{es:List PySem.Expr}{S:Si C n w}{d:Drawn}{m:Loc}{l ro:Led}{a b:Int}{t:Tok}{v:Value}{vs:List Value}{P P1:Value->Prop}{p:Prop}{κ:Value->Drawn->Led->Prop}{cN kd k:Nat}{X0 dx D f Cl:Addr}{ns:List Int}{des:List DictEntry}{Post:Value->Led->Led->Prop}
theorem Ev.toI(h:Ev S m l e (· = .int a t)):Ev S m l e (isI a):=h.mono λV e=>⟨t,e⟩
theorem At.less(A:At S h m l')(hs:∀p∈l,p∈l')(D:Aw l):At S h m l:=⟨A.F,λp hp=>A.N p ((lA hp).elim (λh=>lL _ (hs p h)) (lR _)),D,λp hp q hq=>A.O p hp q (hs q hq)⟩
theorem Ev.ofX(h:∀d,X S d m l e λv d' l'=>P v/\d'=d/\∀p∈l,p∈l'):Ev S m l e P:=
 ⟨λh9 d k Q A hq=>(h d).run h9 k Q A λv d' l' h' k' z A'=>z.2.1▸hq v h' k' z.1 (A'.less z.2.2 A.D)⟩
theorem CX.pure(T:Tel w f k ⟨vs,[]⟩ [] ro Post)(hro:∀p∈ro,p∈l)(h:∀v mu' new,Post v mu' new->P v)(hk:decide (k<=n)=true:=by exact Eq.refl true):CX S d m l (.ref f) vs λv d' l'=>P v/\d'=d/\∀p∈l,p∈l':=
 CX.tel0 T hro (λv mu' new l' hP hs V=>⟨h v mu' new hP,rfl,hs⟩) hk
theorem Bv.bool(h:Ev S m l e λv=>∃b,v= .bool b/\(b=true ↔ p))(ok:Fv e=true:=by exact Eq.refl true):Bv S m l e p:=
 ⟨λh9 d k Q A hq=>isTrue_plain (h.run h9 d k _ A λv h1 k1 ⟨b,e,hb⟩ A1=>by
  subst e
  exact wpAny_truthy_bool (hq b h1 k1 hb A1)) (Hp ok)⟩
inductive EvI(S:Si C n w)(m:Loc)(l:Led):List PySem.Expr->List Int->Prop
 | nil:EvI S m l [] []
 | cons {e:PySem.Expr} {a:Int} {es:List PySem.Expr} {ns:List Int}:Ev S m l e (isI a)->Au e=true->EvI S m l es ns->EvI S m l (e::es) (a::ns)
theorem EvI.run(h:EvI S m l es ns):∀ {h9:Heap} {k:Nat} {Q:List Value->Shared->Prop},At S h9 m l->(∀vs h' k',IntsAre vs ns->At S h' m l->Q vs ⟨h',S.g,d,k',S.o⟩)->wpAny (mdl w) S.A (spliced (backTo pos (starEach es S.env))) Q S.E ⟨h9,S.g,d,k,S.o⟩:=by
 induction h with
 | nil=>exact λA hq=>args_nil (hq [] _ _ .nil A)
 | cons he ok _ ih=>exact λA hq=>args_cons (he.run _ d _ _ A λv h1 k1 ⟨t,e⟩ A1=>ih A1 λvs h' k' hi A2=>hq _ h' k' (e▸ .cons _ t hi) A2) (Ad ok)
theorem X.listI(h:EvI S m l es ns)(hl:ns.length<=1000)(z:∀D vs,IntsAre vs ns->(∀p∈l,p.1<D)->κ (.ref D) d ((D,listOf vs.toArray 0)::l)):X S d m l (.List es pos) κ:=
 ⟨λh9 k Q A hq=>List_ (h.run A λvs h' k' hi A'=>newList_K A'.F A'.N (λD h2 F N hD=>hq _ _ _ _ _ (z D vs hi λp hp=>hD p (lL _ hp)) (A'.new F N hD)) (by rw [IntsAre.length hi,sizeLine_eq];exact nTr hl (nLe rfl)))⟩
theorem I9:Bi (Str.ofString "bytes") (.type "bytes"):=⟨λw=>by k_is,by rfl⟩
theorem CX.bytes(hm:(D,listOf vs.toArray cN)∈l)(hi:IntsAre vs ns)(hr:∀x∈ns,0<=x/\x<256)(hl:ns.length<=1000)(h:∀t,κ (.bytes (byteArr ns) t) d l):CX S d m l (.type "bytes") [.ref D] κ:=
 ⟨λh9 k Q A hq=>call_bytes_ints (News.isList A.N1 hm) hi hr (by rw [IntsAre.length hi,sizeLine_eq];exact nTr hl (nLe rfl)) S.hh λh' t k hk=>hq _ _ _ _ _ (h t) ⟨A.F.keeps hk,λp hp=>⟨hk _ _ (A.N p hp).1,(A.N p hp).2⟩,A.D,A.O⟩⟩
end
end
section
section
variable {M:Model}{A:Around}{E:Value->Shared->Prop}{s:Shared}{env:Env}{f:Value}{first:List Value}{pos:Pos}{Q:Value->Shared->Prop}
theorem Wm(h:wpR M A m Q E s):wpR M A (m.keep vs) Q E s:=λΓ p ho hΓ=>by rw [Sem.wp_keep];exact h Γ p ho hΓ
theorem F8{P:Heap->Prop}{args:List (Bool×Sem Value)}(hplain:args.any (·.1)=false)
  (hk:∀h,P h->∃k,Looks M h (keeperOf f) k)
  (h:wpAny M A (evalArgs f true args []) (λa s₁=>P s₁.heap/\wpR M A (call f (first++a.pos) a.kw) Q E s₁) E s):wpR M A (callWith pos f first args []) Q E s:=by
 unfold callWith
 refine Ah (wpAny_holding (wpAny_mono h (λa s₁ h₁=>Bd ?_) λV V x=>x))
 obtain ⟨k,L⟩:=hk _ h₁.1
 rw [show (args.any (·.1)|| ([]:List (Option Str×Sem Value)).any (·.1.isNone))=false by rw [hplain];rfl]
 refine Ah (L.here ?_)
 have tail:∀ {t:Sem Value},wpR M A t Q E s₁->wpR M A (t>>= λr=>holding [r] point>>= λV=>pure r) Q E s₁:=
  λht=>Am (Ao ht (λr s₂ hr=>Ah (wpAny_holding (wpAny_point (An hr)))) λV V x=>x)
 have marked (mk:Value):wpR M A (callMarked mk f (first++a.pos) a.kw) Q E s₁:=by unfold callMarked;exact Wm h₁.2
 cases k<;>dsimp only<;>first | exact tail h₁.2 | (split<;>first | exact tail h₁.2 | exact tail (marked _)) | exact tail (Mj h₁.2)
theorem Dx{K:Frag}{h₀:Heap}{e:PySem.Expr}{rest:List PySem.Expr}(_X:K.In h₀)(hk:keepIn K f=true)(h:wpAny M A (spliced (backTo pos (starEach (e::rest) env))) (λvs s₁=>K.In s₁.heap/\wpR M A (call f (first++vs)) Q E s₁) E s)
  (he:starEach (e::rest) env=(false,eval e env)::starEach rest env:=by rfl)(hplain:(backTo pos (starEach rest env)).any (·.1)=false:=by rfl):
  wpR M A (callWith pos f first (backTo pos (starEach (e::rest) env)) []) Q E s:=by
 rw [he] at h ⊢
 refine F8 (P:=K.In) (by show (false|| (backTo pos (starEach rest env)).any (·.1))=false;rw [hplain];rfl) (λh X=> ?_) (evalArgs_plain h)
 obtain ⟨k,_,L⟩:=keeps_K (M:=M) hk h X
 exact ⟨k,L⟩
theorem Ld{K:Frag}(X:K.In s.heap)(hk:keepIn K f=true)(h:wpR M A (call f (first++ [])) Q E s):wpR M A (callWith pos f first (backTo pos (starEach [] env)) []) Q E s:=
 F8 (P:=K.In) rfl (λh X=>by
  obtain ⟨k,_,L⟩:=keeps_K (M:=M) hk h X
  exact ⟨k,L⟩) (evalArgs_nil3 ⟨X,h⟩)
theorem S4{e:PySem.Expr}{rest:List PySem.Expr}(hf:keeperOf f=pure .machine)(h:wpAny M A (spliced (backTo pos (starEach (e::rest) env))) (λvs s₁=>wpR M A (call f (first++vs)) Q E s₁) E s)
  (he:starEach (e::rest) env=(false,eval e env)::starEach rest env:=by rfl)(hplain:(backTo pos (starEach rest env)).any (·.1)=false:=by rfl):
  wpR M A (callWith pos f first (backTo pos (starEach (e::rest) env)) []) Q E s:=by
 rw [he] at h ⊢
 exact F8 (P:=λV=>True) (by show (false|| (backTo pos (starEach rest env)).any (·.1))=false;rw [hplain];rfl) (λh V=>⟨_,Looks.of_pure hf⟩) (evalArgs_plain (wpAny_mono h (λV V z=>⟨trivial,z⟩) λV V z=>z))
theorem S5(hf:keeperOf f=pure .machine)(h:wpR M A (call f (first++ [])) Q E s):wpR M A (callWith pos f first (backTo pos (starEach [] env)) []) Q E s:=
 F8 (P:=λV=>True) rfl (λh V=>⟨_,Looks.of_pure hf⟩) (evalArgs_nil3 ⟨trivial,h⟩)
theorem C9(h:wpAny M A (eval (.Name x p) env) (λf s₁=>wpR M A (callWith pos f [] (backTo pos (starEach args env)) []) Q E s₁) E s):
  wpR M A (eval (.Call (.Name x p) args [] pos) env) Q E s:=Ah h
theorem H3
  (h:wpAny M A (eval o env) (λov s₁=>wpAny M A (getMethod ov name pl) (λfx s₂=>wpR M A (callWith pos fx.1 fx.2 (backTo pos (starEach args env)) []) Q E s₂) E s₁) E s)
  (he:eval (.Call (.Attribute o name apos) args [] pos) env=(do
   let ov<-eval o env
   standAt apos.atName
   let (f,first) <-holding [ov] (getMethod ov name pl)
   callWith pos f first (backTo pos (starEach args env)) []):=by rfl):wpR M A (eval (.Call (.Attribute o name apos) args [] pos) env) Q E s:=by
 rw [he]
 refine Ah (wpAny_mono h (λov s₁ h₁=>Bd (Ah (wpAny_holding (wpAny_mono h₁ (λfx s₂ h₂=> ?_) λV V x=>x)))) λV V x=>x)
 exact h₂
theorem Sp{o:PySem.Expr}{attr:Str}{pos' pos:Pos}{value:PySem.Expr}{Q:Flow->Shared->Prop}
  (h:wpR M A (eval value env) (λv s₁=>wpAny M A (eval o env) (λov s₂=>wpAny M A (setAttr ov attr v) (λV=>Q .next) E s₂) E s₁) E s)
  (hs:swapsWith value (some (.Attribute o attr pos')) pos.line env=pure false):wpR M A (exec (.Assign [.Attribute o attr pos'] value pos) env) Q E s:=by
 rw [plainObj_exec_Assign_Attribute o attr pos' value pos hs]
 refine Bd (Am (Ao h (λv s₁ h₁=> ?_) λV V z=>z))
 rw [assign_Attribute]
 refine Ah (wpAny_bind (wpAny_holding (wpAny_mono h₁ (λov s₂ h₂=>wpAny_bind (wpAny_standAt (wpAny_bind (wpAny_holding (wpAny_mono h₂ (λV s₃ h₃=> ?_) λV V z=>z))))) λV V z=>z)))
 exact λΓ p hΓ=>by rw [Sem.wp_release];exact An h₃
end
end
section
section
variable {prog:Program}{w:World}{A:Around}{s:Shared}{env:Env}{target:PySem.Expr}{body:List Stmt}{I:Addr}{fp wr:List Addr}{n:Nat}{P:Nat->Value->Prop}{St:Nat->Heap->Prop}{R:Result->Shared->Prop}
theorem Gi:A.under (.forLoop target it body [] env)=A:=by
 refine Around.under_of_weight ?_ rfl
 rfl
noncomputable def Dk(K:Nat->Shared->Prop)(Q:Flow->Shared->Prop)(i:Nat):Flow->Shared->Prop
 | .ret v,s=>Q (.ret v) s
 | .brk,s=>Q .next s
 | _,s=>K (i+1) s
theorem Oh(W:Walks prog w A I fp wr n P St)(K:Nat->Shared->Prop)(hK:∀i s,K i s->St i s.heap)
  (turn:∀i v s h tk,i<n->K i s->P i v->St (i+1) h->(∀b o,b∉wr->s.heap.get? b=some o->h.get? b=some o)->
   wpAny (model prog w) A (letOwnedTupleGo target (.ref I) v>>= λV=>assign target env v) (λV s2=>wpR (model prog w) A (execs body env) (Dk K (λf s'=>R (.ok f) s') i) (λV V=>False) s2) (λV V=>False) {s with heap:=h,toks:=tk})
  (done:∀s h tk,K n s->(∀b o,b∉wr->s.heap.get? b=some o->h.get? b=some o)->R (.ok .next) {s with heap:=h,toks:=tk}):
  ∀k i s,i+k=n->K i s->Ax (model prog w) A (.forLoop target (.ref I) body [] env) R s:=by
 intro k
 induction k with
 | zero=>
  intro i s e hk
  have e':i=n:=Ac (zn2 46201267323168 rfl e) (zn2 11051187863840 rfl e)
  subst e'
  refine Bw ?_
  rw [Gi]
  show wpR _ _ ((forTurn target (.ref I) body [] env).onRaise (λx=>do noteFrame x env;theTreesLotGoes x)) _ _ s
  refine Cq (Ao (E:=λV V=>False) ?_ (λV V z=>z) λV V z=>z.elim)
  unfold forTurn
  refine Bd (Ah (wpAny_onRaise (W.done _ _ _ (hK _ _ hk) λh tk hkeep=>An ⟨rfl,rfl,Bw ?_⟩)))
  have hb:A.under (.block [] env)=A:=Around.under_of_weight rfl rfl
  rw [hb]
  show wpR _ _ (do return Fin.done (<- (execs [] env).onRaise (λx=>do noteFrame x env;theTreesLotGoes x))) _ _ _
  exact Am (Cq (Cy (An (done s h tk hk hkeep))))
 | succ k ih=>
  intro i s e hk
  refine Bw ?_
  rw [Gi]
  show wpR _ _ ((forTurn target (.ref I) body [] env).onRaise (λx=>do noteFrame x env;theTreesLotGoes x)) _ _ s
  refine Cq (Ao (E:=λV V=>False) ?_ (λV V z=>z) λV V z=>z.elim)
  unfold forTurn
  refine Bd (Ah (wpAny_onRaise (W.item i _ _ _ (by exact zn3 48506076749922593 rfl e) (hK _ _ hk) λv h tk hP hst hkeep=> ?_)))
  have t:=turn i v s h tk (by exact zn3 48506076749922593 rfl e) hk hP hst hkeep
  have t':wpR (model prog w) A ((letOwnedTupleGo target (.ref I) v>>= λV=>assign target env v)>>= λV=>(do
    match<-execs body env with
    | .next | .cont=>again (.forLoop target (.ref I) body [] env)
    | .brk=>pure (.done .next)
    | .ret v=>pure (.done (.ret v)))) (λfin s'=>match fin with | .done f=>R (.ok f) s' | .again c'=>c'.quiet=true/\Bj c'=true/\Ax (model prog w) A c' R s') (λV V=>False) {s with heap:=h,toks:=tk}:=by
   refine Ah (wpAny_mono t (λV s2 z=>Am (Ao z (λf s3 y=> ?_) λV V y=>y)) λV V y=>y)
   cases f with
   | next=>exact An ⟨rfl,rfl,ih (i+1) s3 (by exact Ac (zn3 88604346308972075700512 rfl e) (zn3 13083412029643868995872 rfl e)) y⟩
   | cont=>exact An ⟨rfl,rfl,ih (i+1) s3 (by exact Ac (zn3 88604346308972075700512 rfl e) (zn3 13083412029643868995872 rfl e)) y⟩
   | brk=>exact An y
   | ret v=>exact An y
  rw [bind_assoc] at t'
  exact t'
end
section
variable (prog:Program)(w:World)(A:Around)(env:Env)(target:PySem.Expr)(body:List Stmt)(Q:Flow->Shared->Prop)
noncomputable def Dg(it:Value)(s:Shared):Prop:=
 ∃(I:Addr) (fp:List Addr) (n:Nat) (P:Nat->Value->Prop) (St:Nat->Heap->Prop) (K:Nat->Shared->Prop),it= .ref I/\Walks prog w A I fp [I] n P St/\(∀i s,K i s->St i s.heap)/\K 0 s/\
  (∀i v s h tk,i<n->K i s->P i v->St (i+1) h->(∀b o,b∉ [I]->s.heap.get? b=some o->h.get? b=some o)->
   wpAny (model prog w) A (letOwnedTupleGo target (.ref I) v>>= λV=>assign target env v) (λV s2=>wpR (model prog w) A (execs body env) (Dk K Q i) (λV V=>False) s2) (λV V=>False) {s with heap:=h,toks:=tk})/\
  (∀s h tk,K n s->(∀b o,b∉ [I]->s.heap.get? b=some o->h.get? b=some o)->Q .next {s with heap:=h,toks:=tk})
end
section
variable {prog:Program}{w:World}{A:Around}{s:Shared}{env:Env}{target:PySem.Expr}{body:List Stmt}{Q:Flow->Shared->Prop}{E:Value->Shared->Prop}
theorem mark_none:A.mark none=A:=by
 obtain ⟨hd,d,fr,gs,u⟩:=A
 simp [Around.mark]
theorem F0(h:wpAny (model prog w) A (eval iter env) (λxv s₁=>wpAny (model prog w) A (pyIter xv) (Dg prog w A env target body Q) E s₁) E s)
  (hs:∀x,foldedSetIterable iter env x=pure x:=by intro _;with_unfolding_all rfl):wpR (model prog w) A (exec (.For target iter body [] pos) env) Q E s:=by
 rw [exec_For]
 refine Bd (Ah (wpAny_mono h (λx s₁ h₁=>Ah (wpAny_of_eq (hs x) (Bd (Ah (wpAny_holding (wpAny_mono h₁ (λit s₂ h₂=> ?_) λV V z=>z)))))) λV V z=>z))
 obtain ⟨I,fp,n,P,St,K,rfl,W,hK,h0,turn,done⟩:=h₂
 unfold runOwn
 refine Cq (Ao (E:=λV V=>False) ?_ (λV V z=>z) λV V z=>z.elim)
 refine Mk rfl ?_
 rw [mark_none]
 exact Oh (R:=λr s'=>match r with | .ok f=>Q f s' | .error _=>False) W K hK turn done n 0 s₂ (Nat.zero_add n) h0
end
section
variable {ax:Addr}{vs:List Value}{c:Nat}{h₀:Heap}{L:Addr}
theorem Q4:∀ {I:Addr} i (h h':Heap) (o:Obj) (nw:List (Addr×Obj)),(h.IsListIter I ax i/\h.IsList ax vs.toArray)->h.get? I=some o->h'.get? I=some o->(∀b o,h₀.get? b=some o->h'.get? b=some o)->News h₀ L h' nw->(ax,listOf vs.toArray c)∈nw->(h'.IsListIter I ax i/\h'.IsList ax vs.toArray):=
 λi h h' o nw st e e' k N S=>⟨by obtain ⟨o',q,r⟩:=st.1;rw [e] at q;cases q;exact ⟨o,e',r⟩,⟨_,(N _ S).1,rfl,c,rfl⟩⟩
theorem V3:∀ {I:Addr} i (h h':Heap) (o:Obj) (nw:List (Addr×Obj)),(h.IsTupleIter I ax i/\h.IsTuple ax vs.toArray)->h.get? I=some o->h'.get? I=some o->(∀b o,h₀.get? b=some o->h'.get? b=some o)->News h₀ L h' nw->(ax,Ap vs)∈nw->(h'.IsTupleIter I ax i/\h'.IsTuple ax vs.toArray):=
 λi h h' o nw st e e' k N S=>⟨by obtain ⟨o',q,r⟩:=st.1;rw [e] at q;cases q;exact ⟨o,e',r⟩,⟨_,(N _ S).1,rfl,0,rfl⟩⟩
end
end
section
namespace BF
theorem mro:mroOf (.type "bytearray")=pure [.type "bytearray",.type "object"]:=by rw [mroOf_type];kernel_rfl
theorem look_new:typeLookup (.type "bytearray") "__new__"=pure (some (.builtin "bytearray.__new__")):=by rw [typeLookup_type,builtinLookup_eq_fast];kernel_rfl
theorem slot_init:Slot "bytearray" "__init__" "bytearray.__init__":=
 .of (owner:="bytearray") (n:="__init__") (by rw [typeLookup_type,builtinLookup_eq_fast];kernel_rfl) (by decide+kernel) (by decide+kernel) (by decide+kernel)
  (by first | exact .inl (by decide+kernel) | exact .inr (by decide+kernel)) (by rw [isSubtype_type];kernel_rfl)
theorem called:TypeCalled "bytearray" "bytearray.__new__" "bytearray.__init__":=
 ⟨by decide+kernel,by decide+kernel,⟨_,_,mro⟩,madeBy_type mro look_new (by decide+kernel),by decide+kernel,by rw [isSubtype_type];kernel_rfl,slot_init⟩
theorem typeCall:checkTypeCall "bytearray" ⟨[],[]⟩=pure ():=by kernel_rfl
theorem newCall:checkBuiltinCall "bytearray.__new__" ⟨[.type "bytearray"],[]⟩=pure ():=by kernel_rfl
theorem plain_new:plainId "bytearray.__new__"=true:=by decide+kernel
theorem plain_init:plainId "bytearray.__init__"=true:=by decide+kernel
theorem entry_new:entryFor table "bytearray.__new__"=some Builtin.«list.__new__»:=entryFor_alias (id':="list.__new__") (by rw [fastTable_eq_tree];kernel_rfl) (by first | rfl | decide+kernel) (by decide+kernel) (by rw [fastTable_eq_tree];kernel_rfl)
theorem entry_init:entryFor table "bytearray.__init__"=some Builtin.«bytearray.__init__»:=entryFor_of_tree (by kernel_rfl)
theorem sub_self:isSubtype (.type "bytearray") (.type "bytearray")=pure true:=by rw [isSubtype_type];kernel_rfl
theorem args_init(a:Value):argsOk "bytearray.__init__" ⟨[a],[]⟩:=by unfold argsOk;kernel_rfl
theorem no_release:typeLookup (.type "bytearray") "__release_buffer__"=pure (some (.builtin "bytearray.__release_buffer__")):=by rw [typeLookup_type,builtinLookup_eq_fast];kernel_rfl
theorem owner_new:("bytearray.__new__".splitOn ".__new__").headD ""="bytearray":=by simp+decide [String.splitOn,String.splitOnAux]
end BF
section
variable {prog:Program}{w:World}{A:Around}{E:Value->Shared->Prop}{s:Shared}
noncomputable abbrev Ai(b:Array UInt8):Obj:= {cls:= .type "bytearray",data:= .bytearray b}
theorem Ok(h:Q₁ (.ref s.heap.objs.size) {s with heap:=s.heap.push (Ai #[])}):
  codeAny (model prog w) A (.call (.builtin "bytearray.__new__") ⟨[.type "bytearray"],[]⟩) (wants Q₁ E) s:=by
 refine codeAny_of_tree ?_
 show wpAny _ A.in1 (do checkBuiltinCall "bytearray.__new__" ⟨[.type "bytearray"],[]⟩;again (.builtin "bytearray.__new__" ⟨[.type "bytearray"],[]⟩)) _ _ s
 refine wpAny_bind (wpAny_of_eq BF.newCall (wpAny_pure ⟨plainId_quiet BF.plain_new _,codeAny_builtin_stack BF.entry_new rfl λp st=> ?_⟩))
 rw [Around.under_plainId BF.plain_new _]
 have hsub:=BF.sub_self
 have hown:=BF.owner_new
 obtain ⟨hp,g,d,tk,os⟩:=s
 simp only [hown]
 wp_walk
 exact h
theorem Ha{id:String}{args:Args}{b:Builtin}{R:Result->Shared->Prop}(hb:entryFor table id=some b)
  (h:wpR (model prog w) (A.under (.builtin id args)) (b args)
   (λfin s'=>match fin with | .done f=>R (.ok f) s' | .again c'=>c'.quiet=true/\Bj c'=true/\Ax (model prog w) A c' R s') (λe s'=>R (.error e) s') s):Ax (model prog w) A (.builtin id args) R s:=by
 refine Bw ?_
 show wpR _ _ (match entryFor table id with | some b=>b args | none=>unsupported ((withoutEnding? id "#data").getD id)) _ _ s
 rw [hb];exact h
theorem Jg{id:String}{args:Args}{b:Builtin}{R:Result->Shared->Prop}(hq:plainId id=true)(hok:Bj (.builtin id args)=true)(hb:entryFor table id=some b)
  (h:wpAny (model prog w) A.in1 (checkBuiltinCall id args) (λV s₁=>wpR (model prog w) A.in1 (b args)
   (λfin s'=>match fin with | .done f=>R (.ok f) s' | .again c'=>c'.quiet=true/\Bj c'=true/\Ax (model prog w) A c' R s') (λe s'=>R (.error e) s') s₁)
   (λe s'=>R (.error e) s') s):Ax (model prog w) A (.call (.builtin id) args) R s:=by
 refine Bw (Av ?_)
 show wpAny _ A.in1 (do checkBuiltinCall id args;again (.builtin id args)) _ _ s
 refine wpAny_bind (wpAny_mono h (λV s₁ h₁=>wpAny_pure ⟨plainId_quiet hq _,hok,Ha hb ?_⟩) λV V z=>z)
 rw [Around.under_plainId hq args];exact h₁
theorem Ch(ha:s.heap.get? a=some (Ai b)):s.TypeIs (.ref a) "bytearray":=⟨_,ha,rfl⟩
theorem I4(ha:s.heap.get? a=some (Ai b))(h:Q false s):wpAny M A (Builtin.Bytes.ownRelease (.ref a)) Q E s:=by
 have key:∀x:String,x="bytearray"->∀Q:Bool->Shared->Prop,Q true s->wpAny M A (isInstance (.ref a) (.type x)) Q E s:=λx hx Q hQ=>by
  rw [hx];exact wpAny_isInstance (T:="bytearray") (b:=true) (Ch ha) BF.sub_self hQ
 refine wpAny_bind (wpAny_bind (wpAny_specialOf (Ch ha) BF.no_release ?_))
 dsimp only
 split
 ·rename_i hx
  exact absurd hx (by decide+kernel)
 ·exact key _ (by decide+kernel) _ (wpAny_pure h)
theorem Js(h:Q false s):wpR M A (Builtin.Bytes.exported v) Q E s:=by
 unfold Builtin.Bytes.exported
 refine Wo (λc p hc=> ?_) h
 have lit:∀(id:String) (args:Args),holdIds.contains id=true->Bj (.builtin id args)=true->False:=λid args e h=>by
  have:(!holdIds.contains id)=true:=h
  rw [e] at this;exact Bool.false_ne_true this
 have key:∀(id:String) (args:Args),Bj (.builtin id args)=true->Builtin.Bytes.decodersThatHold.contains id=false:=λid args h=>by
  cases e:Builtin.Bytes.decodersThatHold.contains id with
  | false=>rfl
  | true=>exact (lit id args (by unfold holdIds;rw [List.contains_eq_any_beq,List.any_append,<-List.contains_eq_any_beq (l:=Builtin.Bytes.decodersThatHold),e,Bool.or_true]) h).elim
 cases c with
 | builtin id args=>
  have ne:∀x,holdIds.contains x=true->id≠x:=λx e he=>lit id args (he▸e) hc
  delta Builtin.Bytes.exported.match_1
  refine Eq.trans (dif_neg (ne "bytearray.__contains__" (by decide+kernel))) ?_
  refine Eq.trans (dif_neg (ne "bytearray.__mod__" (by decide+kernel))) ?_
  refine Eq.trans (dif_neg (ne "bytearray.__rmod__" (by decide+kernel))) ?_
  refine Eq.trans (dif_neg (ne "_struct.pack_into.held" (by decide+kernel))) ?_
  refine Eq.trans (dif_neg (ne "bytearray.find.held" (by decide+kernel))) ?_
  obtain ⟨pos,kw⟩:=args
  cases pos with
  | nil=>rfl
  | cons v r=>exact (congrArg (_&& ·) (key _ _ hc)).trans (Bool.and_false _)
 | _=>rfl
theorem I3(ha:s.heap.get? a=some (Ai b))(h:Q 0 s):wpAny M A (Builtin.Bytes.exportsOf (.ref a)) Q E s:=by
 unfold Builtin.Bytes.exportsOf
 exact wpAny_bind (wpAny_load ha (wpAny_pure h))
theorem I6(ha:s.heap.get? a=some (Ai b))(hz:(f b).size<=sizeLine)
  (h:∀h',h'.get? a=some (Ai (f b))->(∀c,c≠a->h'.get? c=s.heap.get? c)->h'.objs.size=s.heap.objs.size->Q () {s with heap:=h'}):wpAny M A (Builtin.Bytes.write (.ref a) f) Q E s:=by
 show wpAny _ _ (updateBytearray a f) _ _ _
 unfold updateBytearray
 refine wpAny_bind (wpAny_load ha ?_)
 refine wpAny_bind (wpAny_update ha ?_)
 have hS:(s.heap.update a (Obj.mapBytearray f)).get? a=some (Ai (f b)):=Heap.get?_update_self (Obj.mapBytearray f) ha rfl
 refine wpAny_lookBehind hS ?_ (h _ hS (λc hc=> ?_) ?_)
 ·show (if (f b).size>sizeLine then some "bytearray:memory" else none)=none
  rw [if_neg (Nat.not_lt.mpr hz)]
 ·exact Heap.get?_update_other _ _ (Ne.symm hc)
 ·exact Heap.size_update ..
theorem Cz(hc:c=false)(h:wpR M A b Q E s):wpR M A (if c=true then a else b) Q E s:=by
 subst hc;exact h
theorem Le(hc:c=true)(h:wpR M A a Q E s):wpR M A (if c=true then a else b) Q E s:=by
 subst hc;exact h
theorem Nk:Builtin.Bytes.bindOptional "bytearray.__init__" "bytearray" ["source","encoding","errors"] [] []=pure [none,none,none]:=by kernel_rfl
theorem S1{a:Addr}{Q:Value->Shared->Prop}(ha:s.heap.get? a=some (Ai #[]))
  (h:∀h',h'.get? a=some (Ai #[])->(∀c,c≠a->h'.get? c=s.heap.get? c)->h'.objs.size=s.heap.objs.size->Q .none {s with heap:=h'}):
  wpR (model prog w) A (Builtin.«bytearray.__init__» ⟨[.ref a],[]⟩) (λfin s'=>∃v,fin= .done (.ret v)/\Q v s') E s:=by
 unfold Builtin.«bytearray.__init__»
 refine Ah (I4 ha ?_)
 refine Cz rfl ?_
 refine Ah (wpAny_of_eq Nk ?_)
 refine Ah (wpAny_of_eq (a:=()) rfl ?_)
 refine Ah (wpAny_of_eq (a:=()) rfl ?_)
 refine Am ?_
 show wpR _ _ (Builtin.Bytes.exported (.ref a)>>= λb=>_) _ _ _
 refine Am (Js ?_)
 dsimp only
 refine Ah (I3 ha ?_)
 refine An ?_
 refine Cz (by decide) ?_
 refine Ah (I6 ha (Nat.zero_le _) λh' e1 e2 e3=> ?_)
 exact An ⟨_,rfl,h h' e1 e2 e3⟩
theorem S3{Q:Value->Shared->Prop}(h:∀h',h'.get? s.heap.objs.size=some (Ai #[])->(∀b o,s.heap.get? b=some o->h'.get? b=some o)->h'.objs.size=s.heap.objs.size+1->Q (.ref s.heap.objs.size) {s with heap:=h'}):wpR (model prog w) A (call (.type "bytearray") []) Q E s:=by
 obtain ⟨c,tl,hmro⟩:=BF.called.mro
 have hmade:=BF.called.made
 have hsub:=BF.called.sub
 refine Co (Bw (Av ?_))
 show wpAny _ _ (callAny (.type "bytearray") _) _ _ _
 refine wpAny_pure ⟨Code.quiet_builtin _ (by decide+kernel),rfl,Ha F.entry_type_call ?_⟩
 rw [Around.under_plain (weight_type_call_type "bytearray" [] []) rfl]
 have h1:=BF.called.notType
 have h2:=BF.called.canCreate
 unfold Builtin.«type.__call__»
 simp only [h1,h2,Bool.false_eq_true,if_false,hmade,hmro,BF.typeCall,pure_bind,List.isEmpty_cons]
 refine Ah (wpAny_holding (wpAny_call (Ok ?_)))
 have hget:(s.heap.push (Ai #[])).get? s.heap.objs.size=some (Ai #[]):=Heap.get?_push_size _ rfl
 have hT:({s with heap:=s.heap.push (Ai #[])}:Shared).TypeIs (.ref s.heap.objs.size) "bytearray":=⟨_,hget,rfl⟩
 refine Ah (wpAny_isInstance (T:="bytearray") (b:=true) hT BF.sub_self ?_)
 refine Cz rfl ?_
 refine Am (Cp ?_)
 refine Ah (wpAny_specialOf hT BF.slot_init.lookup ?_)
 refine Cp (Ah (wpAny_pure (Am (Co (Jg BF.plain_init (by show (!holdIds.contains "bytearray.__init__")=true;decide+kernel) BF.entry_init (BF.slot_init.check _ _ _ _ _ _ _ _ hT (BF.args_init _) ?_))))))
 refine Ao (S1 (s:= {s with heap:=s.heap.push (Ai #[])}) (Q:=λv s'=>v= .none/\∃h',s'= {s with heap:=h'}/\h'.get? s.heap.objs.size=some (Ai #[])/\(∀b o,s.heap.get? b=some o->h'.get? b=some o)/\h'.objs.size=s.heap.objs.size+1) hget λh' e1 e2 e3=>⟨rfl,h',rfl,e1,λb o e=> ?_,?_⟩) ?_ λV V z=>z
 ·rw [e2 b (Nat.ne_of_lt (Heap.lt_size e))]
  exact hPu _ e
 ·rw [e3,Heap.size_push]
 ·rintro fin s' ⟨v,rfl,rfl,h',rfl,e1,e2,e3⟩
  exact An (An (h h' e1 e2 e3))
end
end
section
namespace BF
theorem slot_extend:Slot "bytearray" "extend" "bytearray.extend":=
 .of (owner:="bytearray") (n:="extend") (by rw [typeLookup_type,builtinLookup_eq_fast];kernel_rfl) (by decide+kernel) (by decide+kernel) (by decide+kernel)
  (by first | exact .inl (by decide+kernel) | exact .inr (by decide+kernel)) (by rw [isSubtype_type];kernel_rfl)
theorem plain_extend:plainId "bytearray.extend"=true:=by decide+kernel
theorem entry_extend:entryFor table "bytearray.extend"=some Builtin.«bytearray.extend»:=entryFor_of_tree (by kernel_rfl)
theorem args_extend(a b:Value):argsOk "bytearray.extend" ⟨[a,b],[]⟩:=by unfold argsOk;kernel_rfl
theorem no_bytes:typeLookup (.type "bytearray") "__bytes__"=pure none:=by rw [typeLookup_type,builtinLookup_eq_fast];kernel_rfl
theorem no_idx:typeLookup (.type "bytearray") "__index__"=pure none:=by rw [typeLookup_type,builtinLookup_eq_fast];kernel_rfl
theorem look_buffer:typeLookup (.type "bytearray") "__buffer__"=pure (some (.builtin "bytearray.__buffer__")):=by rw [typeLookup_type,builtinLookup_eq_fast];kernel_rfl
end BF
section
variable {prog:Program}{w:World}{A:Around}{E:Value->Shared->Prop}{s:Shared}
theorem Uw{id:String}{b:Array UInt8}{t:Tok}{f:Int}:Builtin.Bytes.takeBufferQuiet? id (.bytes b t) f=pure (some (b,none)):=by
 unfold Builtin.Bytes.takeBufferQuiet? Builtin.Bytes.takeBuffer? Builtin.Bytes.buffer?
 rw [KBy.special_eq KBy.look_buffer,KBy.own_buffer,KBy.own_release]
 kernel_rfl
theorem I5(ha:s.heap.get? a=some (Ai b))(h:Q b s):wpAny M A (Builtin.Bytes.payload (.ref a)) Q E s:=by
 exact wpAny_bind (wpAny_bind (wpAny_load ha (wpAny_pure (wpAny_pure h))))
theorem S6(ha:s.heap.get? a=some (Ai b))(h:Q () s):wpR M A (Builtin.Bytes.checkResize (.ref a)) Q E s:=by
 unfold Builtin.Bytes.checkResize
 refine Am ?_
 show wpR _ _ (Builtin.Bytes.exported (.ref a)>>= λb=>_) _ _ _
 refine Am (Js ?_)
 refine Ah (I3 ha ?_)
 refine An ?_
 exact Cz (by decide) (An h)
theorem S0{a:Addr}{b c:Array UInt8}{t:Tok}{Q:Value->Shared->Prop}(ha:s.heap.get? a=some (Ai b))(hz:(b++c).size<=sizeLine)
  (h:∀h',h'.get? a=some (Ai (b++c))->(∀d,d≠a->h'.get? d=s.heap.get? d)->h'.objs.size=s.heap.objs.size->Q .none {s with heap:=h'}):
  wpR (model prog w) A (call (.builtin "bytearray.extend") [.ref a,.bytes c t]) Q E s:=by
 refine Co (Jg BF.plain_extend (by show (!holdIds.contains "bytearray.extend")=true;decide+kernel) BF.entry_extend (BF.slot_extend.check _ _ _ _ _ _ _ _ (Ch ha) (BF.args_extend _ _) ?_))
 unfold Builtin.«bytearray.extend»
 refine Ah (wpAny_of_eq (a:=((.ref a,.bytes c t):Value×Value)) rfl ?_)
 refine Ah (wpAny_of_eq (KBy.special_eq KBy.look_buffer) ?_)
 refine Le rfl ?_
 refine Ah (wpAny_rule (Ah (I5 ha ?_)))
 refine Ah (wpAny_of_eq Uw ?_)
 refine Le rfl ?_
 show wpR _ _ (if (!c.isEmpty)=true then (Builtin.Bytes.checkResize (.ref a)>>= λV=>Builtin.Bytes.write (.ref a) (· ++c)>>= λV=>ret .none) else (Builtin.Bytes.write (.ref a) (· ++c)>>= λV=>ret .none)) _ _ _
 have tail:wpR (model prog w) A.in1 (Builtin.Bytes.write (.ref a) (· ++c)>>= λV=>ret .none) (λfin s'=>
   match fin with
   | Fin.done f=>
    match Except.ok f with
    | Except.ok (Flow.ret v)=>Q v s'
    | Except.ok _=>False
    | Except.error e=>E e s'
   | Fin.again c'=>
    c'.quiet=true/\
     Bj c'=true/\
      Ax (model prog w) A c'
       (λr s'=>
        match r with
        | Except.ok (Flow.ret v)=>Q v s'
        | Except.ok _=>False
        | Except.error e=>E e s')
       s') (λe s'=>E e s') s:=
  Ah (I6 ha hz λh' e1 e2 e3=>An (h h' e1 e2 e3))
 by_cases hc:(!c.isEmpty)=true
 ·rw [if_pos hc]
  exact Am (S6 ha tail)
 ·rw [if_neg hc]
  exact tail
theorem M7{M:Model}{id:String}{a:Addr}{b:Array UInt8}{Q:Option (Array UInt8)->Shared->Prop}(ha:s.heap.get? a=some (Ai b))(h:Q (some b) s):wpAny M A (Builtin.Bytes.buffer? id (.ref a) true) Q E s:=by
 have key:∀x:String,x="bytearray"->∀Q:Bool->Shared->Prop,Q true s->wpAny M A (isInstance (.ref a) (.type x)) Q E s:=λx hx Q hQ=>by
  rw [hx];exact wpAny_isInstance (T:="bytearray") (b:=true) (Ch ha) BF.sub_self hQ
 refine wpAny_bind (wpAny_specialOf (Ch ha) BF.look_buffer ?_)
 dsimp only
 refine wpAny_bind ?_
 unfold Builtin.Bytes.slotIsOwn
 refine wpAny_bind (wpAny_specialOf (Ch ha) BF.look_buffer ?_)
 dsimp only
 split
 ·rename_i hx
  exact absurd hx (by decide+kernel)
 refine key _ (by decide+kernel) _ ?_
 refine bm_if_false rfl ?_
 refine wpAny_bind (wpAny_specialOf (Ch ha) BF.look_buffer ?_)
 refine wpAny_bind (I4 ha ?_)
 refine bm_if_false rfl ?_
 exact wpAny_bind (I5 ha (wpAny_pure h))
theorem M8(ha:s.heap.get? a=some (Ai b))(hz:b.size<=sizeLine)
  (hQ:∀t k,Q (.bytes b t) {s with toks:=k}):codeAny (model prog w) A (.call (.builtin "bytes.__new__") ⟨[.type "bytes",.ref a],[]⟩) (wants Q E) s:=by
 refine codeAny_of_tree ?_
 show wpAny _ A.in1 (do checkBuiltinCall "bytes.__new__" ⟨[.type "bytes",.ref a],[]⟩;again (.builtin "bytes.__new__" ⟨[.type "bytes",.ref a],[]⟩)) _ _ s
 refine wpAny_bind (wpAny_of_eq (F.bm_newCall _) (wpAny_pure ⟨plainId_quiet F.bm_plain _,codeAny_builtin F.bm_entry ?_⟩))
 rw [Around.under_plainId F.bm_plain _]
 have hT:=Ch (s:=s) ha
 unfold Builtin.«bytes.__new__»
 refine wpAny_bind (wpAny_of_eq (a:=true) rfl ?_)
 refine bm_if_false rfl ?_
 refine wpAny_bind (wpAny_of_eq F.bm_sub ?_)
 refine bm_if_false rfl ?_
 refine wpAny_bind (wpAny_of_eq (F.bm_bind _) ?_)
 refine wpAny_bind (wpAny_of_eq (a:=()) rfl ?_)
 refine wpAny_bind (wpAny_of_eq (a:=()) rfl ?_)
 refine bm_if_false rfl ?_
 refine wpAny_bind (wpAny_specialOf hT BF.no_bytes ?_)
 refine wpAny_bind (wpAny_bind ?_)
 show wpAny _ _ (load a>>=_) _ _ _
 refine wpAny_bind (wpAny_load ha ?_)
 refine wpAny_pure (wpAny_pure ?_)
 refine bm_if_false rfl ?_
 refine wpAny_bind (wpAny_specialOf hT BF.no_idx ?_)
 refine bm_if_true rfl ?_
 first
  | show wpAny _ _ (Builtin.Bytes.buffer? "bytes.__new__" (.ref a) true>>=_) _ _ _
  | (refine wpAny_bind ?_;show wpAny _ _ (Builtin.Bytes.buffer? "bytes.__new__" (.ref a) true>>=_) _ _ _)
 refine wpAny_bind (M7 ha ?_)
 refine wpAny_bind (wpAny_rule ?_)
 refine wpAny_bind (wpAny_mkBytes ?_ hz)
 show wpAny _ _ (if (Value.type "bytes"==Value.type "bytes")=true then _ else _) _ _ _
 refine bm_if_true (by decide) ?_
 first
  | exact wpAny_pure (hQ _ _)
  | exact wpAny_bind (wpAny_pure (wpAny_pure (hQ _ _)))
theorem Ny(ha:s.heap.get? a=some (Ai b))(hz:b.size<=sizeLine)
  (hQ:∀t k,Q (.bytes b t) {s with toks:=k}):wpAny (model prog w) A (call (.type "bytes") [.ref a]) Q E s:=by
 refine callType_codes (Q₁:=λobj s₁=>s₁.TypeIs obj "bytes"/\Q obj s₁) F.bm_called (F.bm_typeCall _) F.entry_object_init
  (M8 ha hz λt k=>⟨PySem.W.typeIs_bytes _ _ _,hQ t k⟩) λobj s₁ h₁=> ?_
 exact ⟨h₁.1,F.args_object_init_2 obj _,object_init_meets F.bm_called.init.lookup F.bm_called.made (by decide) prog w A.in1 _ s₁ ⟨h₁.1,rfl,h₁.2⟩⟩
end
end
section
noncomputable def Bf(n:Int):Array UInt8:=byteArr [n/256,n%256]
section
variable {C:Cd}{n:Nat}{w:World}{pos:Pos}{e e1 e2:PySem.Expr}{es:List PySem.Expr}{S:Si C n w}{m:Loc}{l:Led}{a b:Int}{p q:Prop}
theorem Bv.orNil:Bv S m l (.BoolOp .Or [] pos) False:=⟨λh d k Q A hq=>isTrue_or_nil (hq _ _ _ ⟨λh=>(nbF h),λh=>h.elim⟩ A)⟩
theorem Bv.orCons(h1:Bv S m l e p)(h2:¬p->Bv S m l (.BoolOp .Or es pos) q):Bv S m l (.BoolOp .Or (e::es) pos) (p\/q):=
 ⟨λh d k Q A hq=>isTrue_or (h1.run h d k _ A λb h1 k1 hi A1=>by
  cases b with
  | true=>exact hq _ _ _ ⟨λV=> .inl (hi.mp rfl),λV=>rfl⟩ A1
  | false=>exact (h2 λhp=>nbF (hi.mpr hp)).run h1 d k1 _ A1 λb h2 k2 hj A2=>hq _ _ _ ⟨λe=> .inr (hj.mp e),λe=>e.elim (λhp=>(nbF (hi.mpr hp))) hj.mpr⟩ A2)⟩
theorem Bv.or(h1:Bv S m l e1 p)(h2:¬p->Bv S m l e2 q):Bv S m l (.BoolOp .Or [e1,e2] pos) (p\/q):=
 (Bv.orCons h1 λhp=>Bv.orCons (h2 hp) λV=>Bv.orNil).iff ⟨λh=>h.imp id λh=>h.elim id False.elim,λh=>h.imp id .inl⟩
theorem Ev.shr(h1:Ev S m l e1 (isI a))(h2:Ev S m l e2 (isI b))(hb:0<=b):Ev S m l (.BinOp e1 .RShift e2 pos) (isI (a.fdiv (2^b.toNat))):=
 h1.bin h2 λv1 v2 ⟨_,e1⟩ ⟨_,e2⟩ h d k Q hq=>by subst e1 e2;exact rshift_int hb (hq _ _ ⟨_,rfl⟩)
theorem Ev.and255(h1:Ev S m l e1 (isI a)):Ev S m l (.BinOp e1 .BitAnd (.Constant (.int 255) kd p2) pos) (isI (a%256)):=
 h1.bin Ev.int λv1 v2 ⟨_,e1⟩ ⟨_,e2⟩ h d k Q hq=>by subst e1 e2;exact and_int (hq _ _ ⟨_,by rw [bitAnd_m8]⟩)
end
theorem X.down{C:Cd}{n:Nat}{w:World}{S:Si C n w}{d:Drawn}{m:Loc}{l:Led}{e:PySem.Expr}{κ:Value->Drawn->Led->Prop}{p2 p3 p4 p5 p6 pos:Pos}{kd kd2:Nat}(he:Ev S m l e (isI 1))(h:∀r t1 t2 t3,κ (.ref r) d ((r,{cls:= .type "range",data:= .fields #[.int 1 t1,.int (-1) t2,.int (-1) t3]})::l))(ok:okB C (Str.ofString "range") [e]=true:=by exact Eq.refl true):
  X S d m l (.Call (.Name (Str.ofString "range") p2) [e,.UnaryOp .USub (.Constant (.int 1) kd p3) p4,.UnaryOp .USub (.Constant (.int 1) kd2 p5) p6] [] pos) κ:=
 ⟨λh9 k Q A z=>Call_ ((Ev.bi G5 (Bs ok)).run h9 d k _ A λv h1 k1 hv A1=>by
  subst hv
  refine PyProof.Rows.callWith_type1 (args_cons (he.run h1 d k1 _ A1 λv1 h2 k2 ⟨t1,e1⟩ A2=>args_cons (Ev.intN.run h2 d k2 _ A2 λv2 h3 k3 ⟨t2,e2⟩ A3=>args_cons (Ev.intN.run h3 d k3 _ A3 λv3 h4 k4 ⟨t3,e3⟩ A4=>args_nil ?_) (Ad rfl)) (Ad rfl)) (Ad (all1 (Aj ok)))) (Ad (all1 (Aj ok))) rfl
  subst e1 e2 e3
  have A5:=A4.push {cls:= .type "range",data:= .fields #[.int 1 t1,.int (-1) t2,.int (-1) t3]}
  refine call_range_3 (by decide) (z _ _ _ _ _ (h _ t1 t2 t3) (A4.new A5.F (λp hp=>(lC hp).elim (λe=>e▸⟨Heap.get?_push_size _ rfl,(Nat.ne_of_lt A4.F.ns.lt).symm,next_is_new A4.F⟩) (A5.N p)) λp hp=>Heap.lt_size (A4.N p hp).1))) Bm⟩
theorem Wv.down{cn:Str}{cs:Scope}{fa:Addr}{cc:Value}{n:Nat}{w:World}{S:Si (P4 cn cs fa cc) n w}{d:Drawn}{m:Loc}{l:Led}{r:Addr}{t1 t2 t3:Tok}(hm:(r,({cls:= .type "range",data:= .fields #[.int 1 t1,.int (-1) t2,.int (-1) t3]}:Obj))∈l):Wv S d m l (.ref r) (λV=>True) 2 λi v=>i<2/\isI (1- (i:Int)) v:=
 ⟨λh k Q A z=>by
  refine wpAny_pyIter_range (show IsRange h r 1 (-1) (-1) t1 t2 t3 from (A.N1 _ hm).1) (by decide) ?_
  have W:Walks PySem.Challenge.rw_nu0172_01.row.prog w S.A h.objs.size [h.objs.size] [h.objs.size] 2 (λi v=>i<2/\∃t,v= .int (1+i* (-1)) t) (λi h9=>IsRangeIter h9 h.objs.size (1+ (i:Nat)* (-1)) (((2:Nat):Int)- (i:Nat)) (-1)):=(Walks.range S.hh _ 1 (-1) 2).bound
  refine z _ _ _ _ _ ⟨Gj W λi v ⟨hi,t,e⟩=>⟨hi,t,by rw [e];congr 1;omega⟩,λi h st=>⟨_,st⟩,λi h h' o nw st e e' V V V=> ?_,?_,λb hb=> ?_,A.push _,λe=>A.frOff (e▸ .head _),next_is_new A.F,λp hp e=>A.off p hp (e▸ .head _)⟩
  ·have st':h.get? _=some _:=st
   show h'.get? _=some _
   rw [e',<-e];exact st'
  ·show IsRangeIter _ _ _ _ _
   rw [show Builtin.Range.rangeSize 1 (-1) (-1)=((2:Nat):Int) by decide]
   exact Heap.get?_push_size _ rfl
  ·rw [List.mem_singleton.mp hb];exact Nat.lt_of_lt_of_eq (Nat.lt_succ_self _) (Heap.size_push _ _).symm⟩
theorem Vr{w:World}{n:Int}{t1 t2:Tok}(h0:0<=n)(h1:n<=65535):
  TelD w 172 6 ⟨[.int n t1,.int 2 t2],[]⟩ [] []
   (λv mu' new=>∃t,v= .bytes (Bf n) t/\mu'= []/\new= []):=by
 refine' Ib (j:=5) (y:=Str.ofString "number") (vy:= .int n t1) [(Str.ofString "number",.int n t1),(Str.ofString "count",.int 2 t2)] [(Str.ofString "count",.int 2 t2)] ?k6 ?k7 ?k9 ?kB ?kC ?kv ?kl ?_ ?c2 ?c3 ?c4
 case k6=>k_is
 case k7=>k_is
 case k9=>exact λV V=>BindsTo.of_eq rfl
 case kB=>exact rfl
 case kC=>exact λV=>rfl
 case kv=>exact rfl
 case kl=>exact λp hp=>by rw [List.mem_singleton.mp hp];rfl
 case c2=>exact rfl
 case c3=>exact rfl
 case c4=>exact rfl
 intro S K d m l₁ c oc hcl hc ho _ hK v1
 have kc:S.cl.lookup (Str.ofString "number")=some c:=by rw [hcl];rfl
 have e16:n.fdiv (2^ (8*2:Int).toNat)=0:=by
  show n.fdiv 65536=0
  rw [Int.fdiv_eq_ediv_of_nonneg _ (by decide)];omega
 refine W.ite (Bv.or (Bv.lt (Ev.cell kc hc ho).toI Ev.int) λV=>Bv.gt (Ev.shr (Ev.cell kc hc ho).toI (Ev.mul Ev.int (Ev.nameI v1) (.of_left (by decide))) (by decide)) Ev.int) (λh=>by rw [e16] at h;omega) λV=>W.nil ?_
 let val:Nat->Int:=λi=>(n.fdiv (2^ (8* (1- (i:Int))).toNat))%256
 refine W.retX (Mine.X.t1 I9 (Mine.X.comp (CR.of (Cu kc) (Mine.X.down (Ev.sub (Ev.nameI v1) Ev.int) λr t1 t2 t3=>⟨rfl,⟨_,_,_,λi ys l'=>l'=(r,({cls:= .type "range",data:= .fields #[.int 1 t1,.int (-1) t2,.int (-1) t3]}:Obj))::l₁/\IntsAre ys ((List.range i).map val),Wv.down (.head _),⟨λV V V V=>trivial,λS' i v ys l' ⟨hi,t,e⟩ hI ⟨e1,e2⟩=> ?_⟩,⟨rfl,.nil⟩,by decide,λys l' ⟨e1,e2⟩ D1 _=> ?_⟩⟩))))
 ·subst e e1
  refine X.evI (Ev.and255 (Ev.shr (Ev.cell (hI.cl▸B9 kc rfl) (.tail _ hc) ho).toI (Ev.mul Ev.int (hI.nm _ _ _).toI (.of_left (by decide))) (by exact zn1 432909638781839653 rfl hi))) λt2=>⟨rfl,rfl,?_⟩
  rw [List.range_succ,List.map_append]
  exact ints_app e2 (.cons _ _ .nil)
 ·subst e1
  have e3:(List.range 2).map val= [n/256%256,n%256]:=by
   show [(n.fdiv 256)%256,(n.fdiv 1)%256]=_
   rw [Int.fdiv_eq_ediv_of_nonneg _ (by decide),Int.fdiv_eq_ediv_of_nonneg _ (by decide),Int.ediv_one]
  rw [e3] at e2
  refine CX.bytes (.head _) e2 (λx hx=> ?_) (nLe rfl) λt=> ?_
  ·rcases lC hx with e | hx
   ·subst e;exact ⟨zi1 11044661541 rfl (Hm _ 256 rfl),zi1 295904833173438759206 rfl (Hl _ 256 rfl)⟩
   ·rw [List.mem_singleton.mp hx];exact ⟨zi1 11044661541 rfl (Hm _ 256 rfl),zi1 295904833173438759206 rfl (Hl _ 256 rfl)⟩
  ·have hu:byteArr [n/256%256,n%256]=Bf n:=by
    unfold Bf
    rw [show n/256%256=n/256 by omega]
   rw [hu]
   exact hK _ d [] _ ⟨t,rfl,rfl,rfl⟩ (λV h=>no h) (λV h=>no h) λp hp=> .tail _ (.tail _ hp)
end
section
section
variable {prog:Program}{w:World}{A:Around}{K:Frag}{C:Addr}{R:Result->Shared->Prop}{h:Heap}{g:Array GenState}{d:Drawn}{t:Nat}{os:OsState}
theorem Og{s:Shared}{id:String}{args:Args}{b:Builtin}(hq:(Code.builtin id args).quiet=true)(hok:Bj (.builtin id args)=true)(hb:entryFor table id=some b)
  (h:wpAny (model prog w) A.in1 (checkBuiltinCall id args) (λV s₁=>wpR (model prog w) (A.under (.builtin id args)) (b args)
   (λfin s'=>match fin with | .done f=>R (.ok f) s' | .again c'=>c'.quiet=true/\Bj c'=true/\Ax (model prog w) A c' R s') (λe s'=>R (.error e) s') s₁)
   (λe s'=>R (.error e) s') s):Ax (model prog w) A (.call (.builtin id) args) R s:=by
 refine Bw (Av ?_)
 show wpAny _ A.in1 (do checkBuiltinCall id args;again (.builtin id args)) _ _ s
 exact wpAny_bind (wpAny_mono h (λV s₁ h₁=>wpAny_pure ⟨hq,hok,Ha hb h₁⟩) λV V z=>z)
theorem S8{rest:List Value}{kw:List (Str×Value)}{init:Value}(Y:Makes (model prog w) h C)(hi:Looks (model prog w) h (typeLookup (.ref C) "__init__") (some init))
  (hb:∀self,Looks (model prog w) h (bindSpecial init self) (init,[self]))(hne:(some init !=some (Value.builtin "object.__init__"))=true\/(rest= []/\kw= []))
  (hq:Ax (model prog w) (A.under (.builtin "type.__call__" ⟨.ref C::rest,kw⟩)) (.call init ⟨.ref (h.objs.size+1)::rest,kw⟩) (InitBack (h.objs.size+1) R) ⟨(h.push emptyDict).push (instObj C h.objs.size),g,d,t,os⟩):
  Ax (model prog w) A (.call (.ref C) ⟨rest,kw⟩) R ⟨h,g,d,t,os⟩:=by
 have Y':=Y
 obtain ⟨⟨oc,od,cd,sl,hC,e1,e2,e4⟩,made,base,self,top,call,typ⟩:=Y
 refine Bw (Av ?_)
 show wpAny _ _ (callAny (.ref C) _) _ _ _
 refine nd_load hC ?_
 show wpAny _ _ (callAny.viaDunder (.ref C) _) _ _ _
 unfold callAny.viaDunder
 refine wpAny_bind (call.at ?_)
 dsimp only
 rw [tc_bind]
 refine wpAny_bind (wpAny_pure (wpAny_bind (wpAny_pure ?_)))
 refine wpAny_pure (a:=PySem.Fin.again (.call (.builtin "type.__call__") ⟨.ref C::rest,kw⟩)) (And.intro rfl (And.intro rfl ?_))
 refine Og (Code.quiet_builtin _ (by decide+kernel)) (by show (!holdIds.contains "type.__call__")=true;decide+kernel) entry_typeCall (check_slot tc_kind tc_split typ (tc_args _ _ _) ?_)
 unfold Builtin.«type.__call__»
 have hm:Looks (model prog w) h (mroOf (.ref C)) cd.mro:=((Looks.ld (part:=none) hC).andThen .now).andThen .now
 refine Cz rfl ?_
 repeat (first | simp only [e4,Bool.false_eq_true,if_false] | with_reducible refine wpAny_call ?_ | with_reducible refine Ah ?_ | lk)
 refine new_K Y' hi hne ?_
 have k:∀b o,h.get? b=some o->((h.push emptyDict).push (instObj C h.objs.size)).get? b=some o:=λb o e=>hPu _ (hPu _ e)
 have hx:((h.push emptyDict).push (instObj C h.objs.size)).get? (h.objs.size+1)=some (instObj C h.objs.size):=by heap_get
 have t1:Looks (model prog w) ((h.push emptyDict).push (instObj C h.objs.size)) (typeOf (.ref (h.objs.size+1))) (.ref C):=(Looks.ld hx).andThen .now
 have s1:=self.keeps k
 have i1:=hi.keeps k
 have b1:=(hb (.ref (h.objs.size+1))).keeps k
 refine Ah ?_
 repeat lk
 refine Cz rfl ?_
 refine Am (Cp ?_)
 refine Ah ?_
 repeat lk
 refine Cp ?_
 refine Ah ?_
 repeat lk
 refine Am (Co (Oj hq λr s' z=> ?_))
 rcases r with e | (v | _ | _ | _)<;>first | exact z | exact z.elim | skip
 obtain ⟨rfl,z⟩:=z
 exact An (An z)
end
section
variable {prog:Program}{w:World}{A:Around}{K:Frag}{C:Addr}{s:Shared}{h₀:Heap}{L:Addr}{m:Str->Option Value}{news:List (Addr×Obj)}{E:Value->Shared->Prop}{Q:Value->Shared->Prop}
theorem S7{pos:List Value}{fI:Addr}(F:Fr h₀ L s.heap m)(X₀:K.In h₀)(N:News h₀ L s.heap news)(hm:makesIn K C=true)(hi:findIn K (.ref C) "__init__"=some (some (.ref fI)))(hf:isFn K (.ref fI)=true)
  (h:∀x dx h',Fr h₀ L h' m->News h₀ L h' ((x,instObj C dx)::(dx,dictOf [] 0)::news)->(∀p∈news,p.1<dx)->dx<x->
   Ax (model prog w) (A.under (.builtin "type.__call__" ⟨.ref C::pos,[]⟩)) (.call (.ref fI) ⟨.ref x::pos,[]⟩) (InitBack x λr s'=>match r with | .ok (.ret v)=>Q v s' | .ok _=>False | .error e=>E e s') {s with heap:=h'}):
  wpR (model prog w) A (call (.ref C) pos) Q E s:=by
 refine Co ?_
 obtain ⟨hh,g,d,t,os⟩:=s
 have X:=X₀.keeps F.keep
 refine S8 (makes_of X hm) (looks_findIn X hi) (λself=>bind_fn X self (beq_iff_eq.mp hf)) (.inl rfl) (h _ hh.objs.size _ ((F.push _).push _) ?_ (λp hp=>Heap.lt_size (N p hp).1) (Nat.lt_succ_self _))
 have:=(N.push F emptyDict).push (F.push _) (instObj C hh.objs.size)
 rwa [Heap.size_push] at this
end
end
example:Fl:=by walk_at "zF"
section
example:True:=by
 k_with "eval Constant int"=>(refine Dq ?_)
 trivial
example:True:=by
 k_with "binaryOp Add int int"=>(refine Dl ?_)
 trivial
example:True:=by
 k_with "storeName"=>(k_here;k_dflt (refine' D4 ?F ?N ?_ ?a ?b;(case F=>k_asm);(case N=>k_asm);(case a=>rfl);(case b=>rfl));intro h' k' F' N')
 trivial
noncomputable abbrev Bk(w:World)(tk:Tok)(D:Addr):Obj:=dictOf [{hash:=PyData.keyHash w.params (Str.ofString "made"),key:=Value.str (Str.ofString "made") tk,val:=Value.ref D}] 1
section
variable {prog:Program}{w:World}{A:Around}{E:Value->Shared->Prop}{s:Shared}{h₀:Heap}{L:Addr}{m:Str->Option Value}{news:List (Addr×Obj)}{Q:Value->Shared->Prop}{g:Obj->List (Addr×Obj)}
theorem S2(F:Fr h₀ L s.heap m)(N:News h₀ L s.heap news)(h:∀D h',Fr h₀ L h' m->News h₀ L h' ((D,Ai #[])::news)->(∀q∈news,q.1<D)->Q (.ref D) {s with heap:=h'}):
  wpR (model prog w) A (call (.type "bytearray") []) Q E s:=by
 refine S3 λh' e1 e2 V=>h _ h' (F.keeps e2) (λq hq=> ?_) λq hq=>Heap.lt_size (N q hq).1
 rcases lC hq with rfl | hq
 ·exact ⟨e1,Nat.ne_of_gt F.ns.lt,next_is_new F⟩
 ·exact ⟨e2 _ _ (N q hq).1,(N q hq).2⟩
theorem Sz(F:Fr h₀ L s.heap m)(N:News h₀ L s.heap news)(U:UpdF D (Ai b) news g)(hz:(b++c).size<=100000)
  (h:∀h',Fr h₀ L h' m->News h₀ L h' (g (Ai (b++c)))->Q .none {s with heap:=h'}):wpR (model prog w) A (call (.builtin "bytearray.extend") [.ref D,.bytes c t]) Q E s:=by
 have z:s.heap.get? D=some (Ai b):=by
  obtain ⟨pre,post,rfl,_⟩:=id U.split
  exact (N (D,_) (lR _ (.head _))).1
 refine S0 z (by rw [sizeLine_eq];omega) λh' e1 e2 V=> ?_
 obtain ⟨f1,n1⟩:=Cw (h':=h') F N U (λb x hb e=>(e2 b hb).trans e) e1
 exact h h' f1 n1
end
section
theorem U7{w:World}{X dx:Addr}(hXd:X≠dx):
  TelR w 186 4 ⟨[.ref X],[]⟩ [(dx,dictOf [] 0)] [(X,instObj 259 dx)]
   (λv mu' new=>∃tk D,v= .none/\mu'= [(dx,Bk w tk D)]/\new= [(D,Ai #[])]):=by
 refine' Ic ?k6 ?k7 ?k9 ?kB ?_ ?c2 ?c3 ?c4 ?c5
 case k6=>k_is
 case k7=>k_is
 case k9=>exact λV V=>BindsTo.of_eq rfl
 case kB=>exact locs rfl
 case c2=>exact rfl
 case c3=>exact rfl
 case c4=>exact rfl
 case c5=>decide
 intro dp un gd env outer base gh L' h₁ p loose mean mg mb s tk R hd hu B XX TT F N
 (try dsimp only)
 (try k_fold)
 simp only [List.cons_append,List.nil_append] at N
 refine Az (Sp (C9 ?_) (by with_unfolding_all rfl))
 k_steps
 refine S5 rfl (S2 (by assumption) (by assumption) λD h2 F2 N2 lt2=> ?_)
 k_lt lt2
 k_steps
 refine (Cy ?_:wpR _ _ (execs [] _) _ _ _)
 refine' Ds (mu':= [(dx,_)]) (new:= [(D,_)]) ?e1 ?e2 ?e3 ?e4 ⟨_,D,rfl,rfl,rfl⟩
 (case e1=>k_asm)
 (case e2=>k_asm)
 (case e3=>(simp only [List.nil_append,List.cons_append];k_allIn))
 (case e4=>
  intro p hp q hq
  rw [List.mem_singleton.mp hp]
  simp only [List.cons_append,List.nil_append,List.mem_cons,List.not_mem_nil,or_false] at hq
  rcases hq with rfl | rfl
  ·exact lt2.1
  ·exact lt2.2)
theorem Lf{w:World}{A:Around}{h₀:Heap}{L:Addr}{m:Str->Option Value}{news:List (Addr×Obj)}{s:Shared}{Q E:Value->Shared->Prop}(H:Here w A 8 h₀ L)(F:Fr h₀ L s.heap m)(N:News h₀ L s.heap news)
  (h:∀X dx D tk h' tk' dr',Fr h₀ L h' m->News h₀ L h' ((dx,Bk w tk D)::(D,Ai #[])::(X,instObj 259 dx)::news)->dx<X->X<D->(∀q∈news,q.1<dx)->Q (.ref X) {s with heap:=h',toks:=tk',drawn:=dr'}):
  wpR (model PySem.Challenge.rw_nu0172_01.row.prog w) A (call (.ref 259) []) Q E s:=by
 refine H.on λp loose mean mg mb env outer A₀ base B X T hh hf hfr hke hd hu=> ?_
 refine S7 (K:=Mine.hd.heap_39 w.params) F X N (by k_is) (by k_is) (by k_is) λx dx h1 F1 N1 l1 l2=> ?_
 have H1:Here w (A.under (.builtin "type.__call__" ⟨.ref 259:: [],[]⟩)) 4 h₀ L:=by
  refine Here.of B X T hh hf hfr hke ?_ ?_
  ·show A.depth+1+4<_
   exact zn2 57668911037101527329 rfl hd
  ·show A.units+1+8*4<_
   exact zn2 60137116426130181214497 rfl hu
 refine U7 (Nat.ne_of_gt l2) _ h₀ L m news _ _ H1 F1 (λq hq=> ?_) (λq hq r hr=> ?_) λv mu' new h' tk' dr' F' N' hl hn hP=> ?_
 ·rcases lC hq with rfl | hq
  ·exact N1 _ (.tail _ (.head _))
  rcases lC hq with rfl | hq
  ·exact N1 _ (.head _)
  ·exact N1 _ (.tail _ (.tail _ hq))
 ·rw [List.mem_singleton.mp hr]
  rcases lC hq with rfl | hq
  ·exact Nat.ne_of_gt l2
  ·exact Nat.ne_of_lt (l1 q hq)
 ·obtain ⟨tk,D,rfl,rfl,rfl⟩:=hP
  exact ⟨rfl,h x dx D tk h' tk' dr' F' N' l2 (hl (D,Ai #[]) (.head _) (x,instObj 259 dx) (.tail _ (.head _))) l1⟩
end
example:True:=by
 k_with_none
 trivial
end
example:Fl:=by walk_at "zF"
example:Fl:=by walk_at "zF"
section
example:True:=by
 k_with "eval Constant int"=>(refine Dq ?_)
 trivial
example:True:=by
 k_with "binaryOp Add int int"=>(refine Dl ?_)
 trivial
example:True:=by
 k_with "storeName"=>(k_here;k_dflt (refine' D4 ?F ?N ?_ ?a ?b;(case F=>k_asm);(case N=>k_asm);(case a=>rfl);(case b=>rfl));intro h' k' F' N')
 trivial
namespace BF
theorem plainAttrs:PlainAttrs "bytearray":=
 ⟨⟨"bytearray.__getattribute__",by rw [typeLookup_type,builtinLookup_eq_fast];kernel_rfl,by decide+kernel⟩,by rw [typeLookup_type,builtinLookup_eq_fast];kernel_rfl⟩
theorem type_extend:typeOf (.builtin "bytearray.extend")=pure (.type "method_descriptor"):=by show builtinType _=_;rw [builtinType_eq_fast];kernel_rfl
end BF
theorem Hb(h:Q .next s):wpAny M A (dropValue e pos .none) Q E s:=by
 rw [dropValue_plain (λa e=>by cases e)]
 exact wpAny_pure h
theorem M9(N:News h₀ L s.heap news)(hp:Pick news (D,Ai b) rest)
  (h:Q (.builtin "bytearray.extend",[.ref D]) s):wpAny (model prog w) A (getMethod (.ref D) "extend" pl) Q E s:=by
 have z:=(N _ (hp.sub _ (.head _))).1
 exact getMethod_builtin (Ch z) BF.plainAttrs BF.slot_extend BF.type_extend (λa e=>by cases e;exact ⟨_,z,rfl⟩) h
section
theorem Sa(h0:0<=n)(h1:n<=65535)
  (H:Here w A 6 h₀ L)(F:Fr h₀ L s.heap m)(N:News h₀ L s.heap big)(h:∀t h' tk' dr',Fr h₀ L h' m->News h₀ L h' big->Q (.bytes (Bf n) t) {s with heap:=h',toks:=tk',drawn:=dr'}):
  wpAny (model PySem.Challenge.rw_nu0172_01.row.prog w) A (call (.ref 172) [.int n t1,.int 2 t2]) Q E s:=by
 refine (Vr h0 h1).use0 H F N (λp hp=>no hp) λv mu' new h' tk' dr' hP F' N' V V=> ?_
 obtain ⟨t,rfl,rfl,rfl⟩:=hP
 exact h t h' tk' dr' F' N'
example:True:=by
 k_with "getMethod ref"=>(refine' M9 ?y1 ?y2 ?_;(case y1=>k_asm);(case y2=>repeat (first | exact Pick.here | apply Pick.there)))
 trivial
example:True:=by
 k_with "call ref"=>((show wpAny _ _ (call (Value.ref 172) _ _) _ _ _);refine' Sa ?z1 ?z2 ?zH ?zF ?zN ?_;(case zF=>k_asm);(case zN=>k_asm);(case z1=>omega);(case z2=>omega);(case zH=>exact Here.of (by assumption) (by assumption) (by assumption) rfl rfl rfl rfl (by (simp only [depth_deeper,Around.deeper_units];omega)) (by (simp only [depth_deeper,Around.deeper_units];omega)));intro t9 h9 tk9 dr9 F9 N9)
 trivial
theorem L6{w:World}{X dx D:Addr}{tk0 t:Tok}{b:Array UInt8}{n:Int}(h0:0<=n)(h1:n<=65535)(hb:b.size<=50000)(e1:dx≠D)(e2:X≠D):
  TelR w 200 10 ⟨[.ref X,.int n t],[]⟩ [(D,Ai b)] [(dx,Bk w tk0 D),(X,instObj 259 dx)]
   (λv mu' new=>v= .none/\mu'= [(D,Ai (b++Bf n))]/\new= []):=by
 refine' Ic ?k6 ?k7 ?k9 ?kB ?_ ?c2 ?c3 ?c4 ?c5
 case k6=>k_is
 case k7=>k_is
 case k9=>exact λV V=>BindsTo.of_eq rfl
 case kB=>exact locs rfl
 case c2=>exact rfl
 case c3=>exact rfl
 case c4=>exact rfl
 case c5=>decide
 intro dp un gd env outer base gh L' h₁ p loose mean mg mb s tk R hd hu B XX TT F N
 (try dsimp only)
 (try k_fold)
 simp only [List.cons_append,List.nil_append] at N
 refine Az (Fz (H3 (pl:=(do return (<-importBound _ _).getD true)) ?_ (by with_unfolding_all rfl)) (by with_unfolding_all rfl) (by with_unfolding_all rfl))
 k_steps
 dsimp only
 refine S4 rfl ?_ (by with_unfolding_all rfl) (by with_unfolding_all rfl)
 k_steps
 refine' Sz ?f1 ?f2 ?f3 ?f4 (λh2 F2 N2=> ?_)
 case f1=>assumption
 case f2=>assumption
 case f3=>k_updF
 case f4=>
  have:(Bf n).size=2:=byteArr_size _
  rw [Array.size_append,this];exact zn1 59030356123488209042690336 rfl hb
 refine Hb ?_
 refine (Cy ?_:wpR _ _ (execs [] _) _ _ _)
 refine' Ds (mu':= [(D,_)]) (new:= []) ?g1 ?g2 ?g3 ?g4 ⟨rfl,rfl,rfl⟩
 (case g1=>k_asm)
 (case g2=>k_asm)
 (case g3=>(simp only [List.nil_append,List.cons_append];k_allIn))
 (case g4=>exact λV h9=>no h9)
theorem Tc{w:World}{X dx D:Addr}{tk0 t:Tok}{b:Array UInt8}{n:Int}{A:Around}{h₀:Heap}{L:Addr}{m:Str->Option Value}{big l1 l2 l3:List (Addr×Obj)}{s:Shared}{Q E:Value->Shared->Prop}(h0:0<=n)(h1:n<=65535)(hb:b.size<=50000)
  (H:Here w A 10 h₀ L)(F:Fr h₀ L s.heap m)(N:News h₀ L s.heap big)(pD:Pick big (D,Ai b) l1)(pd:Pick l1 (dx,Bk w tk0 D) l2)(pX:Pick l2 (X,instObj 259 dx) l3)(hap:∀p∈l1,p.1≠D)
  (h:∀h' tk' dr',Fr h₀ L h' m->News h₀ L h' ((D,Ai (b++Bf n))::l1)->Q .none {s with heap:=h',toks:=tk',drawn:=dr'}):
  wpR (model PySem.Challenge.rw_nu0172_01.row.prog w) A (call (.ref 200) [.ref X,.int n t]) Q E s:=by
 have hd1:(dx,Bk w tk0 D)∈l1:=pd.sub _ (.head _)
 have hX1:(X,instObj 259 dx)∈l1:=pd.sub _ (.tail _ (pX.sub _ (.head _)))
 refine (L6 (tk0:=tk0) (t:=t) h0 h1 hb (hap _ hd1) (hap _ hX1)).use1 H F N pD (λp hp=> ?_) hap λv mu' new h' tk' dr' hP F' N' V V=> ?_
 ·rcases lC hp with rfl | hp
  ·exact hd1
  ·rw [List.mem_singleton.mp hp];exact hX1
 ·obtain ⟨rfl,rfl,rfl⟩:=hP
  exact h h' tk' dr' F' N'
end
example:True:=by
 k_with_none
 trivial
end
example:Fl:=by walk_at "zF"
section
noncomputable def pairD(p:Int×Int):Dat:= .tuple [.int p.1,.int p.2]
noncomputable def Bh(ps:List (Int×Int))(g:Int):List (Int×Int):=
 match ps.getLast? with
 | some p=>if p.2+1=g then ps.dropLast++ [(p.1,g)] else ps++ [(g,g)]
 | none=> [(g,g)]
noncomputable def Ae(gs:List Int):List (Int×Int):=gs.foldl Bh []
theorem Et(gs:List Int)(g:Int):Ae (gs++ [g])=Bh (Ae gs) g:=by
 unfold Ae;rw [List.foldl_append];rfl
theorem Tr(ps:List (Int×Int))(g:Int):(Bh ps g).length<=ps.length+1:=by
 unfold Bh
 split
 ·split
  ·rw [List.length_append,List.length_dropLast,List.length_singleton];exact zn2 36345836081271072 rfl (Nat.sub_le _ _)
  ·rw [List.length_append];exact Nat.le_refl _
 ·exact Nat.succ_le_succ (Nat.zero_le _)
theorem Es(gs:List Int):(Ae gs).length<=gs.length:=by
 have key:∀(gs:List Int) (ps:List (Int×Int)),(gs.foldl Bh ps).length<=ps.length+gs.length:=by
  intro gs
  induction gs with
  | nil=>exact λps=>Nat.le_refl _
  | cons g gs ih=>
   intro ps
   have:=ih (Bh ps g)
   have h2:=Tr ps g
   rw [List.foldl_cons,List.length_cons]
   exact zn4 437770513258104844002346533152 rfl this h2
 have:=key gs []
 rw [List.length_nil,Nat.zero_add] at this
 exact this
theorem Lm(h:ps= []):Bh ps g=ps++ [(g,g)]:=by rw [h];rfl
theorem H6(h:ps=ps0++ [(a,b)])(e:b+1=g):Bh ps g=ps0++ [(a,g)]:=by
 subst h
 unfold Bh
 rw [List.getLast?_concat]
 show (if b+1=g then _ else _)=_
 rw [if_pos e,List.dropLast_concat]
theorem H7(h:ps=ps0++ [(a,b)])(e:¬b+1=g):Bh ps g=ps++ [(g,g)]:=by
 subst h
 unfold Bh
 rw [List.getLast?_concat]
 show (if b+1=g then _ else _)=_
 rw [if_neg e]
theorem K7(h:DatIn tl v (pairD (a,b))):∃ad n ta tb,v= .ref ad/\(ad,({cls:= .type "tuple",data:= .seq [Value.int a ta,Value.int b tb].toArray n}:Obj))∈tl:=by
 cases h with
 | tuple hm hr=>
  cases hr with
  | cons h1 hr=>
   cases hr with
   | cons h2 hr=>
    cases hr
    cases h1
    cases h2
    exact ⟨_,_,_,_,rfl,hm⟩
theorem Sj(h:DatAll tl rs ((ps0++ [(a,b)]).map pairD)):
  ∃rs0 ad n ta tb,rs=rs0++ [.ref ad]/\(ad,({cls:= .type "tuple",data:= .seq [Value.int a ta,Value.int b tb].toArray n}:Obj))∈tl/\DatAll tl rs0 (ps0.map pairD):=by
 have hl:=h.length
 rw [List.length_map,List.length_append,List.length_singleton] at hl
 have hne:rs≠ []:=λe=>by rw [e] at hl;cases hl
 obtain ⟨rs0,v,rfl⟩:∃rs0 v,rs=rs0++ [v]:=⟨rs.dropLast,rs.getLast hne,(List.dropLast_concat_getLast hne).symm⟩
 obtain ⟨es,d,he,h1,h2⟩:=h.snoc
 rw [List.map_append,List.map_singleton] at he
 obtain ⟨e1,e2⟩:=List.append_inj' he rfl
 cases e2
 obtain ⟨ad,n,ta,tb,rfl,hm⟩:=K7 h2
 exact ⟨rs0,ad,n,ta,tb,rfl,hm,e1▸h1⟩
theorem K8{tl:List (Addr×Obj)}{ad:Addr}{n:Nat}{a b:Int}{ta tb:Tok}(h:(ad,({cls:= .type "tuple",data:= .seq [Value.int a ta,Value.int b tb].toArray n}:Obj))∈tl):DatAll tl [.ref ad] ([(a,b)].map pairD):=
 .cons (.tuple h (.cons (.int a ta) (.cons (.int b tb) .nil))) .nil
section
variable {prog:Program}{w:World}{A:Around}{E:Value->Shared->Prop}{s:Shared}{h₀:Heap}{L:Addr}{m:Str->Option Value}{news rest:List (Addr×Obj)}{R:Addr}{vs vs0:List Value}{v x:Value}{c:Nat}{g:Obj->List (Addr×Obj)}
theorem Ub(F:Fr h₀ L s.heap m)(N:News h₀ L s.heap news)(U:UpdF R (listOf (vs0++ [v]).toArray c) news g)(hk:k= -1)(hsz:vs0.length<=1000)
  (h:∀h' c',Fr h₀ L h' m->News h₀ L h' (g (listOf (vs0++ [x]).toArray c'))->Q () {s with heap:=h'}):wpAny (model prog w) A (setItem (.ref R) (.int k u) x) Q E s:=by
 subst hk
 have ho:s.heap.get? R=some (listOf (vs0++ [v]).toArray c):=by
  obtain ⟨pre,post,rfl,_⟩:=id U.split
  exact (N (R,_) (lR _ (.head _))).1
 have hl:s.heap.IsList R (vs0++ [v]).toArray:=⟨_,ho,rfl,c,rfl⟩
 unfold setItem
 try with_reducible refine wpAny_holding ?_
 first | refine wpAny_bind (wpAny_pure ?_) | skip
 refine wpAny_bind (wpAny_sequenceKey hl.typeIs (by decide) ?_)
 refine wpAny_bind (wpAny_callSpecial?_slot (name:=Str.ofString "__setitem__") hl.typeIs slot_list_setitem
  (wpAny_call_entry slot_list_setitem hl.typeIs entry_list_setitem ?_ (args_list_setitem _ _ _)))
 show wpAny _ _ (Builtin.List.listSubscript? (.int (-1) u)>>=_) _ _ s
 refine wpAny_bind (wpAny_listSubscript_int (by decide) ?_)
 show wpAny _ _ ((Builtin.List.listItems (.ref R)>>= λxs=>pure ((seqIndex? (Int.negSucc 0) xs.size).bind λi=>xs[i]?.map (i,·)))>>=_) _ _ s
 have hidx:seqIndex? (Int.negSucc 0) (vs0++ [v]).toArray.size=some vs0.length:=by
  have hz:(vs0++ [v]).toArray.size=vs0.length+1:=by simp
  rw [hz,show (Int.negSucc 0)= -1 from rfl,seqIndex_neg (by decide) (by exact zn1 398790956416293 rfl)]
  congr 1
  exact Ac (zn2 417513637442638230618400 rfl (iTo (zn1 12407691652245797 rfl))) (zn2 416333045821955111944480 rfl (iTo (zn1 12407691652245797 rfl)))
 have hx:(vs0++ [v]).toArray[vs0.length]?=some v:=by simp
 refine wpAny_bind (wpAny_bind ?_)
 show wpAny _ _ (seqItems? (.ref R)>>=_) _ _ s
 refine wpAny_bind (wpAny_seqItems ho rfl (wpAny_pure (wpAny_pure ?_)))
 rw [hidx]
 simp only [Option.bind_some,hx,Option.map_some]
 refine wpAny_bind (wpAny_setSeqItemAt ho rfl ?_)
 obtain ⟨c',hS⟩:∃c',(s.heap.update R (Obj.mapSeq (·.setIfInBounds vs0.length x))).get? R=some (listOf (vs0++ [x]).toArray c'):=by
  have z:=PySem.IsL.update ho (·.setIfInBounds vs0.length x)
  have e:(vs0++ [v]).toArray.setIfInBounds vs0.length x=(vs0++ [x]).toArray:=by simp
  rw [e] at z
  exact ⟨_,z⟩
 obtain ⟨f1,n1⟩:=Cw (h':=s.heap.update R (Obj.mapSeq (·.setIfInBounds vs0.length x))) F N U (λb y hb e=>(Heap.get?_update_other _ _ (Ne.symm hb)).trans e) hS
 exact wpAny_pure ⟨.none,rfl,wpAny_pure (h _ _ f1 n1)⟩
theorem M4(F:Fr h₀ L s.heap m)(N:News h₀ L s.heap news)(U:UpdF R (listOf vs.toArray c) news g)(hsz:vs.length<=1000)
  (h:∀h' c',Fr h₀ L h' m->News h₀ L h' (g (listOf (vs++ [x]).toArray c'))->Q .none {s with heap:=h'}):wpAny (model prog w) A (call (.builtin "list.append") [.ref R,x]) Q E s:=by
 refine append_K F N (Mh U _) (λh' F' N'=> ?_) (by rw [List.size_toArray,sizeLine_eq];omega)
 rw [List.push_toArray] at N'
 exact h h' _ F' N'
end
end
section
structure XR{C n w}(S:Si C n w)(d:Drawn)(m:Loc)(l:Led)(e:PySem.Expr)(κ:Value->Drawn->Led->Prop):Prop where
 run:∀h k (Q:Value->Shared->Prop),At S h m l->(∀v d' l' h' k',κ v d' l'->At S h' m l'->Q v ⟨h',S.g,d',k',S.o⟩)->wpR (mdl w) S.A (eval e S.env) Q S.E ⟨h,S.g,d,k,S.o⟩
structure CXR{C n w}(S:Si C n w)(d:Drawn)(m:Loc)(l:Led)(f:Value)(vs:List Value)(κ:Value->Drawn->Led->Prop):Prop where
 run:∀h k (Q:Value->Shared->Prop),At S h m l->(∀v d' l' h' k',κ v d' l'->At S h' m l'->Q v ⟨h',S.g,d',k',S.o⟩)->wpR (mdl w) S.A (PySem.call f vs) Q S.E ⟨h,S.g,d,k,S.o⟩
noncomputable def KontR{C n w}(S:Si C n w)(K:Flow->Shared->Prop):List (List Stmt)->Flow->Shared->Prop
 | []=>K
 | r::rs=>Behind (mdl w) S.A r S.env (KontR S K rs) S.E
structure WR{C n w}(S:Si C n w)(K:Flow->Shared->Prop)(d:Drawn)(m:Loc)(l:Led)(b:List Stmt)(rs:List (List Stmt)):Prop where
 run:∀h k,At S h m l->wpR (mdl w) S.A (execs b S.env) (KontR S K rs) S.E ⟨h,S.g,d,k,S.o⟩
section
variable {C:Cd}{n:Nat}{w:World}{x y:Str}{px py pos p2 p3:Pos}{e e0 e1 e2:PySem.Expr}{es:List PySem.Expr}{body orelse rest:List Stmt}{rs:List (List Stmt)}{S:Si C n w}{K:Flow->Shared->Prop}{d:Drawn}{m:Loc}{l r:Led}{a b i:Int}{t:Tok}{v u f:Value}{vs its:List Value}{P:Value->Prop}{p q:Prop}{κ:Value->Drawn->Led->Prop}{cN kd:Nat}{X0 dx D T fa Cl:Addr}{ns gs:List Int}{des:List DictEntry}{name:Str}{ps:List (Int×Int)}{tl:Led}
theorem KontR.out{f:Flow}{s:Shared}(h:f≠ .next)(hk:K f s):KontR S K rs f s:=by
 induction rs with
 | nil=>exact hk
 | cons r rs ih=>cases f<;>first | exact ih | exact absurd rfl h
theorem WR.assignR(he:XR S d m l e λv d' l'=>WR S K d' (mN x v m) l' rest rs)(hk:locOk C x=true:=by exact Eq.refl true)(hs:Af e=true:=by exact Eq.refl true):WR S K d m l (.Assign [.Name x pos] e p2::rest) rs:=
 ⟨λh9 k A=>Az (Fy (he.run h9 k _ A λv d' l' h' k' z A'=>Si.store A' hk z.run) (Cg hs))⟩
theorem XR.any(h:X S d m l e κ):XR S d m l e κ:=⟨λh9 k Q A hq=>Av (h.run h9 k Q A hq)⟩
theorem WR.assignX(he:X S d m l e λv d' l'=>WR S K d' (mN x v m) l' rest rs)(hk:locOk C x=true:=by exact Eq.refl true)(hs:Af e=true:=by exact Eq.refl true):WR S K d m l (.Assign [.Name x pos] e p2::rest) rs:=WR.assignR (XR.any he) hk hs
theorem WR.assignI(he:Ev S m l e (isI a))(h:∀t,WR S K d (mN x (.int a t) m) l rest rs)(hk:locOk C x=true:=by exact Eq.refl true)(hs:Af e=true:=by exact Eq.refl true):WR S K d m l (.Assign [.Name x pos] e p2::rest) rs:=WR.assignX (X.evI he h) hk hs
theorem WR.exprR(he:XR S d m l e λv d' l'=>v= .none/\WR S K d' m l' rest rs)(hs:Af e=true:=by exact Eq.refl true)(hc:C.cs.kind= .function:=by rfl):WR S K d m l (.Expr e pos::rest) rs:=
 ⟨λh k A=>Az (Fz (he.run h k _ A λv d' l' h' k' ⟨e,z⟩ A'=>by subst e;exact Hb (z.run h' k' A')) (by unfold interactive;rw [S.scope,hc];rfl) (Cg hs))⟩
theorem WR.ite(hb:Bv S m l e p)(h1:p->WR S K d m l body (rest::rs))(h2:¬p->WR S K d m l orelse (rest::rs)):WR S K d m l (.If e body orelse pos::rest) rs:=
 ⟨λh k A=>Az (rIf (Av (hb.run h d k _ A λb h' k' hi A'=>by
  cases b with
  | true=>exact (h1 (hi.mp rfl)).run h' k' A'
  | false=>exact (h2 λhp=>nbF (hi.mpr hp)).run h' k' A')))⟩
theorem WR.nil{b:List Stmt}(h:WR S K d m l b rs):WR S K d m l [] (b::rs):=⟨λh9 k A=>Cy (h.run h9 k A)⟩
theorem WR.retX(he:X S d m l e λv d' l'=>Rt S K d' l' v):WR S K d m l (.Return (some e) pos::rest) rs:=
 ⟨λh9 k A=>Az (Lb (Av (he.run h9 k _ A λv d' l' h' k' z A'=>KontR.out (S:=S) (K:=K) (rs:=rest::rs) (λh=>nomatch h) (z.run h' k' m A'))))⟩
theorem WR.via{st:Stmt}(Z:(Loc->Drawn->Led->Prop)->Prop)(hJ:Z λm d l=>WR S K d m l rest rs)(h:Z (λm d l=>WR S K d m l rest rs)->WR S K d m l (st::rest) rs):WR S K d m l (st::rest) rs:=h hJ
theorem WR.drop{b:List Stmt}{l':Led}(hs:∀p∈l',p∈l)(hd:Aw l->Aw l')(h:WR S K d m l' b rs):WR S K d m l b rs:=
 ⟨λh9 k A=>h.run h9 k ⟨A.F,λp hp=>A.N p ((lA hp).elim (λh=>lL _ (hs p h)) λh=>lR _ h),hd A.D,λp hp q hq=>A.O p hp q (hs q hq)⟩⟩
theorem XR.meth1(hM:Mth Cl name fa)(he:Ev S m l (.Name x px) (· = .ref X0))(hX:(X0,instObj Cl dx)∈l)(hd:(dx,dictOf des cN)∈l)(hg:getL name des=some none)(ha:X S d m l e1 λv1 d1 l1=>CXR S d1 m l1 (.ref fa) [.ref X0,v1] κ)(ok:Au e1=true:=by exact Eq.refl true)(hp:(p2.endLine==pos.line)=true:=by exact Eq.refl true):XR S d m l (.Call (.Attribute (.Name x px) name p2) [e1] [] pos) κ:=
 ⟨λh k Q A hq=>H3 (he.run h d k _ A λo h1 k1 ho A1=>by
  subst ho
  exact method_inst A1.F S.gd (InstAt.of_news A1.N1 hX hd) (hM.pg w) (hM.fi w) (hM.fn w) hg (Dx A1.gd (hM.keep w) (args_cons (ha.run h1 k1 _ A1 λv1 d1 l1 h2 k2 z A2=>args_nil ⟨A2.gd,z.run h2 k2 Q A2 hq⟩) (Ad ok)) (Ad ok) rfl)) (Dv rfl ok hp)⟩
theorem XR.f0(hb:Fn x f)(h:CXR S d m l f [] κ)(ok:glbOk C x=true:=by exact Eq.refl true):XR S d m l (.Call (.Name x p2) [] [] pos) κ:=
 ⟨λh9 k Q A hq=>C9 ((Ev.gl hb ok).run h9 d k _ A λv h1 k1 hv A1=>by
  subst hv
  exact Ld A1.gd (hb.keep _) (h.run h1 k1 Q A1 hq))⟩
theorem He:PassesOwn M A env (λV V=>False):=λV V h=>h.elim
noncomputable def Si.noE(S:Si C n w)(o:Led):Si C n w:= {S with own:=S.own++o,E:=λV V=>False,hE:=λV=>He}
end
section
variable {cn:Str}{cs:Scope}{fa:Addr}{cc:Value}{n:Nat}{w:World}{x:Str}{px pos:Pos}{e:PySem.Expr}{body rest:List Stmt}{rs:List (List Stmt)}{S:Si (P4 cn cs fa cc) n w}{K:Flow->Shared->Prop}{d:Drawn}{m:Loc}{l:Led}{vs:List Value}{cN:Nat}{D:Addr}{ns:List Int}
structure LK(S:Si (P4 cn cs fa cc) n w)(I:Addr)(St:Nat->Heap->Prop)(J:Nat->Fam)(i:Nat)(s:Shared):Prop where
 ex:∃h k d m l oI,s=⟨h,S.g,d,k,S.o⟩/\St i h/\At (S.noE [(I,oI)]) h m l/\∀G,J i G->G m l
theorem At.noE(A:At S h m l)(e:h.get? p.1=some p.2)(hL:S.L≠p.1)(h0:S.h₀.get? p.1=none)(off:∀q∈l,q.1≠p.1):At (S.noE [p]) h m l:=
 ⟨A.F,λq hq=>(lA hq).elim (λhq=>A.N q (lL _ hq)) λhq=>(lA hq).elim (λhq=>A.N q (lR _ hq)) λhq=>by rw [List.mem_singleton.mp hq];exact ⟨e,hL.symm,h0⟩,A.D,λq hq r hr=>(lA hq).elim (λhq=>A.O q hq r hr) λhq=>by rw [List.mem_singleton.mp hq];exact (off r hr).symm⟩
theorem At.out(A:At (S.noE o9) h m l):At S h m l:=
 ⟨A.F,λp hp=>A.N p ((lA hp).elim (lL _) λh=>lR _ (lL _ h)),A.D,λp hp=>A.O p (lL _ hp)⟩
theorem At.own9(A:At (S.noE [p]) h m l):h.get? p.1=some p.2/\S.L≠p.1/\S.h₀.get? p.1=none/\∀q∈l,q.1≠p.1:=
 have hm:p∈S.own++ [p]:=lR _ (.head _)
 have z:=A.N p (lR _ hm)
 ⟨z.1,z.2.1.symm,z.2.2,λq hq=>(A.O p hm q hq).symm⟩
theorem At.but1(A:At (S.noE [(I,o)]) h m l)(hO:∀p∈S.own,p.1≠I)(hk:∀b o,b∉ [I]->h.get? b=some o->h'.get? b=some o)(e:h'.get? I=some o'):At (S.noE [(I,o')]) h' m l:=by
 obtain ⟨_,hL,h0,off⟩:=A.own9
 refine At.noE ⟨PyProof.Rows.LCg.fr_but A.F hk hL h0,λp hp=> ?_,A.D,A.out.O⟩ e hL h0 off
 have hp1:p.1≠I:=(lA hp).elim (off p) (hO p)
 exact ⟨hk _ _ (λhm=>hp1 (lS hm)) (A.out.N p hp).1,(A.out.N p hp).2⟩
theorem LpR{target:PySem.Expr}{oD:Obj}{I:Addr}{St:Nat->Heap->Prop}{h:Heap}{k cnt:Nat}{Itm:Nat->Value->Prop}(J:Nat->Fam)(hJ:∀i G,(∀m l,(∀G',J i G'->G' m l)->G m l)->J i G)(hk:∀i,J i λV l'=>(D,oD)∈l')(h0:∀G,J 0 G->G m l)
  (A:At S h m l){fp:List Addr}(Wk:Walks PySem.Challenge.rw_nu0172_01.row.prog w S.A I fp [I] cnt Itm St)(hIo:∀i h,St i h->∃o,h.get? I=some o)
  (keep:∀i h h' o nw,St i h->h.get? I=some o->h'.get? I=some o->(∀b o,S.h₀.get? b=some o->h'.get? b=some o)->News S.h₀ S.L h' nw->(D,oD)∈nw->St i h')
  (hIl:∀p∈l++S.own,p.1≠I)(hI0:S.h₀.get? I=none)(hIL:S.L≠I)(hst:St 0 h)
  (turn:∀(o9:Led) (K':Flow->Shared->Prop) (i:Nat) (v:Value),i<cnt->Itm i v->(∀l v d,Rt S K d l v->Rt (S.noE o9) K' d l v)->J (i+1) (λm l=>∀d,WR (S.noE o9) K' d m l [] [])->
   J i λm l=>∀h d k oI,h.get? I=some oI->St (i+1) h->At (S.noE o9) h m l->wpAny (mdl w) S.A (letOwnedTupleGo target (.ref I) v>>= λV=>assign target S.env v) (λV s2=>wpR (mdl w) S.A (execs body S.env) (KontR (S.noE o9) K' []) (λV V=>False) s2) (λV V=>False) ⟨h,S.g,d,k,S.o⟩)
  (done:J cnt λm l=>∀d,WR S K d m l rest rs):Dg PySem.Challenge.rw_nu0172_01.row.prog w S.A S.env target body (KontR S K (rest::rs)) (.ref I) ⟨h,S.g,d,k,S.o⟩:=by
 have hO:∀p∈S.own,p.1≠I:=λp hp=>hIl p (lR _ hp)
 refine ⟨I,fp,cnt,Itm,St,LK S I St J,rfl,Wk,λi s z=> ?_,?_,λi v s h' tk hi z hv hst' hkeep=> ?_,λs h' tk z hkeep=> ?_⟩
 ·obtain ⟨h,k,d,m,l,oI,e,hs,_⟩:=z.ex
  rw [e];exact hs
 ·obtain ⟨oI,e⟩:=hIo 0 h hst
  exact ⟨h,k,d,m,l,oI,rfl,hst,A.noE e hIL hI0 λq hq=>hIl q (lL _ hq),h0⟩
 ·obtain ⟨h,k,d,m,l,oI,e,_,A1,hG⟩:=z.ex
  subst e
  obtain ⟨o',e'⟩:=hIo _ _ hst'
  refine hG _ (turn [(I,o')] (Dk (LK S I St J) (KontR S K (rest::rs)) i) i v hi hv (λl v d r=>⟨λh3 k3 m3 A3=>KontR.out (S:=S) (K:=K) (rs:=rest::rs) (λh=>nomatch h) (r.run h3 k3 m3 A3.out)⟩) (hJ _ _ λm2 l2 hG2 d2=>⟨λh3 k3 A3=>Cy ?_⟩)) h' d tk o' e' hst' (A1.but1 hO hkeep e')
  exact (⟨h3,k3,d2,m2,l2,o',rfl,keep _ _ _ _ _ hst' e' A3.own9.1 A3.F.keep A3.N (lL _ (hG2 _ (hk _))),A3,hG2⟩:LK S I St J (i+1) ⟨h3,S.g,d2,k3,S.o⟩)
 ·obtain ⟨h,k,d,m,l,oI,e,_,A1,hG⟩:=z.ex
  subst e
  obtain ⟨_,hL,h9,off⟩:=A1.own9
  exact (hG _ done d).run h' tk ⟨PyProof.Rows.LCg.fr_but A1.F hkeep hL h9,λp hp=>⟨hkeep _ _ (λhm=>((lA hp).elim (off p) (hO p)) (lS hm)) (A1.out.N p hp).1,(A1.out.N p hp).2⟩,A1.D,A1.out.O⟩
theorem WR.forTup(J:Nat->Fam)(hJ:∀i G,(∀m l,(∀G',J i G'->G' m l)->G m l)->J i G)(he:Ev S m l e (· = .ref D))(hI:IntsAre vs ns)(hk:∀i,J i λV l'=>(D,Ap vs)∈l')(h0:∀G,J 0 G->G m l)
  (turn:∀(o9:Led) (K':Flow->Shared->Prop) (i:Nat) (a:Int) (t:Tok),ns[i]?=some a->(∀l v d,Rt S K d l v->Rt (S.noE o9) K' d l v)->J (i+1) (λm l=>∀d,WR (S.noE o9) K' d m l [] [])->J i λm l=>∀d,WR (S.noE o9) K' d (mN x (.int a t) m) l body [])
  (done:J ns.length λm l=>∀d,WR S K d m l rest rs)(hx:locOk (P4 cn cs fa cc) x=true:=by exact Eq.refl true)(ok:Af e=true:=by exact Eq.refl true):WR S K d m l (.For (.Name x px) e body [] pos::rest) rs:=
 ⟨λh9 k9 A9=>Az (F0 (he.run h9 d k9 _ A9 λv h k hv A=>by
  subst hv
  have hol:=(A.N1 _ (h0 _ (hk 0))).1
  have hls:h.IsTuple D vs.toArray:=⟨_,hol,rfl,0,rfl⟩
  have hne:D≠h.objs.size:=Nat.ne_of_lt (Heap.lt_size hol)
  refine wpAny_pyIter_tuple hls ?_
  have hlen:vs.toArray.size=ns.length:=by rw [List.size_toArray,IntsAre.length hI]
  rw [<-hlen] at done
  exact LpR J hJ hk h0 (A.push _) (Walks.tuple S.hh h.objs.size D hne vs.toArray) (λi h' st=>⟨_,st.1.choose_spec.1⟩) V3 (λp hp e=>A.off p hp (e▸ .head _)) (next_is_new A.F) (λe=>A.frOff (e▸ .head _)) ⟨⟨_,Heap.get?_push_size _ rfl,rfl,rfl⟩,hls.at λo e=>hPu _ e⟩ (λo9 K' i v hi hv hr hn=>by
   obtain ⟨a,t,rfl,ha⟩:=IntsAre.at hI i v (by simpa using hv)
   have:=turn o9 K' i a t ha hr hn
   exact hJ _ _ λm1 l1 hG h1 d1 k1 oI V V A1=>wpAny_bind (wpAny_of_eq (by rfl) (PyProof.Rows.assign_Name (Si.store (S:=S.noE o9) A1 hx λh2 k2 A2=>(hG _ this _).run h2 k2 A2)))) done) λV=>fold_plain ok)⟩
end
end
example:Fl:=by walk_at "zF"
section
example:True:=by
 k_with_none
 k_with "mem"=>repeat (first | exact List.Mem.head _ | apply List.Mem.tail)
 k_with "ev"=>first
  | exact Ev.nameI rfl
  | exact Ev.nameV rfl
  | exact Ev.nameI (by assumption)
  | exact Ev.nameV (by assumption)
  | exact Ev.int
  | (refine' Ev.itemN ?q1 Ev.int ?im ?iv ?ip;(case q1=>walk_at "ev");(case im=>walk_at "mem");(case iv=>exact rfl);(case ip=>first | exact ⟨_,rfl⟩ | exact rfl))
  | (refine' Ev.add ?q1 ?q2;(case q1=>walk_at "ev");(case q2=>walk_at "ev"))
  | (refine' Ev.sub ?q1 ?q2;(case q1=>walk_at "ev");(case q2=>walk_at "ev"))
  | (refine' Ev.min ?q1 ?q2;(case q1=>walk_at "ev");(case q2=>walk_at "ev"))
 trivial
section
variable {C:Cd}{n:Nat}{w:World}{S:Si C n w}{d:Drawn}{m:Loc}{l:Led}{X dx T:Addr}{tk0 tg:Tok}{vs:List Value}{gs:List Int}{g:Int}{κ:Value->Drawn->Led->Prop}
structure CovIn(w:World)(l:Led)(X dx T:Addr)(tk:Tok)(vs:List Value):Prop where
 a:(X,instObj 301 dx)∈l
 b:(dx,Ed w tk T)∈l
 c:(T,Ap vs)∈l
theorem CovIn.all(h:CovIn w l X dx T tk0 vs):∀p∈Al w X dx T tk0 vs,p∈l:=λp hp=>(lC hp).elim (λe=>e▸h.a) λhp=>(lC hp).elim (λe=>e▸h.b) λhp=>lS hp▸h.c
theorem CovIn.of(h:∀p∈Al w X dx T tk0 vs,p∈l):CovIn w l X dx T tk0 vs:=⟨h _ (.head _),h _ (.tail _ (.head _)),h _ (.tail _ (.tail _ (.head _)))⟩
theorem CovIn.tail(h:CovIn w l X dx T tk0 vs):CovIn w (p::l) X dx T tk0 vs:=⟨.tail _ h.a,.tail _ h.b,.tail _ h.c⟩
theorem CX.tupSame(hc:(T,Ap vs)∈l)(h:κ (.ref T) d l):CX S d m l (.type "tuple") [.ref T] κ:=⟨λh9 k Q A hq=>call_tuple_same ⟨_,(A.N1 _ hc).1,rfl,_,rfl⟩ (hq _ _ _ _ _ h A)⟩
theorem CX.index(hc:CovIn w l X dx T tk0 vs)(hi:IntsAre vs gs)(hs:gs.Pairwise (· < ·))(hl:gs.length<=120)(h:∀r t l',(∀p∈l,p∈l')->IndexIs gs g r->κ (.int r t) d l')(hk:decide (6<=n)=true:=by exact Eq.refl true):CX S d m l (.ref 284) [.ref X,.int g tg] κ:=
 CX.tel0 (Vm hi hs hl) hc.all (λv mu' new l' hP hs V=>by obtain ⟨r,t,e,_,_,hr⟩:=hP;subst e;exact h r t l' hs hr) hk
end
theorem Ma{w:World}{X dx T:Addr}{tk0 tg:Tok}{vs:List Value}{gs:List Int}{g:Int}(hi:IntsAre vs gs)(hs:gs.Pairwise (· < ·))(hl:gs.length<=120):
  Tel w 291 8 ⟨[.ref X,.int g tg],[]⟩ [] (Al w X dx T tk0 vs)
   (λv mu' new=>∃r,v= .bool (decide (r ≥ 0))/\mu'= []/\new= []/\IndexIs gs g r):=by
 refine' Cn (j:=7) [(Str.ofString "self",.ref X),(Str.ofString "glyph",.int g tg)] ?k6 ?k7 ?k9 ?kB ?kn ?_ ?c2 ?c3 ?c4 ?c5
 case k6=>k_is
 case k7=>k_is
 case k9=>exact λV V=>BindsTo.of_eq rfl
 case kB=>exact locs rfl
 case kn=>exact Eq.refl true
 case c2=>exact rfl
 case c3=>exact rfl
 case c4=>exact rfl
 case c5=>decide
 intro S K d m l₁ v1 v2 hro hK hN
 have hc:=CovIn.of hro
 exact W.retX (Mine.X.geC (Mine.X.meth1 mth_index (Ev.nameV v1) hc.a hc.b rfl (Mine.X.evV (Ev.nameV v2) (CX.index hc hi hs hl λr t l' hs' hr=>⟨r,⟨t,rfl⟩,hK _ [] _ ⟨r,rfl,rfl,rfl,hr⟩ (λV h=>no h) hs'⟩))))
theorem Mb{w:World}{X dx T:Addr}{tk0:Tok}{vs:List Value}:
  Tel w 298 4 ⟨[.ref X],[]⟩ [] (Al w X dx T tk0 vs)
   (λv mu' new=>v= .ref T/\mu'= []/\new= []):=by
 refine' Cn (j:=3) [(Str.ofString "self",.ref X)] ?k6 ?k7 ?k9 ?kB ?kn ?_ ?c2 ?c3 ?c4 ?c5
 case k6=>k_is
 case k7=>k_is
 case k9=>exact λV V=>BindsTo.of_eq rfl
 case kB=>exact locs rfl
 case kn=>exact Eq.refl true
 case c2=>exact rfl
 case c3=>exact rfl
 case c4=>exact rfl
 case c5=>decide
 intro S K d m l₁ v1 hro hK hN
 have hc:=CovIn.of hro
 exact W.retX (Mine.X.t1 By (Mine.X.evV (Ev.attr Bl (Ev.nameV v1) hc.a hc.b rfl rfl) (CX.tupSame hc.c (hK _ [] _ ⟨rfl,rfl,rfl⟩ (λV h=>no h) λV h=>h))))
end
example:Fl:=by walk_at "zF"
example:Fl:=by walk_at "zF"
section
example:True:=by
 k_with "eval Constant int"=>(refine Dq ?_)
 trivial
example:True:=by
 k_with "binaryOp Add int int"=>(refine Dl ?_)
 trivial
example:True:=by
 k_with "storeName"=>(k_here;k_dflt (refine' D4 ?F ?N ?_ ?a ?b;(case F=>k_asm);(case N=>k_asm);(case a=>rfl);(case b=>rfl));intro h' k' F' N')
 trivial
theorem Nq(N:News h₀ L s.heap news)(hp:Pick news (D,Ai b) rest)(hz:b.size<=100000)
  (h:∀t k,Q (.bytes b t) {s with toks:=k}):wpAny (model prog w) A (call (.type "bytes") [.ref D]) Q E s:=
 Ny (N _ (hp.sub _ (.head _))).1 (by rw [sizeLine_eq];omega) h
section
example:True:=by
 k_with "call type:bytes"=>(refine' Nq ?y1 ?y2 ?y3 ?_;(case y1=>k_asm);(case y2=>repeat (first | exact Pick.here | apply Pick.there));(case y3=>assumption);intro t9 tk9)
 trivial
theorem Vs{w:World}{X dx D:Addr}{tk0:Tok}{b:Array UInt8}(hb:b.size<=100000):
  Tel w 256 6 ⟨[.ref X],[]⟩ [] [(dx,Bk w tk0 D),(D,Ai b),(X,instObj 259 dx)]
   (λv mu' new=>∃t,v= .bytes b t/\mu'= []/\new= []):=by
 refine' D8 ?k6 ?k7 ?k9 ?kB ?_ ?c2 ?c3 ?c4 ?c5
 case k6=>k_is
 case k7=>k_is
 case k9=>exact λV V=>BindsTo.of_eq rfl
 case kB=>exact locs rfl
 case c2=>exact rfl
 case c3=>exact rfl
 case c4=>exact rfl
 case c5=>decide
 intro dp un gd env outer base gh L' h₁ p loose mean mg mb s tk R hd hu B XX TT F N
 (try dsimp only)
 (try k_fold)
 simp only [List.cons_append,List.nil_append] at N
 k_steps
 refine' Dt (mu':= []) (new:= []) ?e1 ?e2 ?e3 ?e4 ⟨_,rfl,rfl,rfl⟩
 (case e1=>k_asm)
 (case e2=>k_asm)
 (case e3=>(simp only [List.nil_append,List.cons_append];k_allIn))
 (case e4=>exact λV h9=>no h9)
end
example:True:=by
 k_with_none
 trivial
end
example:Fl:=by walk_at "zF"
section
noncomputable def Ag(ns:List Int):Array UInt8:=ns.foldl (λb n=>b++Bf n) #[]
theorem Sb(ns:List Int)(b:Array UInt8):ns.foldl (λb n=>b++Bf n) b=b++Ag ns:=by
 unfold Ag
 induction ns generalizing b with
 | nil=>simp
 | cons n ns ih=>rw [List.foldl_cons,List.foldl_cons,ih,ih (#[]++Bf n)];simp
theorem Hx(a b:List Int):Ag (a++b)=Ag a++Ag b:=by
 conv=>lhs;unfold Ag
 rw [List.foldl_append,Sb];rfl
theorem Hy(n:Int):Ag [n]=Bf n:=by unfold Ag;simp
theorem K2(a:List Int)(n:Int):Ag (a++ [n])=Ag a++Bf n:=by rw [Hx,Hy]
theorem Cf(ns:List Int):(Ag ns).size=2*ns.length:=by
 induction ns with
 | nil=>rfl
 | cons n ns ih=>
  have e:Ag (n::ns)=Bf n++Ag ns:=by rw [<-Hy,<-Hx];rfl
  have:(Bf n).size=2:=byteArr_size _
  rw [e,Array.size_append,ih,this,List.length_cons];exact Ac (zn1 387741083128096 rfl) (zn1 26822440542496 rfl)
noncomputable def A0:Int->List (Int×Int)->List Int
 | _,[]=> []
 | i,p::ps=>p.1::p.2::i::A0 (i+p.2- p.1+1) ps
noncomputable def Ak:List (Int×Int)->Int
 | []=>0
 | p::ps=>(p.2- p.1+1)+Ak ps
theorem Ey(a b:List (Int×Int)):Ak (a++b)=Ak a+Ak b:=by
 induction a with
 | nil=>show Ak b=0+Ak b;exact Int.le_antisymm (zi1 11141413 rfl) (zi1 348453 rfl)
 | cons p a ih=>show (p.2- p.1+1)+Ak (a++b)=(p.2- p.1+1)+Ak a+Ak b;rw [ih];exact Int.le_antisymm (zi4 121744901398959126240484282661 rfl) (zi4 122105173172907458963958288677 rfl)
theorem Tl(i:Int)(a b:List (Int×Int)):A0 i (a++b)=A0 i a++A0 (i+Ak a) b:=by
 induction a generalizing i with
 | nil=>show A0 i b=A0 (i+0) b;rw [Int.add_zero]
 | cons p a ih=>
  show p.1::p.2::i::A0 (i+p.2- p.1+1) (a++b)=p.1::p.2::i::(A0 (i+p.2- p.1+1) a++A0 (i+ ((p.2- p.1+1)+Ak a)) b)
  rw [ih]
  congr 5
  exact Int.le_antisymm (zi4 132539019868738145566998548773 rfl) (zi4 132538188829082566920035651877 rfl)
theorem Dz(i:Int)(a:List (Int×Int)):(A0 i a).length=3*a.length:=by
 induction a generalizing i with
 | nil=>rfl
 | cons p a ih=>simp only [A0,List.length_cons,ih];exact Ac (zn1 406577492561198993696 rfl) (zn1 418907725248068216096 rfl)
noncomputable def A7(gs:List Int):List Int:=1::(gs.length:Int)::gs
noncomputable def Ba(gs:List Int):List Int:=2::((Ae gs).length:Int)::A0 0 (Ae gs)
theorem Ga(gs:List Int)(h:∀x∈gs,0<=x/\x<=65535):(∀p∈Ae gs,0<=p.1/\p.1<=p.2/\p.2<=65535)/\Ak (Ae gs)=gs.length:=by
 have key:∀(gs:List Int) (ps:List (Int×Int)),(∀x∈gs,0<=x/\x<=65535)->(∀p∈ps,0<=p.1/\p.1<=p.2/\p.2<=65535)->(∀p∈gs.foldl Bh ps,0<=p.1/\p.1<=p.2/\p.2<=65535)/\Ak (gs.foldl Bh ps)=Ak ps+gs.length:=by
  intro gs
  induction gs with
  | nil=>intro ps _ h;exact ⟨h,by show Ak ps=Ak ps+0;exact Int.le_antisymm (zi1 336199973 rfl) (zi1 10506533 rfl)⟩
  | cons g gs ih=>
   intro ps hg hp
   rw [List.foldl_cons]
   have hg0:=hg g (.head _)
   have step:(∀p∈Bh ps g,0<=p.1/\p.1<=p.2/\p.2<=65535)/\Ak (Bh ps g)=Ak ps+1:=by
    rcases List.eq_nil_or_concat ps with he | ⟨ps0,⟨a,b⟩,he⟩
    ·rw [Lm he,he]
     refine ⟨λp hp=> ?_,by show (g- g+1)+0=0+1;exact Int.le_antisymm (zi1 408290826815951141 rfl) (zi1 372673647236960549 rfl)⟩
     rw [List.nil_append,List.mem_singleton] at hp
     rw [hp];exact ⟨hg0.1,Int.le_refl _,hg0.2⟩
    ·rw [List.concat_eq_append] at he
     have hab:=hp (a,b) (by rw [he];exact lR _ (.head _))
     by_cases e:b+1=g
     ·rw [H6 he e]
      refine ⟨λp hp'=> ?_,?_⟩
      ·rcases lA hp' with h1 | h1
       ·exact hp p (by rw [he];exact lL _ h1)
       ·rw [List.mem_singleton.mp h1]
        have h2:=hab.2.1
        have h2':a<=b:=h2
        exact ⟨hab.1,(by show a<=g;exact zi3 49670524715226136869 rfl hab.2.1 e),hg0.2⟩
      ·rw [he,Ey,Ey]
       exact Int.le_antisymm (zi4 58683057872383937832239864546591965729061 rfl e) (zi4 145710356249511961608051949341142915109157 rfl e)
     ·rw [H7 he e]
      refine ⟨λp hp'=> ?_,?_⟩
      ·rcases lA hp' with h1 | h1
       ·exact hp p h1
       ·rw [List.mem_singleton.mp h1];exact ⟨hg0.1,Int.le_refl _,hg0.2⟩
      ·rw [Ey]
       show Ak ps+ ((g- g+1)+0)=Ak ps+1
       exact Int.le_antisymm (zi2 406560592747336585509 rfl) (zi2 381654969456088076581 rfl)
   obtain ⟨r1,r2⟩:=ih (Bh ps g) (λx hx=>hg x (.tail _ hx)) step.1
   refine ⟨r1,?_⟩
   rw [r2,step.2,List.length_cons]
   exact Int.le_antisymm (lin [_] [_] 406574863275145187621 rfl) (lin [_] [_] 26914237429492764965 rfl)
 have:=key gs [] h (λp hp=>no hp)
 refine ⟨this.1,?_⟩
 have h2:=this.2
 show Ak (gs.foldl Bh [])=gs.length
 rw [h2];show (0:Int)+gs.length=gs.length
 exact Int.le_antisymm (zn1 24720527653 rfl) (zn1 25052601637 rfl)
theorem H8(h:∀p∈ps,0<=p.1/\p.1<=p.2/\p.2<=65535):0<=Ak ps:=by
 induction ps with
 | nil=>exact Int.le_refl _
 | cons p ps ih=>
  have h1:=ih λq hq=>h q (.tail _ hq)
  have h2:=h p (.head _)
  show 0<= (p.2- p.1+1)+Ak ps
  exact zi3 1554924810647342789830949 rfl h1 h2.2.1
theorem Lv(ps:List (Int×Int))(h:∀p∈ps,0<=p.1/\p.1<=p.2/\p.2<=65535)(i:Nat):0<=Ak (ps.take i)/\Ak (ps.take i)<=Ak ps:=by
 have e:=Ey (ps.take i) (ps.drop i)
 rw [List.take_append_drop] at e
 have h1:=H8 (ps:=ps.take i) λp hp=>h p (List.mem_of_mem_take hp)
 have h2:=H8 (ps:=ps.drop i) λp hp=>h p (List.mem_of_mem_drop hp)
 exact ⟨zi1 11044661541 rfl h1,zi3 85646151070866506021 rfl e h2⟩
end
example:Fl:=by walk_at "zF"
section
example:True:=by
 k_with "eval Constant int"=>(refine Dq ?_)
 trivial
example:True:=by
 k_with "binaryOp Add int int"=>(refine Dl ?_)
 trivial
example:True:=by
 k_with "storeName"=>(k_here;k_dflt (refine' D4 ?F ?N ?_ ?a ?b;(case F=>k_asm);(case N=>k_asm);(case a=>rfl);(case b=>rfl));intro h' k' F' N')
 trivial
section
theorem Vw{a c:Int}(hk:KBw.bInts b=ks)(hz:ks.length<=100000)(h0:0<=a)(hc:0<=c)(h1:a+c<=ks.length):
  Tel w 70 2 ⟨[.bytes b tb,.int a t1,.int c t2],[]⟩ [] [] (λv mu' new=>v= .none/\mu'= []/\new= []):=by
 refine' D8 ?k6 ?k7 ?k9 ?kB ?_ ?c2 ?c3 ?c4 ?c5
 case k6=>k_is
 case k7=>k_is
 case k9=>exact λV V=>BindsTo.of_eq rfl
 case kB=>exact locs rfl
 case c2=>exact rfl
 case c3=>exact rfl
 case c4=>exact rfl
 case c5=>decide
 intro dp un gd env outer base gh L' h₁ p loose mean mg mb s tk R hd hu B XX TT F N
 (try dsimp only)
 (try k_fold)
 (try simp only [List.cons_append,List.nil_append] at N)
 k_steps
 refine' Dt (mu':= []) (new:= []) ?e1 ?e2 ?e3 ?e4 ⟨rfl,rfl,rfl⟩
 (case e1=>k_asm)
 (case e2=>k_asm)
 (case e3=>(simp only [List.nil_append,List.cons_append];k_allIn))
 (case e4=>exact λV h9=>no h9)
end
theorem Tk{a c:Int}(hk:KBw.bInts b=ks)(hz:ks.length<=100000)(h0:0<=a)(hc:0<=c)(h1:a+c<=ks.length)
  (H:Here w A 2 h₀ L)(F:Fr h₀ L s.heap m)(N:News h₀ L s.heap big)(h:∀h' tk',Fr h₀ L h' m->News h₀ L h' big->Q .none {s with heap:=h',toks:=tk'}):
  wpAny (model PySem.Challenge.rw_nu0172_01.row.prog w) A (call (.ref 70) [.bytes b tb,.int a t1,.int c t2]) Q E s:=by
 refine (Vw hk hz h0 hc h1).use0 H F N (λp hp=>no hp) λv mu' new h' tk' hP F' N' V V=> ?_
 obtain ⟨rfl,rfl,rfl⟩:=hP
 exact h h' tk' F' N'
theorem M3(h0:0<=q)(h1:0<=c)(h2:c<256):Builtin.bitAnd (q*256) c=0:=by
 obtain ⟨n,rfl⟩:=Int.eq_ofNat_of_zero_le h0
 obtain ⟨k,rfl⟩:=Int.eq_ofNat_of_zero_le h1
 have e:Builtin.bitAnd ((n:Int)*256) (k:Int)=(((n*256) &&& k:Nat):Int):=by
  have h3:(n:Int)*256=((n*256:Nat):Int):=by omega
  rw [h3]
  unfold Builtin.bitAnd
  have h4:decide ((0:Int)<= ((n*256:Nat):Int))=true:=decide_eq_true (by exact zn1 764197 rfl)
  have h5:decide ((0:Int)<= (k:Int))=true:=decide_eq_true (by exact zn1 764197 rfl)
  rw [h4,h5];rfl
 rw [e]
 have hk:k<2^8:=by omega
 have z:(n*256) &&& k=0:=by
  refine Nat.eq_of_testBit_eq λi=> ?_
  rw [Nat.testBit_and,Nat.zero_testBit,show n*256=n <<< 8 by rw [Nat.shiftLeft_eq],Nat.testBit_shiftLeft]
  by_cases hi:8<=i
  ·rw [Nat.testBit_lt_two_pow (Nat.lt_of_lt_of_le hk (Nat.pow_le_pow_right (by decide) hi)),Bool.and_false]
  ·simp [hi]
 rw [z];rfl
section
variable {prog:Program}{w:World}{A:Around}{E:Value->Shared->Prop}{s:Shared}{x q c:Int}{t u:Tok}{Q:Value->Shared->Prop}
theorem Ui(h0:0<=x)(h1:x<65536)(h:∀t tk,Q (.int (x*256) t) {s with toks:=tk}):wpAny (model prog w) A (binaryOp .LShift (.int x t) (.int 8 u)) Q E s:=
 lshift_int_small (by decide) (by decide) (by omega) (h _ _)
theorem Sg(h0:0<=q)(h1:0<=c)(h2:c<256)(h:∀t tk,Q (.int (q*256+c) t) {s with toks:=tk}):wpAny (model prog w) A (binaryOp .BitOr (.int (q*256) t) (.int c u)) Q E s:=by
 refine or_int ?_
 rw [bitOr_and,M3 h0 h1 h2,Int.sub_zero]
 exact h _ _
end
noncomputable def numAt(ks:List Int)(a:Nat):Int:=ks.getD a 0*256+ks.getD (a+1) 0
theorem V6{ks:List Int}{a:Int}(h0:0<=a)(h1:a+2<=ks.length):List.take (clipAt ks.length (a+2)- clipAt ks.length a) (List.drop (clipAt ks.length a) ks)= [ks.getD a.toNat 0,ks.getD (a.toNat+1) 0]/\True:=by
 have l2:a.toNat+2<=ks.length:=by have:=iTo h0;exact Int.ofNat_le.mp (by rw [Int.natCast_add,this];exact h1)
 have l1:a.toNat+1<ks.length:=l2
 have l0:a.toNat<ks.length:=Nat.lt_of_succ_lt l1
 have e1:clipAt ks.length a=a.toNat:=by
  unfold clipAt;rw [if_neg (by exact zi1 11044978985 rfl h0)];rw [Int.min_eq_left (Int.le_trans (Int.le_add_of_nonneg_right (by decide)) h1),Int.max_eq_right h0]
 have e2:clipAt ks.length (a+2)=a.toNat+2:=by
  unfold clipAt;rw [if_neg (by exact zi1 11310070780201 rfl h0),Int.min_eq_left h1,Int.max_eq_right (Int.add_nonneg h0 (by decide)),Int.toNat_add h0 (by decide)];rfl
 refine ⟨?_,trivial⟩
 rw [e1,e2,Nat.add_sub_cancel_left,List.drop_eq_getElem_cons l0,List.drop_eq_getElem_cons l1,List.getD_eq_getElem?_getD,List.getD_eq_getElem?_getD,List.getElem?_eq_getElem l0,List.getElem?_eq_getElem l1]
 rfl
section
example:True:=by
 k_with "call ref"=>((show wpAny _ _ (call (Value.ref 70) _ _) _ _ _);refine' Tk ?z1 ?z2 ?z3 ?z4 ?z5 ?zH ?zF ?zN ?_;(case zF=>k_asm);(case zN=>k_asm);(case z1=>assumption);(case z2=>omega);(case z3=>omega);(case z4=>omega);(case z5=>omega);(case zH=>exact Here.of (by assumption) (by assumption) (by assumption) rfl rfl rfl rfl (by (simp only [depth_deeper,Around.deeper_units];omega)) (by (simp only [depth_deeper,Around.deeper_units];omega)));intro h9 tk9 F9 N9)
 trivial
example:True:=by
 k_with "exec For Name Subscript cons nil"=>((rename Fr _ _ _ _=>lF');(with_unfolding_all refine' For_invVF lF' ?k1 ?k2 ?_;(case k1=>exact rfl);(case k2=>exact rfl)))
 trivial
example:True:=by
 k_with "pyIter bytes"=>(refine Stop.out ?_)
 trivial
local macro_rules | `(tactic| walk_at "binaryOp LShift int int")=> `(tactic| (refine Ui ?z1 ?z2 ?_;(case z1=>omega);(case z2=>omega);intro t9 tk9))
local macro_rules | `(tactic| walk_at "binaryOp BitOr int int")=> `(tactic| (refine Sg ?z1 ?z2 ?z3 ?_;(case z1=>omega);(case z2=>omega);(case z3=>omega);intro t9 tk9))
theorem Vq{w:World}{b:Array UInt8}{tb t1 t2:Tok}{ks:List Int}{a:Int}(hk:KBw.bInts b=ks)(hz:ks.length<=100000)(h0:0<=a)(h1:a+2<=ks.length):
  Tel w 77 4 ⟨[.bytes b tb,.int a t1,.int 2 t2],[]⟩ [] [] (λv mu' new=>∃t,v= .int (numAt ks a.toNat) t/\mu'= []/\new= []):=by
 refine' D8 ?k6 ?k7 ?k9 ?kB ?_ ?c2 ?c3 ?c4 ?c5
 case k6=>k_is
 case k7=>k_is
 case k9=>exact λV V=>BindsTo.of_eq rfl
 case kB=>exact locs rfl
 case c2=>exact rfl
 case c3=>exact rfl
 case c4=>exact rfl
 case c5=>decide
 intro dp un gd env outer base gh L' h₁ p loose mean mg mb s tk R hd hu B XX TT F N
 (try dsimp only)
 (try k_fold)
 (try simp only [List.cons_append,List.nil_append] at N)
 k_steps
 refine ⟨?_⟩
 rename_i hsl
 obtain ⟨d1,d2⟩:=V6 (ks:=ks) (a:=a) h0 h1
 rw [d1] at hsl
 refine iter_bytesUnr (l:= [ks.getD a.toNat 0,ks.getD (a.toNat+1) 0]) rfl (by assumption) (by assumption) hsl λI lI=> ?_
 refine BytesRest.succ λb0 b1 u it h' tk' F' N'=> ?_
 k_steps
 refine' Dt (mu':= []) (new:= []) ?e1 ?e2 ?e3 ?e4 ⟨_,?e5,rfl,rfl⟩
 (case e1=>k_asm)
 (case e2=>k_asm)
 (case e3=>(simp only [List.nil_append,List.cons_append];k_allIn))
 (case e4=>exact λV h9=>no h9)
 (case e5=>(rw [show (0*256+ks.getD a.toNat 0)*256+ks.getD (a.toNat+1) 0=numAt ks a.toNat by unfold numAt;omega]))
end
theorem R7{w:World}{b:Array UInt8}{tb t1 t2:Tok}{ks:List Int}{a:Int}{A:Around}{h₀:Heap}{L:Addr}{m:Str->Option Value}{big:List (Addr×Obj)}{s:Shared}{Q E:Value->Shared->Prop}(hk:KBw.bInts b=ks)(hz:ks.length<=100000)(h0:0<=a)(h1:a+2<=ks.length)
  (H:Here w A 4 h₀ L)(F:Fr h₀ L s.heap m)(N:News h₀ L s.heap big)(h:∀t h' tk',Fr h₀ L h' m->News h₀ L h' big->Q (.int (numAt ks a.toNat) t) {s with heap:=h',toks:=tk'}):
  wpAny (model PySem.Challenge.rw_nu0172_01.row.prog w) A (call (.ref 77) [.bytes b tb,.int a t1,.int 2 t2]) Q E s:=by
 refine (Vq hk hz h0 h1).use0 H F N (λp hp=>no hp) λv mu' new h' tk' hP F' N' V V=> ?_
 obtain ⟨t,rfl,rfl,rfl⟩:=hP
 exact h t h' tk' F' N'
noncomputable abbrev inDict(w:World)(k1 k2:Tok)(b:Array UInt8)(tb:Tok)(a:Int)(ta:Tok):Obj:=dictOf [⟨PyData.keyHash w.params "data",.str "data" k1,.bytes b tb⟩,⟨PyData.keyHash w.params "at",.str "at" k2,.int a ta⟩] 2
section
example:True:=by
 k_with "call ref"=>((show wpAny _ _ (call (Value.ref 77) _ _) _ _ _);refine' R7 ?z1 ?z2 ?z3 ?z5 ?zH ?zF ?zN ?_;(case zF=>k_asm);(case zN=>k_asm);(case z1=>assumption);(case z2=>omega);(case z3=>omega);(case z5=>omega);(case zH=>exact Here.of (by assumption) (by assumption) (by assumption) rfl rfl rfl rfl (by (simp only [depth_deeper,Around.deeper_units];omega)) (by (simp only [depth_deeper,Around.deeper_units];omega)));intro t9 h9 tk9 F9 N9)
 trivial
theorem Vl{w:World}{X dx:Addr}{k1 k2:Tok}{b:Array UInt8}{tb ta:Tok}{ks:List Int}{a:Int}(hXd:X≠dx)(hk:KBw.bInts b=ks)(hz:ks.length<=100000)(h0:0<=a)(h1:a+2<=ks.length):
  Tel w 120 8 ⟨[.ref X],[]⟩ [(dx,inDict w k1 k2 b tb a ta)] [(X,instObj 163 dx)]
   (λv mu' new=>∃t ta',v= .int (numAt ks a.toNat) t/\mu'= [(dx,inDict w k1 k2 b tb (a+2) ta')]/\new= []):=by
 refine' D8 ?k6 ?k7 ?k9 ?kB ?_ ?c2 ?c3 ?c4 ?c5
 case k6=>k_is
 case k7=>k_is
 case k9=>exact λV V=>BindsTo.of_eq rfl
 case kB=>exact locs rfl
 case c2=>exact rfl
 case c3=>exact rfl
 case c4=>exact rfl
 case c5=>decide
 intro dp un gd env outer base gh L' h₁ p loose mean mg mb s tk R hd hu B XX TT F N
 (try dsimp only)
 (try k_fold)
 (try simp only [List.cons_append,List.nil_append] at N)
 k_steps
 (try dsimp only);(try k_unfold);(try dsimp only)
 refine' Dt (mu':= [(dx,_)]) (new:= []) ?e1 ?e2 ?e3 ?e4 ⟨_,_,rfl,rfl,rfl⟩
 (case e1=>k_asm)
 (case e2=>k_asm)
 (case e3=>(simp only [List.nil_append,List.cons_append];k_allIn))
 (case e4=>exact λV h9=>no h9)
end
example:True:=by
 k_with_none
 trivial
end
example:Fl:=by walk_at "zF"
example:Fl:=by walk_at "zF"
section
example:True:=by
 k_with_none
 k_with "mem"=>repeat (first | exact List.Mem.head _ | apply List.Mem.tail)
 k_with "ev"=>first
  | exact Ev.nameI rfl
  | exact Ev.nameV rfl
  | exact Ev.nameI (by assumption)
  | exact Ev.nameV (by assumption)
  | exact Ev.int
  | (refine' Ev.itemN ?q1 Ev.int ?im ?iv ?ip;(case q1=>walk_at "ev");(case im=>walk_at "mem");(case iv=>exact rfl);(case ip=>first | exact ⟨_,rfl⟩ | exact rfl))
  | (refine' Ev.add ?q1 ?q2;(case q1=>walk_at "ev");(case q2=>walk_at "ev"))
  | (refine' Ev.sub ?q1 ?q2;(case q1=>walk_at "ev");(case q2=>walk_at "ev"))
  | (refine' Ev.min ?q1 ?q2;(case q1=>walk_at "ev");(case q2=>walk_at "ev"))
 trivial
inductive Gv:List (Addr×Obj)->List (Addr×Obj)->Prop
 | nil {l:List (Addr×Obj)}:Gv l []
 | cons {a:Addr×Obj} {all rest l:List (Addr×Obj)}:Pick all a rest->Gv rest l->Gv all (a::l)
theorem P5(hi:IntsAre vs (a++ [x])):∃vs0 t,vs=vs0++ [.int x t]/\IntsAre vs0 a:=by
 obtain ⟨p,q,a',b,n,t,rfl,e,hk,i1,i2⟩:=Kf hi a.length (by rw [List.length_append,List.length_singleton];exact zn1 369754401 rfl)
 have hl:=IntsAre.length i1
 have e1:a++ [x]=a'++(n::b):=e
 obtain ⟨r1,r2⟩:=List.append_inj e1 (by exact Ac (zn3 38599457589199136 rfl hk hl) (zn3 2500326252904736 rfl hk hl))
 cases r2
 cases i2
 exact ⟨p,t,rfl,r1▸i1⟩
theorem Kg(hi:IntsAre vs []):vs= []:=List.eq_nil_of_length_eq_zero (by rw [IntsAre.length hi];rfl)
theorem Fu:Own 163 (Str.ofString "at"):=⟨λw=>by k_is,λw=>by k_is,λw=>by k_is⟩
theorem Rs:Mth 163 (Str.ofString "u16") 120:=⟨λw=>by k_is,λw=>by k_is,λw=>by k_is,λw=>by k_is⟩
section
variable {C:Cd}{n:Nat}{w:World}{x:Str}{px pos p2:Pos}{e e1 e2:PySem.Expr}{S:Si C n w}{d:Drawn}{m:Loc}{l r:Led}{a v:Int}{vs0 vs:List Value}{u:Value}{X0 dx D:Addr}{k1 k2 tb ta:Tok}{b:Array UInt8}{ks ns:List Int}{κ:Value->Drawn->Led->Prop}{P:Value->Prop}{cN kd:Nat}
theorem CX.in16(hX:(X0,instObj 163 dx)∈r)(hv:numAt ks a.toNat=v)(hk:KBw.bInts b=ks/\ks.length<=100000)(h0:0<=a/\a+2<=ks.length)(h:∀t ta',κ (.int v t) d ((dx,inDict w k1 k2 b tb (a+2) ta')::r))(hj:decide (8<=n)=true:=by exact Eq.refl true):CX S d m ((dx,inDict w k1 k2 b tb a ta)::r) (.ref 120) [.ref X0] κ:=
 ⟨λh9 k Q A hq=>(CX.tel1 (κ:=κ) (Vl ((List.pairwise_cons.mp A.D).1 _ hX) hk.1 hk.2 h0.1 h0.2) .here (λp hp=>lS hp▸hX) (λv' mu' new hP V=>by obtain ⟨t,ta',e,e1,e2⟩:=hP;subst e e1 e2;exact ⟨rfl,.nil,hv▸h t ta'⟩) hj).run h9 k Q A hq⟩
theorem X.u16(he:Ev S m ((dx,inDict w k1 k2 b tb a ta)::r) (.Name x px) (· = .ref X0))(hX:(X0,instObj 163 dx)∈r)(hv:numAt ks a.toNat=v)(hk:KBw.bInts b=ks/\ks.length<=100000)(h0:0<=a/\a+2<=ks.length)(h:∀t ta',κ (.int v t) d ((dx,inDict w k1 k2 b tb (a+2) ta')::r))(hj:decide (8<=n)=true:=by exact Eq.refl true)(hp:(p2.endLine==pos.line)=true:=by exact Eq.refl true):
  X S d m ((dx,inDict w k1 k2 b tb a ta)::r) (.Call (.Attribute (.Name x px) (Str.ofString "u16") p2) [] [] pos) κ:=
 X.meth0 Rs he (.tail _ hX) (.head _) rfl (CX.in16 hX hv hk h0 h hj) hp
theorem ints_snoc(hi:IntsAre vs ns)(hne:vs≠ []):∃vs0 t,vs=vs0++ [.int (ns.getLastD 0) t]:=by
 rcases List.eq_nil_or_concat ns with e | ⟨ns0,y,e⟩
 ·subst e;exact absurd (Kg hi) hne
 ·subst e
  rw [List.concat_eq_append] at hi
  obtain ⟨vs0,t,e,_⟩:=P5 hi
  exact ⟨vs0,t,by rw [e,List.concat_eq_append,List.getLastD_concat]⟩
theorem Ev.last(hd:Ev S m l e1 (· = .ref D))(hm:(D,listOf (vs0++ [u]).toArray cN)∈l)(hl:vs0.length<=1000)(hp:P u):Ev S m l (.Subscript e1 (.UnaryOp .USub (.Constant (.int 1) kd px) p2) pos) P:=
 ⟨λh d k Q A hq=>Subscript_ (hd.run h d k _ A λv1 h1 k1 hv1 A1=>Ev.intN.run h1 d k1 _ A1 λv2 h2 k2 ⟨t,hv2⟩ A2=>by
  subst hv1 hv2
  refine kba_turn (value':=PySem.Expr.Name (Str.ofString "_") ⟨0,0,0,0⟩) (λV=>rfl) (kim_back A2.N1 hm rfl rfl (by decide) (by rw [List.length_append,List.length_singleton];exact zn1 398790956416293 rfl) (by decide) ?_ (hq u h2 k2 hp A2) (D7 rfl) λV=>rfl)
  have e:(-1+ (((vs0++ [u]).length:Nat):Int)).toNat=vs0.length:=by rw [List.length_append,List.length_singleton];exact Ac (zn2 417513637442638230618400 rfl (iTo (zn1 12407691652245797 rfl))) (zn2 416333045821955111944480 rfl (iTo (zn1 12407691652245797 rfl)))
  rw [e];simp)⟩
end
theorem Vi{w:World}{X dx:Addr}{k1 k2:Tok}{b:Array UInt8}{tb ta:Tok}{ks gs:List Int}{a:Int}(hXd:X≠dx)(hk:KBw.bInts b=ks)(hz:ks.length<=100000)(h0:0<=a)(h1:a+2+2*gs.length<=ks.length)(hl:gs.length<=60)
  (hn:numAt ks a.toNat=gs.length)(hg:∀(i:Nat) x,gs[i]?=some x->numAt ks (a+2+2* (i:Int)).toNat=x)(hs:gs.Pairwise (· < ·)):
  Tel w 326 12 ⟨[.ref X],[]⟩ [(dx,inDict w k1 k2 b tb a ta)] [(X,instObj 163 dx)]
   (λv mu' new=>∃D vs c a' ta',v= .ref D/\mu'= [(dx,inDict w k1 k2 b tb a' ta')]/\new= [(D,listOf vs.toArray c)]/\IntsAre vs gs):=by
 refine' De (j:=11) [(Str.ofString "octets_in",.ref X)] ?k6 ?k7 ?k9 ?kB ?kn ?kd ?_ ?c2 ?c3 ?c4 ?c5
 case k6=>k_is
 case k7=>k_is
 case k9=>exact λV V=>BindsTo.of_eq rfl
 case kB=>exact locs rfl
 case kn=>exact Eq.refl true
 case kd=>exact λp hp=>lS hp▸hXd
 case c2=>exact rfl
 case c3=>exact rfl
 case c4=>exact rfl
 case c5=>decide
 intro S K d m l₁ v1 hro hK hN
 have hX:=hro _ (.head _)
 refine W.assignX (Mine.X.list0 λD hD=>W.swap ?_)
 refine W.forRange (Mine.X.u16 (Ev.nameV v1) (.tail _ hX) hn ⟨hk,hz⟩ (by exact ⟨zi1 11044661541 rfl h0,lin [_,_] [_] 27871125692281275746898213 rfl h1⟩) λt ta'=>⟨gs.length,⟨t,rfl⟩,by exact zn1 69932212721734549792 rfl hl,Lp.intro (λi G=>∀(u:Loc) (a':Int) ta vs c,a'=a+2+2* (i:Int)->u "octets_in"=some (.ref X)->u "found"=some (.ref D)->IntsAre vs (gs.take i)->G u ((dx,inDict w k1 k2 b tb a' ta)::(D,listOf vs.toArray c)::l₁))
  (λi G h u a' ta vs c a1 a2 a3 a4=>h _ _ λG' h'=>h' u a' ta vs c a1 a2 a3 a4) (λi u a' ta vs c V V V V=>rfl)
  (λG h=>h _ _ ta' [] 0 (by exact Int.le_antisymm (zi1 387041309275214117 rfl) (zi1 433061063232737573 rfl)) v1 rfl .nil) ?turn ?done⟩)
 case turn=>
  intro S' K' i v hi hv hr hn u a' ta vs c ea u1 u2 i3
  subst ea
  refine W.assignI (Ev.attr Fu (Ev.nameV u1) (.tail _ (.tail _ hX)) (.head _) rfl ⟨_,rfl⟩) λt1=> ?_
  refine W.assignX (Mine.X.u16 (Ev.nameV u1) (.tail _ hX) (hg i _ (List.getElem?_eq_getElem hi)) ⟨hk,hz⟩ (by exact ⟨lin [_] [_] 11859129845081057573 rfl h0,lin [_,_,_] [_] 87539039623740229891111285107523433681189 rfl h1 hi⟩) λt2 ta2=> ?_)
  have hT:gs.take (i+1)=gs.take i++ [gs[i]]:=by rw [List.take_add_one,List.getElem?_eq_getElem hi];rfl
  have hvl:vs.length<=60:=by rw [IntsAre.length i3,List.length_take];exact zn3 83441875548763939629013742979285280 rfl hl hi (Nat.min_le_left _ _)
  refine W.ite (Bv.and (q:=gs[i]<= (gs.take i).getLastD 0) (Bv.list (Ev.nameV u2) (.tail _ (.head _)) (by exact zn1 69932212721734549793 rfl hvl)) λhne=> ?_) (λhc=> ?_) (λV=>W.nil ?_)
  ·obtain ⟨vs0,t0,e⟩:=ints_snoc i3 hne
   subst e
   exact Bv.le (Ev.nameI rfl) (Ev.last (Ev.nameV u2) (.tail _ (.head _)) (by rw [List.length_append,List.length_singleton] at hvl;exact zn1 71622965465349689606432 rfl hvl) ⟨t0,rfl⟩)
  ·refine absurd hc.2 (Int.not_le.mpr ?_)
   have h9:(gs.take (i+1)).Pairwise (· < ·):=hs.sublist (List.take_sublist _ _)
   rw [hT] at h9
   have hne:gs.take i≠ []:=λe=>hc.1 (Kg (e▸i3))
   rw [List.getLastD_eq_getLast?,List.getLast?_eq_some_getLast hne]
   exact (List.pairwise_append.mp h9).2.2 _ (List.getLast_mem hne) _ (.head _)
  ·refine W.expr (Mine.X.lm1 (Ev.nameV u2) (.tail _ (.head _)) PySem.F.slot_list_append PySem.F.type_list_append (Mine.X.evI (Ev.nameI rfl) λt3=>CX.append (.tail .head) i3 (by rw [List.length_take];exact zn2 39962251963114519573201322272 rfl hl (Nat.min_le_right _ _)) λvs' c' i4=>⟨rfl,?_⟩))
   exact hn _ _ ta2 vs' c' (by exact Int.le_antisymm (lin [_] [_] 436557332532115058445844631845 rfl) (lin [_] [_] 476288212817336675906534134053 rfl)) u1 u2 (hT▸i4)
 case done=>
  intro u a' ta vs c ea u1 u2 i3
  rw [List.take_length] at i3
  exact W.retV (Ev.nameV u2) (hK _ _ _ _ ⟨D,vs,c,_,ta,rfl,rfl,rfl,i3⟩ (λp hp=>lS hp▸⟨hD _ (.head _),λr hr=>hD r (.tail _ hr)⟩) (SubL.cons (.head _) λp hp=> .tail _ hp))
end
example:Fl:=by walk_at "zF"
section
section
variable {C:Cd}{n:Nat}{w:World}{x:Str}{px pos p2 p3:Pos}{e e1 e2:PySem.Expr}{rest:List Stmt}{rs:List (List Stmt)}{S:Si C n w}{K:Flow->Shared->Prop}{d:Drawn}{m:Loc}{l r:Led}{vs vs0:List Value}{u:Value}{D:Addr}{cN kd:Nat}{κ:Value->Drawn->Led->Prop}{g:Obj->Led}
theorem CX.appendV(U9:U D (listOf vs.toArray cN) l g)(hl:vs.length<=1000)(h:∀c',κ .none d (g (listOf (vs++ [u]).toArray c'))):CX S d m l (.builtin "list.append") [.ref D,u] κ:=
 ⟨λh9 k Q A hq=>M4 A.F A.N (A.updF U9) hl λh' c' F N=>hq _ _ _ _ _ (h c') (A.upd U9 F N)⟩
theorem W.setLast(hd:∀l,Ev S m l e1 (· = .ref D))(he:X S d m l e λv d' l'=>∃g,U D (listOf (vs0++ [u]).toArray cN) l' g/\∀c',W S K d' m (g (listOf (vs0++ [v]).toArray c')) rest rs)(hl:vs0.length<=1000)(ok:Af e=true:=by exact Eq.refl true):W S K d m l (.Assign [.Subscript e1 (.UnaryOp .USub (.Constant (.int 1) kd px) p2) pos] e p3::rest) rs:=
 ⟨λh9 k A=>wpAny_execs_cons (wpAny_Assign_Subscript (he.run h9 k _ A λv d' l' h1 k1 ⟨g,U9,z⟩ A1=>(hd l').run h1 d' k1 _ A1 λv1 h2 k2 hv1 A2=>Ev.intN.run h2 d' k2 _ A2 λv2 h3 k3 ⟨t,hv2⟩ A3=>by
  subst hv1 hv2
  exact Ub A3.F A3.N (A3.updF U9) rfl hl λh' c' F' N'=>(z c').run h' k3 (A3.upd U9 F' N')) (Cg ok))⟩
end
theorem Ie(hi:IntsAre vs gs)(hl:gs.length<=120):
  Tel w 319 6 ⟨[.ref T],[]⟩ [] [(T,Ap vs)]
   (λv mu' new=>∃R rs c tl,v= .ref R/\mu'= []/\new=(R,listOf rs.toArray c)::tl/\DatAll tl rs ((Ae gs).map pairD)/\(∀p∈tl,p.1≠R)):=by
 refine' Cn (j:=5) [(Str.ofString "glyphs",.ref T)] ?k6 ?k7 ?k9 ?kB ?kn ?_ ?c2 ?c3 ?c4 ?c5
 case k6=>k_is
 case k7=>k_is
 case k9=>exact λV V=>BindsTo.of_eq rfl
 case kB=>exact locs rfl
 case kn=>exact Eq.refl true
 case c2=>exact rfl
 case c3=>exact rfl
 case c4=>exact rfl
 case c5=>decide
 intro S K d m l₁ v1 hro hK hN
 have hT:=hro _ (.head _)
 refine W.assignX (X.list0 λR hR=> ?_)
 have hT':=λp hp=>Nat.ne_of_lt (hR p hp)
 refine W.forTup (λi G=>∀(u:Loc) rs c tl,u "ranges"=some (.ref R)->DatAll tl rs ((Ae (gs.take i)).map pairD)->(∀p∈tl,p.1≠R/\∀r∈l₁,r.1<p.1)->G u ((R,listOf rs.toArray c)::(tl++l₁)))
  (λi G h u rs c tl a1 a2 a3=>h _ _ λG' h'=>h' u rs c tl a1 a2 a3) (Ev.nameV v1) hi (λi u rs c tl V V V=> .tail _ (lR _ hT)) (λG h=>h _ [] 0 [] rfl .nil (List.forall_mem_nil _)) ?turn ?done
 case turn=>
  intro S' K' i g t hg hr hn u rs c tl u1 hD hoff
  have hTk:gs.take (i+1)=gs.take i++ [g]:=by rw [List.take_add_one,hg];rfl
  have z2:=Es (gs.take i)
  have z3:=hD.length
  rw [List.length_map] at z3
  rw [List.length_take] at z2
  have hrs:rs.length<=900:=zn4 48022432476207517574322449303786335404320 rfl hl z2 z3 (Nat.min_le_right _ _)
  have more:∀(T2:Addr) (rs':List Value) (c':Nat) (t1 t2:Tok) (a b:Int) (u':Loc),u' "ranges"=some (.ref R)->(∀p∈(R,listOf rs.toArray c)::(tl++l₁),p.1<T2)->DatAll ((T2,Ap [.int a t1,.int b t2])::tl) rs' ((Ae (gs.take (i+1))).map pairD)->W S' K' d u' ((T2,Ap [.int a t1,.int b t2])::(R,listOf rs'.toArray c')::(tl++l₁)) [] []:=
   λT2 rs' c' t1 t2 a b u' hu' hlt hD'=>W.swap (hn u' rs' c' (_::tl) hu' hD' λp hp=>(lC hp).elim (λe=>e▸⟨Nat.ne_of_gt (hlt _ (.head _)),λr hr=>hlt r (.tail _ (lR _ hr))⟩) (hoff p))
  have itm:∀ {ps0 a b} {m':Loc} {l':Led},Ae (gs.take i)=ps0++ [(a,b)]->m' "ranges"=some (.ref R)->(∀p∈tl,p∈l')->(R,listOf rs.toArray c)∈l'->∃ad nT ta tb,(∃rs0,rs=rs0++ [.ref ad]/\DatAll tl rs0 (ps0.map pairD))/\(ad,Gf nT [Value.int a ta,Value.int b tb])∈l':=λhe V hs V=>by
   rw [he] at hD
   obtain ⟨rs0,ad,na,ta,tb,e,hmem,hD0⟩:=Sj hD
   exact ⟨ad,na,ta,tb,⟨rs0,e,hD0⟩,hs _ hmem⟩
  have hsub:∀p∈tl,p∈(R,listOf rs.toArray c)::(tl++l₁):=λp hp=> .tail _ (lL _ hp)
  refine W.ite (p:=∃ps0 a b,Ae (gs.take i)=ps0++ [(a,b)]/\b+1=g) ?cond (λhp=> ?_) (λhp=> ?_)
  case cond=>
   rcases List.eq_nil_or_concat (Ae (gs.take i)) with he | ⟨ps0,⟨a,b⟩,he⟩
   ·rw [he] at z3
    have hr0:rs= []:=List.eq_nil_of_length_eq_zero z3
    exact Bv.iff (Bv.and (q:=False) (Bv.list (Ev.nameV u1) (.head _) (by exact zn1 1038386276591486009633 rfl hrs)) λh=>absurd hr0 h) ⟨λh=>h.2.elim,λ⟨ps0,a,b,e,_⟩=>by rw [he] at e;exact absurd e.symm (List.append_ne_nil_of_right_ne_nil _ (List.cons_ne_nil _ _))⟩
   ·rw [List.concat_eq_append] at he
    obtain ⟨ad,nT,ta,tb,⟨rs0,e,_⟩,hmem⟩:=itm (m':=u) he u1 hsub (.head _)
    have hm:(R,listOf (rs0++ [Value.ref ad]).toArray c)∈(R,listOf rs.toArray c)::(tl++l₁):=e▸ .head _
    refine Bv.iff (Bv.and (Bv.list (Ev.nameV u1) (.head _) (by exact zn1 1038386276591486009633 rfl hrs)) λV=>Bv.eq (Ev.add (Ev.tupItem (i:=1) (gs:= [a,b]) (Ev.last (Ev.nameV u1) hm (by rw [e,List.length_append] at hrs;exact zn2 1063308397652929116012832 rfl hrs) rfl) Ev.int hmem (.cons _ _ (.cons _ _ .nil)) (by decide) (nLe rfl) rfl) Ev.int) (Ev.nameI rfl)) ⟨λh=>⟨ps0,a,b,he,h.2⟩,λ⟨ps1,a1,b1,e1,e2⟩=>⟨λh=> ?_,?_⟩⟩
    ·rw [e] at h;exact absurd h (List.append_ne_nil_of_right_ne_nil _ (List.cons_ne_nil _ _))
    ·rw [he] at e1
     cases (List.append_inj' e1 rfl).2
     exact e2
  ·obtain ⟨ps0,a,b,he,e2⟩:=hp
   obtain ⟨ad,nT,ta,tb,⟨rs0,e,hD0⟩,hmem⟩:=itm (m':=u) he u1 hsub (.head _)
   subst e
   refine W.setLast (λV=>Ev.nameV u1) (Mine.X.tup2 (Ev.tupItem (i:=0) (gs:= [a,b]) (Ev.last (Ev.nameV u1) (.head _) (by rw [List.length_append] at hrs;exact zn2 1063308397652929116012832 rfl hrs) rfl) Ev.int hmem (.cons _ _ (.cons _ _ .nil)) (by decide) (nLe rfl) rfl) (Ev.nameI rfl) λT2 w1 w2 ⟨t1,e3⟩ ⟨t2,e4⟩ hlt=>⟨_,.tail .head,λc'=>W.nil ?_⟩) (by rw [List.length_append] at hrs;exact zn2 1063308397652929116012832 rfl hrs)
   subst e3 e4
   refine more T2 _ c' t1 t2 a g _ u1 hlt ?_
   rw [hTk,Et,H6 he e2,List.map_append]
   exact (hD0.mono λV h=> .tail _ h).append (K8 (.head _))
  ·have hst:Bh (Ae (gs.take i)) g=Ae (gs.take i)++ [(g,g)]:=by
    rcases List.eq_nil_or_concat (Ae (gs.take i)) with he | ⟨ps0,⟨a,b⟩,he⟩
    ·exact Lm he
    ·rw [List.concat_eq_append] at he
     exact H7 he λe=>hp ⟨ps0,a,b,he,e⟩
   refine W.expr (Mine.X.lm1 (Ev.nameV u1) (.head _) PySem.F.slot_list_append PySem.F.type_list_append (Mine.X.tup2 (Ev.nameI rfl) (Ev.nameI rfl) λT2 w1 w2 ⟨t1,e3⟩ ⟨t2,e4⟩ hlt=>CX.appendV (.tail .head) (by exact zn4 48022432476207517574322449303786440261920 rfl hl z2 z3 (Nat.min_le_right _ _)) λc'=>⟨rfl,W.nil ?_⟩))
   subst e3 e4
   refine more T2 _ c' t1 t2 g g _ u1 hlt ?_
   rw [hTk,Et,hst,List.map_append]
   exact (hD.mono λV h=> .tail _ h).append (K8 (.head _))
 case done=>
  intro u rs c tl u1 hD hoff
  rw [List.take_length] at hD
  exact W.retV (Ev.nameV u1) (hK _ _ _ ⟨R,rs,c,tl,rfl,rfl,rfl,hD,λp hp=>(hoff p hp).1⟩ (λp hp=>(lC hp).elim (λe=>e▸hR) λhp=>(hoff p hp).2) λp hp=>hp)
end
section
theorem Q2{x1}(heI:s.heap.get? I=some oI)(hcls:oI.cls= .type "list_iterator")(hQ:Q () s):
  wpAny (model prog w) A (letOwnedTupleGo (.Tuple elts x1 pos) (.ref I) (.ref T)) Q E s:=by
 unfold letOwnedTupleGo
 refine wpAny_bind (wpAny_load heI ?_)
 rw [hcls]
 cases oI.data with
 | fields vs=>
  show wpAny _ _ (if _ then _ else _) _ _ _
  rw [show (["enumerate","zip","dict_itemiterator","dict_reverseitemiterator","odict_iterator","itertools.zip_longest","itertools.pairwise"].contains "list_iterator")=false from by decide,Bool.false_and]
  exact wpAny_pure hQ
 | _=>exact wpAny_pure hQ
theorem Cs{P:Addr×Obj->Prop}{q:Addr×Obj}{l:Led}(h:P q)(r:∀p∈l,P p):∀p∈q::l,P p:=λp hp=>(lC hp).elim (λe=>e▸h) (r p)
theorem Jk:Value.type "dict"≠Value.type "bytearray":=by decide+kernel
theorem Kd:Value.ref 259≠Value.type "bytearray":=nofun
theorem U.pick(U9:U D o l g):∃r,Pick l (D,o) r/\∀o' p,p∈g o'->p=(D,o')\/p∈r:=by
 induction U9 with
 | head=>exact ⟨_,.here,λo' p h=>lC h⟩
 | tail _ ih=>
  obtain ⟨r,a,b⟩:=ih
  exact ⟨_,.there a,λo' p h=>(lC h).elim (λe=> .inr (e▸ .head _)) λh=>(b o' p h).imp id (.tail _)⟩
section
variable {C:Cd}{n:Nat}{w:World}{x y:Str}{px py pos p2 p3:Pos}{e e1:PySem.Expr}{body rest:List Stmt}{rs:List (List Stmt)}{S:Si C n w}{K:Flow->Shared->Prop}{d:Drawn}{m:Loc}{l ro:Led}{a b:Int}{t:Tok}{v f:Value}{vs its:List Value}{κ:Value->Drawn->Led->Prop}{cN kd k:Nat}{X0 dx D T fa:Addr}{g:Obj->Led}{Post:Value->Led->Led->Prop}
theorem At.ne(A:At S h m l)(hp:p∈l)(hq:q∈l)(h:p.2.cls≠q.2.cls):p.1≠q.1:=λe=>h (by rw [Bg A.N1 p hp q hq e])
theorem CXR.telU(T:∀h,At S h m l->TelR w fa k ⟨vs,[]⟩ [(D,o)] ro Post)(U9:U D o l g)(hro:∀p∈ro,p∈l)(hne:∀p∈ro,p.2.cls≠o.cls)(h:∀v mu' new,Post v mu' new->∃o',mu'= [(D,o')]/\new= []/\∀d',κ v d' (g o'))(hk:decide (k<=n)=true:=by exact Eq.refl true):CXR S d m l (.ref fa) vs κ:=
 ⟨λh9 k9 Q A hq=>by
  obtain ⟨r,hp,hg⟩:=U9.pick
  refine (T h9 A).use1 (S.less (of_decide_eq_true hk)) A.F A.N (hp.app S.own) (λp hp'=>lL _ ?_) (λp hp'=>(lA hp').elim ((List.pairwise_cons.mp (C4 hp.perm.symm A.D)).1 p) λh=>A.O p h _ U9.mem) λv mu' new h' tk' dr' hP F N V V=> ?_
  ·exact (lC (hp.perm.mem_iff.mpr (hro p hp'))).elim (λe=>absurd (congrArg (λq=>q.2.cls) e) (hne p hp')) id
  ·obtain ⟨o',e1,e2,z⟩:=h _ _ _ hP
   subst e1 e2
   exact hq _ _ _ _ _ (z dr') (A.upd U9 F λp hp'=>N p ((lA hp').elim (λh=>(hg _ _ h).elim (λe=>e▸ .head _) λh=> .tail _ (show p∈([]:Led)++(r++S.own) from (lL S.own h:p∈r++S.own))) λh=> .tail _ (show p∈([]:Led)++(r++S.own) from (lR r h:p∈r++S.own))))⟩
theorem CXR.u16{tk0:Tok}{c:Array UInt8}(hX:(X0,instObj 259 dx)∈l)(hd:(dx,Bk w tk0 D)∈l)(U9:U D (Ai c) l g)(h0:0<=a)(h1:a<=65535)(hb:c.size<=50000)(h:∀d',κ .none d' (g (Ai (c++Bf a))))(hk:decide (10<=n)=true:=by exact Eq.refl true):CXR S d m l (.ref 200) [.ref X0,.int a t] κ:=
 .telU (λV A=>L6 (tk0:=tk0) h0 h1 hb (A.ne hd U9.mem Jk) (A.ne hX U9.mem Kd)) U9 (SubL.cons hd (SubL.cons hX (List.forall_mem_nil _))) (Cs Jk (Cs Kd (List.forall_mem_nil _))) (λv mu' new ⟨e1,e2,e3⟩=>⟨_,e2,e3,e1▸h⟩) hk
theorem CXR.out(h:∀X dx D tk d',κ (.ref X) d' ((dx,Bk w tk D)::(D,Ai #[])::(X,instObj 259 dx)::l))(hk:decide (8<=n)=true:=by exact Eq.refl true):CXR S d m l (.ref 259) [] κ:=
 ⟨λh9 k Q A hq=>Lf (S.less (of_decide_eq_true hk)) A.F A.N λX dx D tk h' tk' dr' F' N' l1 l2 l3=>hq _ _ _ _ _ (h X dx D tk dr') ⟨F',N',by
  have z:∀p∈l,p.1<dx:=λp hp=>l3 p (lL _ hp)
  exact .cons (Cs (Nat.ne_of_gt (Nat.lt_trans l1 l2)) (Cs (Nat.ne_of_gt l1) λp hp=>Nat.ne_of_lt (z p hp))) (.cons (Cs (Nat.ne_of_lt l2) λp hp=>Nat.ne_of_lt (Nat.lt_trans (z p hp) (Nat.lt_trans l1 l2))) (.cons (λp hp=>Nat.ne_of_lt (Nat.lt_trans (z p hp) l1)) A.D)),λp hp=>by
  have z:p.1<dx:=l3 p (lR _ hp)
  exact Cs (Nat.ne_of_lt z) (Cs (Nat.ne_of_lt (Nat.lt_trans z (Nat.lt_trans l1 l2))) (Cs (Nat.ne_of_lt (Nat.lt_trans z l1)) (A.O p hp)))⟩⟩
end
section
variable {cn:Str}{cs:Scope}{fa:Addr}{cc:Value}{n:Nat}{w:World}{x y:Str}{px py pos p2 p3:Pos}{e e1:PySem.Expr}{body rest:List Stmt}{rs:List (List Stmt)}{S:Si (P4 cn cs fa cc) n w}{K:Flow->Shared->Prop}{d:Drawn}{m:Loc}{l ro:Led}{a b:Int}{t:Tok}{v f:Value}{vs its:List Value}{κ:Value->Drawn->Led->Prop}{cN kd k:Nat}{X0 dx D T:Addr}{g:Obj->Led}{Post:Value->Led->Led->Prop}
theorem WR.forPairs(J:Nat->Fam)(hJ:∀i G,(∀m l,(∀G',J i G'->G' m l)->G m l)->J i G)(he:Ev S m l e (· = .ref D))(hk:∀i,J i λV l'=>(D,listOf vs.toArray cN)∈l')(h0:∀G,J 0 G->G m l)
  (turn:∀(o9:Led) (K':Flow->Shared->Prop) (i:Nat) (v:Value),vs[i]?=some v->(∀l v d,Rt S K d l v->Rt (S.noE o9) K' d l v)->J (i+1) (λm l=>∀d,WR (S.noE o9) K' d m l [] [])->J i λm l=>∀d,∃ad nT v1 v2,v= .ref ad/\(ad,Gf nT [v1,v2])∈l/\WR (S.noE o9) K' d (mN y v2 (mN x v1 m)) l body [])
  (done:J vs.length λm l=>∀d,WR S K d m l rest rs)(hx:locOk (P4 cn cs fa cc) x=true:=by exact Eq.refl true)(hy:locOk (P4 cn cs fa cc) y=true:=by exact Eq.refl true)(ok:Af e=true:=by exact Eq.refl true):WR S K d m l (.For (.Tuple [.Name x px,.Name y py] kd p2) e body [] pos::rest) rs:=
 ⟨λh9 k9 A9=>Az (F0 (he.run h9 d k9 _ A9 λv h k hv A=>by
  subst hv
  have hol:=(A.N1 _ (h0 _ (hk 0))).1
  have hls:h.IsList D vs.toArray:=⟨_,hol,rfl,_,rfl⟩
  have hne:D≠h.objs.size:=Nat.ne_of_lt (Heap.lt_size hol)
  refine wpAny_pyIter_list hls ?_
  have hlen:vs.toArray.size=vs.length:=List.size_toArray
  rw [<-hlen] at done
  exact LpR J hJ hk h0 (A.push _) (Walks.list S.hh h.objs.size D hne vs.toArray) (λi h' st=>⟨_,st.1.choose_spec.1⟩) Q4 (λp hp e=>A.off p hp (e▸ .head _)) (next_is_new A.F) (λe=>A.frOff (e▸ .head _)) ⟨⟨_,Heap.get?_push_size _ rfl,rfl,rfl⟩,hls.push _⟩ (λo9 K' i v hi hv hr hn=>by
   have:=turn o9 K' i v (by simpa using hv) hr hn
   refine hJ _ _ λm1 l1 hG h1 d1 k1 oI hoI hst A1=> ?_
   obtain ⟨ad,nT,v1,v2,ev,hT,z⟩:=hG _ this d1
   subst ev
   obtain ⟨o,e,hc,_⟩:=hst.1
   refine wpAny_bind (Q2 hoI (sJ (e.symm.trans hoI)▸hc) ?_)
   exact unpackN_ (items:= #[v1,v2]) A1.F A1.N ⟨_,(A1.N1 _ hT).1,rfl,_,rfl⟩ S.hh rfl rfl λh2 F2 N2=>assignInOrder_cons (PyProof.Rows.assign_Name (Si.store (S:=S.noE o9) ⟨F2,N2,A1.D,A1.O⟩ hx λh3 k3 A3=>assignInOrder_cons (PyProof.Rows.assign_Name (Si.store (S:=S.noE o9) A3 hy λh4 k4 A4=>wpAny_pure (z.run h4 k4 A4)))))) done) λV=>fold_plain ok)⟩
end
section
variable {C:Cd}{n:Nat}{w:World}{x y:Str}{px py pos p2 p3:Pos}{e e1:PySem.Expr}{body rest:List Stmt}{rs:List (List Stmt)}{S:Si C n w}{K:Flow->Shared->Prop}{d:Drawn}{m:Loc}{l ro:Led}{a b:Int}{t:Tok}{v f:Value}{vs its:List Value}{κ:Value->Drawn->Led->Prop}{cN kd k:Nat}{X0 dx D T fa:Addr}{g:Obj->Led}{Post:Value->Led->Led->Prop}
theorem U6{w:World}{f:Addr}{j:Nat}{args:Args}{ro:Led}{Post:Value->Led->Led->Prop}
  {name qual:Str}{params:Arguments}{body:List Stmt}{scope:Scope}{dV kV doc pm cdv ct oc:Value}{an od:Option Addr}{osl:Array (Option Value)}(binds:List (Str×Value))
  (ho:(hd.heap_39 w.params).lookup f=some ⟨oc,od,.func (fnOf name qual params body scope dV kV doc pm an cdv ct),osl⟩)(hcd:codeIn (hd.heap_39 w.params) cdv qual=true)
  (hbind:∀s:Shared,(hd.heap_39 w.params).In s.heap->BindsTo s (fnOf name qual params body scope dV kV doc pm an cdv ct) args binds)(hloc:∀y∈binds,scope.names.lookup y.1=some .local)(hnd:decide (binds.map (·.1)).Nodup=true)
  (h:∀(S:Si ⟨qual,scope,some f,cdv⟩ j w) (K:Flow->Shared->Prop) (d:Drawn) (m:Loc) (l₁:Led),CurM m binds ((∀p∈ro,p∈l₁)->
   (∀v d new l,Post v [] new->(∀p∈new,∀r∈l₁,r.1<p.1)->(∀p∈(new++l₁),p∈l)->Rt S K d l v)->(∀s,K (.ret .none) s->K .next s)->
   WR S K d m l₁ body []))
  (hco:scope.isCoroutine=false) (hgen:scope.isGenerator=false) (hk:scope.kind= .function) (hcell:∀x∈scope.names,x.2≠ .cell):TelR w f (j+1) args [] ro Post:=by
 refine Ic ho hcd hbind hloc (λdp un gd env outer base g L' h₁ p loose mean mg mb s tk R hd hu B X T F N=> ?_) hco hgen hk hcell
 have Nr:News g L' h₁ ro:=λp hp=>N p (lR _ hp)
 obtain ⟨l₁,hD,hm⟩:=Bx ro (Bg Nr)
 have hbs:∀p∈binds,(λy=>List.lookup y binds.reverse) p.1=some p.2:=λp hp=>Em (of_decide_eq_true hnd) hp
 refine Ao ((CurM.go (h {A:=_,L:=L',lc:=L',cl:= [],h₀:=g,g:=s.gens,o:=s.os,E:=λV V=>False,own:= [],H:=Here.of B X T rfl rfl rfl hk ?_ ?_,hE:=λV=>He} _ s.drawn _ l₁) hbs (λp hp=>(hm p).mpr hp) ?_ λV z=>z).run h₁ tk ⟨F,λp hp=> ?_,?_,λp hp=>no hp⟩) (λV V z=>z) λV V z=>z.elim
 ·exact zn3 88604346307872564072737 rfl hd
 ·exact zn3 90731934770765406008922401 rfl hu
 ·intro v d new l hp hl hs
  refine ⟨λh k m A=> ?_⟩
  have N':=A.N
  rw [List.append_nil] at N'
  exact Ds (mu':= []) (new:=new) A.F N' (λp hp=>hs p ((lA (show p∈new++ro from hp)).elim (lL _) λhp=>lR _ ((hm p).mpr hp))) (λp hp r hr=>hl p hp r ((hm r).mpr hr)) hp
 ·rw [List.append_nil] at hp
  exact Nr p ((hm p).mp hp)
 ·exact hD
end
end
section
open PyProof.Rows.LCg PyProof.Rows.LCt
section
variable {prog:Program}{w:World}{A:Around}{E:Value->Shared->Prop}{s:Shared}{h₀:Heap}{L a b:Addr}{news r1 r2:List (Addr×Obj)}{vs us:List Value}{gs ks:List Int}{Q:Value->Shared->Prop}
theorem Lj:∀ {vs:List Value} {gs:List Int},IntsAre vs gs->ReadsAll h vs (gs.map PyData.int) []:=by
 intro vs gs z
 induction z with
 | nil=>exact .nil
 | cons n t _ ih=>exact (ReadsAll.cons (Reads.int (h:=h) n t) ih:_)
theorem Jp:∀gs:List Int,PyData.eqvAll (gs.map PyData.int) (gs.map PyData.int)=true
 | []=>rfl
 | g::r=>by simp [PyData.eqvAll,PyData.eqv,Jp r]
theorem Ls(gs:List Int):SeqAt.shaped (.tuple (gs.map PyData.int))=true:=by
 simp [SeqAt.shaped,PyData.canLay0,PyData.depth,ke_canLayAll0,ke_depthAll]
theorem tup_ne(N:News h₀ L s.heap news)(pa:Pick news (a,Ap vs) r1)(pb:Pick news (b,Ap us) r2)(hi:IntsAre vs gs)(hj:IntsAre us ks)(e:gs=ks)(hu:A.units+64<cLine)(h:Q (.bool false) s):
  wpAny (model prog w) A (compareOp .NotEq (.ref a) (.ref b)) Q E s:=by
 subst e
 refine ne_dataH (reads_tuple_at (N.get (pa.sub _ (.head _))) rfl rfl (by simpa using Lj hi)) (reads_tuple_at (N.get (pb.sub _ (.head _))) rfl rfl (by simpa using Lj hj)) (Ls _) (Ls _) hu ?_
 rw [show PyData.eqv (.tuple (gs.map PyData.int)) (.tuple (gs.map PyData.int))=true from Jp gs]
 exact h
theorem Np(N:News h₀ L s.heap news)(pa:Pick news (a,listOf [Value.bytes b1 t1,Value.bytes b2 t2].toArray c) r1)(pb:Pick news (b,listOf [Value.bytes b1 u1,Value.bytes b2 u2].toArray d) r2)(hu:A.units<cLine)(h:Q (.bool false) s):
  wpAny (model prog w) A (compareOp .NotEq (.ref a) (.ref b)) Q E s:=by
 refine SeqAt.RcNeAt.lists (e:=λV=>true) ⟨_,N.get (pa.sub _ (.head _)),rfl,_,rfl⟩ ⟨_,N.get (pb.sub _ (.head _)),rfl,_,rfl⟩ rfl hu (λj h1 h2=> ?_) prog w E Q h
 have hj:j<2:=h1
 rcases j with _ | _ | j
 ·exact λprog w E Q hq=>eqBool_bytes (by rw [decide_eq_true rfl];exact hq)
 ·exact λprog w E Q hq=>eqBool_bytes (by rw [decide_eq_true rfl];exact hq)
 ·exact absurd hj (Nat.not_lt.mpr (Nat.le_add_left _ _))
theorem Sk{n₁ n₂:List (Addr×Obj)}{ka kb:Nat}{ps qs:List (Int×Int)}(N:News h₀ L s.heap news)(pa:Pick news (a,listOf vs.toArray ka) r1)(pb:Pick news (b,listOf us.toArray kb) r2)(Da:DatAll n₁ vs (ps.map pairD))(Db:DatAll n₂ us (qs.map pairD))(sa:∀p∈n₁,p∈news)(sb:∀p∈n₂,p∈news)(e:ps=qs)(hu:A.units+64<cLine)(h:Q (.bool false) s):
  wpAny (model prog w) A (compareOp .NotEq (.ref a) (.ref b)) Q E s:=by
 subst e
 have hk:∀d∈ps.map pairD,kqdOk 8 d=true:=λd hd=>by
  obtain ⟨p,_,rfl⟩:=List.mem_map.mp hd
  rfl
 refine kqd_ne N (pa.sub _ (.head _)) rfl rfl Da sa (pb.sub _ (.head _)) rfl rfl Db sb hk hk hu (by simpa using h)
theorem V4{n₁ n₂:List (Addr×Obj)}{ka kb:Nat}{gss kss:List (List Int)}(N:News h₀ L s.heap news)(pa:Pick news (a,listOf vs.toArray ka) r1)(pb:Pick news (b,listOf us.toArray kb) r2)(Da:DatAll n₁ vs (gss.map λgs=> .tuple (gs.map Dat.int)))(Db:DatAll n₂ us (kss.map λgs=> .tuple (gs.map Dat.int)))(sa:∀p∈n₁,p∈news)(sb:∀p∈n₂,p∈news)(e:gss=kss)(hu:A.units+64<cLine)(h:Q (.bool true) s):
  wpAny (model prog w) A (compareOp .Eq (.ref a) (.ref b)) Q E s:=by
 subst e
 have hk:∀d∈gss.map (λgs=>Dat.tuple (gs.map Dat.int)),kqdOk 8 d=true:=λd hd=>by
  obtain ⟨p,_,rfl⟩:=List.mem_map.mp hd
  rw [kqdOk,List.all_eq_true]
  intro x hx
  obtain ⟨y,_,rfl⟩:=List.mem_map.mp hx
  rfl
 refine kqd_eq N (pa.sub _ (.head _)) rfl rfl Da sa (pb.sub _ (.head _)) rfl rfl Db sb hk hk hu (by simpa using h)
end
section
variable {M:Model}{A:Around}{E:Value->Shared->Prop}{s:Shared}{env:Env}
theorem rOr
  (h:wpR M A (isTrue x env (eval x env)) (λc s'=>match c with | true=>Q true s' | false=>wpR M A (isTrue (.BoolOp .Or rest pos) env whole) Q E s') E s):
  wpR M A (isTrue (.BoolOp .Or (x::rest) pos) env whole) Q E s:=by
 show wpR M A (do
  match BoolOp.Or,<-isTrue x env (eval x env) with
  | .And,false=>pure false
  | .Or,true=>pure true
  | _,_=>allTrue .Or rest env) Q E s
 refine Am (Ao h (λc s' h'=> ?_) λV V x=>x)
 cases c with
 | false=>exact h'
 | true=>exact An h'
theorem Sv(h:Q false s):wpR M A (isTrue (.BoolOp .Or [] pos) env whole) Q E s:=An (a:=false) h
theorem Sq
  (h:wpR M A (eval l env) (λa s₁=>wpR M A (eval r env) (λb s₂=>wpAny M A (compareOp op a b) (λc s₃=>wpAny M A (truthy c) Q E s₃) E s₂) E s₁) E s)
  (hm:markedBehindIn op r (eval r env)=eval r env:=by rfl):wpR M A (isTrue (.Compare l [op] [r] pos) env whole) Q E s:=by
 rw [isTrue_Compare1,hm]
 exact Am (Ao h (λa s₁ h₁=>Am (Cp (Ao h₁ (λb s₂ h₂=>Bd (Am (Mj (Av (wpAny_mono h₂ (λc s₃ h₃=>Cp (Av h₃)) λV V z=>z))))) λV V z=>z))) λV V z=>z)
theorem Ss
  (h:wpR M A (eval x env) (λa s₁=>wpR M A (eval y env) (λb s₂=>wpAny M A (newList [a,b]) Q E s₂) E s₁) E s)
  (hx:starEach [x,y] env= [(false,eval x env),(false,eval y env)]:=by rfl):wpR M A (eval (.List [x,y] pos) env) Q E s:=by
 rw [arm_eval_List,hx]
 show wpR M A (standAt pos>>= λV=>spliced [(false,eval x env),(false,eval y env)]>>= λvs=>newList vs) Q E s
 refine Bd (Am ?_)
 rw [spliced]
 refine Am (Ao h (λa s₁ h₁=> ?_) λV V z=>z)
 refine Am (An (Am (Cp ?_)))
 rw [spliced]
 refine Am (Ao h₁ (λb s₂ h₂=> ?_) λV V z=>z)
 refine Am (An (Am (Cp ?_)))
 rw [spliced]
 exact An (An (An (Av h₂)))
theorem Su(h:wpR M A (isTrue x env (eval x env)) (λc s'=>Q (!c) s') E s):wpR M A (isTrue (.UnaryOp .Not x pos) env whole) Q E s:=by
 show wpR M A (do return !(<-isTrue x env (eval x env))) Q E s
 exact Am (Ao h (λc s' h'=>An h') λV V x=>x)
theorem Sw(h:wpR M A whole (λv s₁=>wpAny M A (truthy v) Q E s₁) E s)
  (he:isTrue e env whole=(do let v<-whole;standAt e.pos;holding [v] (truthy v)):=by rfl):wpR M A (isTrue e env whole) Q E s:=by
 rw [he]
 exact Am (Ao h (λv s₁ h₁=>Bd (Cp (Av h₁))) λV V x=>x)
end
end
section
noncomputable def Iu(w:World)(f:Addr)(k:Nat)(args:Args)(ro:List (Addr×Obj))(atv:Int):Prop:=
 ∀(p:Program) (loose:List Str) (mean:ExcName->Option Value) (mg mb:Str->Option Value) (A A₀:Around) (env:Env) (outer:List Env) (base h₀:Heap) (L:Addr) (m:Str->Option Value) (news:List (Addr×Obj)) (s:Shared) (R:Result->Shared->Prop),
  A.frames=some (env::outer)->env.frame=some L->env.scope.kind= .function->A.handled=none->A.depth+k<recursionLimit->A.units+8*k<cLine->
  Below A₀ base outer h₀->(hd.heap_39 w.params).In h₀->Top p loose mean mg mb h₀->Fr h₀ L s.heap m->News h₀ L s.heap (ro++news)->(∀q∈news,∀r∈ro,q.1≠r.1)->
  (∀e h' tk' dr',Dj w base h₀ (env::outer) L m (ro++news) atv e h'->R (.error (.ref e)) {s with heap:=h',toks:=tk',drawn:=dr'})->
  Ax (model PySem.Challenge.rw_nu0172_01.row.prog w) A (.call (.ref f) args) R s
noncomputable def Gp(w:World)(g:Heap)(L':Addr)(ro:List (Addr×Obj))(atv:Int)(s:Shared)(v:Value)(s':Shared):Prop:=
 ∃e dx T tk1 tk2 x t u m' h' tk' dr',v= .ref e/\s'= {s with heap:=h',toks:=tk',drawn:=dr'}/\Fr g L' h' m'/\News g L' h' ((e,Ar (.ref T) .none dx)::(dx,B6 w tk1 tk2 x t atv u)::ro)/\dx≠e/\∀q∈ro,q.1≠e
theorem Qy{w:World}{base h₀:Heap}{L:Addr}{m:Str->Option Value}{ro news:List (Addr×Obj)}{s s':Shared}{v:Value}{R:Result->Shared->Prop}{atv:Int}{A A₀:Around}{env:Env}{outer:List Env}{qual:Str}{scope:Scope}{f:Addr}{cdv:Value}
  (hfr:env.frame=some L)(hke:env.scope.kind= .function)(B:Below A₀ base outer h₀)(BG:Below A base (env::outer) (hideAll s.heap (ro.map (·.1))))(FG:Fr h₀ L (hideAll s.heap (ro.map (·.1))) m)(N:News h₀ L s.heap (ro++news))(hap:∀q∈news,∀r∈ro,q.1≠r.1)(hk:scope.kind= .function)
  (hA:A= {handled:=none,depth:=A.depth,frames:=some (env::outer),guards:=A.guards,units:=A.units})
  (hR:∀e h' tk' dr',Dj w base h₀ (env::outer) L m (ro++news) atv e h'->R (.error (.ref e)) {s with heap:=h',toks:=tk',drawn:=dr'})
  (hl:Gp w (hideAll s.heap (ro.map (·.1))) s.heap.objs.size ro atv s v s'){M:Model}:
  wpAny M (A.deeper (envOf qual scope s.heap.objs.size f cdv)) (leaving (envOf qual scope s.heap.objs.size f cdv) v) (λV s''=>R (.error v) s'') (λe' s''=>R (.error e') s'') s':=by
 obtain ⟨e,dx,T9,tk1,tk2,x,t,u,m',h',tk',dr',rfl,rfl,F',N',hde,hre⟩:=hl
 refine Kk (s':= {s with heap:=h',toks:=tk',drawn:=dr'}) BG F' N' (λq hq=> ?_) (λh2 R2 U2=> ?_) hk
 ·rcases lC hq with rfl | hq
  ·exact hde
  ·exact hre q hq
 ·refine hR e h2 tk' dr' ⟨hideAll (hideAll s.heap (ro.map (·.1))) (news.map (·.1)),dx,tk1,tk2,x,t,u,?_,λb o q hnf=>U2 b o (of_hideAll _ q) hnf,?_⟩
  ·have Nn:News h₀ L (hideAll s.heap (ro.map (·.1))) news:=λq hq=>by
    have z:=N q (lR _ hq)
    refine ⟨hideAll_get _ z.1 λhm=> ?_,z.2⟩
    obtain ⟨r,hr,e'⟩:=List.mem_map.mp hm
    exact hap q hq r hr e'.symm
   exact (groundX (R:=λV V=>True) (A:=A) (s:= {s with heap:=hideAll s.heap (ro.map (·.1))}) B FG Nn (by rw [hA]) hfr hke).1
  ·refine J8 R2 λq hq=> ?_
   have z:=N q (lR _ hq)
   refine ⟨hideAll_get _ z.1 λhm=> ?_,λhm=> ?_,fresh_of_stays B.stays z.2.2⟩
   ·obtain ⟨r,hr,e'⟩:=List.mem_map.mp hm
    exact hap q hq r hr e'.symm
   ·obtain ⟨env',hev,hf'⟩:=List.mem_filterMap.mp hm
    rcases lC hev with rfl | hev
    ·rw [hfr] at hf';exact z.2.1 (sJ hf').symm
    ·obtain ⟨o,ho',_⟩:=(B.frames.mem (List.mem_filterMap.mpr ⟨env',hev,hf'⟩)).2
     rw [z.2.2] at ho';cases ho'
theorem U1
  (ho:(hd.heap_39 w.params).lookup f=some ⟨oc,od,.func (fnOf name qual params body scope dV kV doc pm an cdv ct),osl⟩)(hcd:codeIn (hd.heap_39 w.params) cdv qual=true)
  (hbind:∀s:Shared,(hd.heap_39 w.params).In s.heap->BindsTo s (fnOf name qual params body scope dV kV doc pm an cdv ct) args binds)(hloc:∀y∈binds,scope.names.lookup y.1=some .local)
  (h:∀(dp un:Nat) (gd:Option (List Code)) (env:Env) (outer:List Env) (base g:Heap) (L':Addr) (h₁:Heap) (p:Program) (loose:List Str) (mean:ExcName->Option Value) (mg mb:Str->Option Value) (s:Shared) (tk:Nat),
   dp+k<recursionLimit->un+8*k<cLine->Below {handled:=none,depth:=dp,frames:=some (env::outer),guards:=gd,units:=un} base (env::outer) g->(hd.heap_39 w.params).In g->Top p loose mean mg mb g->
   Fr g L' h₁ (λy=>binds.reverse.lookup y)->News g L' h₁ ro->
   wpR (model PySem.Challenge.rw_nu0172_01.row.prog w) (Around.deeper {handled:=none,depth:=dp,frames:=some (env::outer),guards:=gd,units:=un} (envOf qual scope L' f cdv)) (execs body (envOf qual scope L' f cdv))
    (λV V=>False) (Gp w g L' ro atv s) {s with heap:=h₁,toks:=tk})
  (hco:scope.isCoroutine=false) (hgen:scope.isGenerator=false) (hk:scope.kind= .function) (hcell:∀x∈scope.names,x.2≠ .cell):Iu w f k args ro atv:=by
 intro p loose mean mg mb A A₀ env outer base h₀ L m news s R hf hfr hke hh hd' hu B X T F N hap hR
 have N1:News h₀ L s.heap ro:=λq hq=>N q (lL _ hq)
 obtain ⟨FG,BG,st,_⟩:=groundX (R:=λV V=>True) B F N1 hf hfr hke
 obtain ⟨hA,dA,fA,gA,uA⟩:=A
 cases hh
 cases hf
 refine Fd (by show dA<_;exact Nat.lt_of_le_of_lt (Nat.le_add_right _ _) hd') (F.keep _ _ (X _ _ ho)) rfl hco hgen rfl (codeRec_of (X.keeps F.keep) hcd) (hbind s (X.keeps F.keep) _ _ _ _ ?_)
 refine wpAny_newFunctionEnv hcell hloc (λh₁ hns₀ hsb₀=>⟨(T.nolimit.keeps F.keep).fresh _ hsb₀,Fe ?_⟩) hk
 have hk₁:∀b o,s.heap.get? b=some o->h₁.get? b=some o:=λb o e=>hsb₀.extBut b o (Nat.ne_of_lt (Heap.lt_size e)) (hPu _ e)
 have Fg:Fr (hideAll s.heap (ro.map (·.1))) s.heap.objs.size h₁ (λy=>binds.reverse.lookup y):=⟨hns₀,λb o e=>hk₁ b o (of_hideAll _ e),Nat.le_of_eq (hideAll_size _ _)⟩
 have Ng:News (hideAll s.heap (ro.map (·.1))) s.heap.objs.size h₁ ro:=λq hq=>⟨hk₁ _ _ (N1 q hq).1,Nat.ne_of_lt (Heap.lt_size (N1 q hq).1),hideAll_none _ (List.mem_map_of_mem hq)⟩
 exact Ao (h dA uA gA env outer base _ _ h₁ p loose mean mg mb s (s.toks+binds.length) hd' hu BG (X.keeps st) (T.keeps st) Fg Ng) (λV V z=>z.elim) (λv s' hl=>Av (Qy hfr hke B BG FG N hap hk rfl hR hl))
theorem Qw(F:Fr g L' h' m')(N:News g L' h' ((e,Ar (.ref T) .none dx)::(dx,B6 w tk1 tk2 x t atv u)::big))(a1:∀q∈big,q.1≠e)(a3:dx≠e)(hs:∀p∈ro,p∈big):
  Gp w g L' ro atv s (.ref e) {s with heap:=h',toks:=tk',drawn:=dr'}:=
 ⟨e,dx,T,tk1,tk2,x,t,u,m',h',tk',dr',rfl,rfl,F,λp hp=>N p ((lC hp).elim (λh=>h▸ .head _) λhp=>(lC hp).elim (λh=>h▸ .tail _ (.head _)) λhp=> .tail _ (.tail _ (hs p hp))),a3,λq hq=>a1 q (hs q hq)⟩
section
variable {prog:Program}{w:World}{A:Around}{E:Value->Shared->Prop}{s:Shared}{env:Env}
theorem Lc
  (h:wpR (model prog w) A (execs body env) (λf s₁=>match f with | .next=>wpR (model prog w) A (execs orelse env) Q E s₁ | f=>Q f s₁)
   (λe s₁=>wpAny (model prog w) A (noteFrame e env) (λV s₂=>wpAny (model prog w) A (setFlight e none) (λV s₃=>wpAny (model prog w) A (handleBy e env (h₀::hs)) Q E s₃) E s₂) E s₁) s):
  wpR (model prog w) A (exec (.Try body (h₀::hs) orelse [] pos) env) Q E s:=by
 rw [arm_exec_Try]
 refine Bd ?_
 refine Am (Wj (Ao h (λf s₁ h₁=> ?_) λe s₁ h₁=> ?_))
 ·cases f with
  | next=>exact h₁
  | _=>exact An h₁
 ·refine Ah (wpAny_mono h₁ (λV s₂ h₂=> ?_) λV V z=>z)
  exact Ah (wpAny_mono h₂ (λV s₃ h₃=>Av h₃) λV V z=>z)
end
end
section
section
variable {C:Cd}{n:Nat}{w:World}{x y name:Str}{px pos p2 p3 p4:Pos}{e e1 e2:PySem.Expr}{es:List PySem.Expr}{body orelse rest:List Stmt}{rs:List (List Stmt)}{S:Si C n w}{K:Flow->Shared->Prop}{d:Drawn}{m:Loc}{l ro new:Led}{a b:Int}{t:Tok}{v f:Value}{vs us:List Value}{P:Value->Prop}{κ:Value->Drawn->Led->Prop}{κb:Bool->Drawn->Led->Prop}{cN cM kd k:Nat}{D D2 fa:Addr}{ns ms:List Int}{g:Obj->Led}{Post:Value->Led->Led->Prop}{op:CmpOp}
theorem At.join(A:At S h m l)(F:Fr S.h₀ S.L h' m)(N:News S.h₀ S.L h' (new++(l++S.own)))(hne:∀p∈new,∀q∈l++S.own,p.1≠q.1):∃l',At S h' m l'/\(∀p∈l,p∈l')/\∀p∈new,p∈l':=by
 have N1:News S.h₀ S.L h' (new++l):=λp hp=>N p ((lA hp).elim (lL _) λh=>lR _ (lL _ h))
 obtain ⟨l',D',hm⟩:=Bx _ (Bg N1)
 exact ⟨l',⟨F,λp hp=>(lA hp).elim (λh=>N1 p ((hm p).mp h)) λh=>N p (lR _ (lR _ h)),D',λp hp q hq=>(lA ((hm q).mp hq)).elim (λh=>(hne q h p (lR _ hp)).symm) (A.O p hp q)⟩,λp hp=>(hm p).mpr (lR _ hp),λp hp=>(hm p).mpr (lL _ hp)⟩
theorem CX.telD0(T:TelD w fa k ⟨vs,[]⟩ [] ro Post)(hro:∀p∈ro,p∈l)(h:∀v d' mu' new l',Post v mu' new->(∀p∈l,p∈l')->(∀p∈new,p∈l')->κ v d' l')(hk:decide (k<=n)=true:=by exact Eq.refl true):CX S d m l (.ref fa) vs κ:=
 ⟨λh9 k9 Q A hq=>T.use0 (S.less (of_decide_eq_true hk)) A.F A.N (λp hp=>lL _ (hro p hp)) λv mu' new h' tk' dr' hP F N V hne=>by
  obtain ⟨l',A',s1,s2⟩:=A.join F (λp hp=>N p (lR _ hp)) hne
  exact hq _ _ _ _ _ (h v dr' mu' new l' hP s1 s2) A'⟩
theorem CXR.tel0(T:TelR w fa k ⟨vs,[]⟩ [] ro Post)(hro:∀p∈ro,p∈l)(h:∀v d' mu' new l',Post v mu' new->(∀p∈l,p∈l')->(∀p∈new,p∈l')->κ v d' l')(hk:decide (k<=n)=true:=by exact Eq.refl true):CXR S d m l (.ref fa) vs κ:=
 ⟨λh9 k9 Q A hq=>T.use0 (S.less (of_decide_eq_true hk)) A.F A.N (λp hp=>lL _ (hro p hp)) λv mu' new h' tk' dr' hP F N V hne=>by
  obtain ⟨l',A',s1,s2⟩:=A.join F (λp hp=>N p (lR _ hp)) hne
  exact hq _ _ _ _ _ (h v dr' mu' new l' hP s1 s2) A'⟩
theorem X.list2(h:X S d m l e1 λv1 d1 l1=>X S d1 m l1 e2 λv2 d2 l2=>∀D,(∀p∈l2,p.1<D)->κ (.ref D) d2 ((D,listOf [v1,v2].toArray 0)::l2))(ok:(Au e1&&Au e2)=true:=by exact Eq.refl true):X S d m l (.List [e1,e2] pos) κ:=
 ⟨λh9 k Q A hq=>List_ (args_cons (h.run h9 k _ A λv1 d1 l1 h1 k1 z A1=>args_cons (z.run h1 k1 _ A1 λv2 d2 l2 h2 k2 z A2=>args_nil (newList_K (vs:= [v1,v2]) A2.F A2.N (λD h' F N hD=>hq _ _ _ _ _ (z D λp hp=>hD p (lL _ hp)) (A2.new F N hD)) (by rw [sizeLine_eq];exact nLe rfl))) (Ad ((Bool.and_eq_true _ _).mp ok).2)) (Ad ((Bool.and_eq_true _ _).mp ok).1))⟩
theorem XR.list2(h:XR S d m l e1 λv1 d1 l1=>XR S d1 m l1 e2 λv2 d2 l2=>∀D,(∀p∈l2,p.1<D)->κ (.ref D) d2 ((D,listOf [v1,v2].toArray 0)::l2))(ok:(Au e1&&Au e2)=true:=by exact Eq.refl true):XR S d m l (.List [e1,e2] pos) κ:=
 ⟨λh9 k Q A hq=>Ss (h.run h9 k _ A λv1 d1 l1 h1 k1 z A1=>z.run h1 k1 _ A1 λv2 d2 l2 h2 k2 z A2=>newList_K (vs:= [v1,v2]) A2.F A2.N (λD h' F N hD=>hq _ _ _ _ _ (z D λp hp=>hD p (lL _ hp)) (A2.new F N hD)) (by rw [sizeLine_eq];exact nLe rfl)) (by rw [Ad ((Bool.and_eq_true _ _).mp ok).1,Ad ((Bool.and_eq_true _ _).mp ok).2];rfl)⟩
theorem XR.f1(hb:Fn x f)(ha:X S d m l e1 λv1 d1 l1=>CXR S d1 m l1 f [v1] κ)(ok:okB C x [e1]=true:=by exact Eq.refl true):XR S d m l (.Call (.Name x p2) [e1] [] pos) κ:=
 ⟨λh9 k Q A hq=>C9 ((Ev.gl hb (Bs ok)).run h9 d k _ A λv h1 k1 hv A1=>by
  subst hv
  exact Dx A1.gd (hb.keep _) (args_cons (ha.run h1 k1 _ A1 λv1 d1 l1 h2 k2 z A2=>args_nil ⟨A2.gd,by rw [List.nil_append];exact z.run h2 k2 Q A2 hq⟩) (Ad (all1 (Aj ok)))) (Ad (all1 (Aj ok))) (Bz (all2 (Aj ok))))⟩
theorem XR.f2(hb:Fn x f)(ha:X S d m l e1 λv1 d1 l1=>X S d1 m l1 e2 λv2 d2 l2=>CXR S d2 m l2 f [v1,v2] κ)(ok:okB C x [e1,e2]=true:=by exact Eq.refl true):XR S d m l (.Call (.Name x p2) [e1,e2] [] pos) κ:=
 ⟨λh9 k Q A hq=>C9 ((Ev.gl hb (Bs ok)).run h9 d k _ A λv h1 k1 hv A1=>by
  subst hv
  exact Dx A1.gd (hb.keep _) (args_cons (ha.run h1 k1 _ A1 λv1 d1 l1 h2 k2 z A2=>args_cons (z.run h2 k2 _ A2 λv2 d2 l2 h3 k3 z3 A3=>args_nil ⟨A3.gd,by rw [List.nil_append];exact z3.run h3 k3 Q A3 hq⟩) (Ad (all1 (all2 (Aj ok))))) (Ad (all1 (Aj ok)))) (Ad (all1 (Aj ok))) (Bz (all2 (Aj ok))))⟩
theorem Ev.lenB(hd:Ev S m l e λv=>∃t,v= .bytes c t)(hl:c.size<=1000000)(ok:okB C (Str.ofString "len") [e]=true:=by exact Eq.refl true):Ev S m l (.Call (.Name (Str.ofString "len") p2) [e] [] pos) (isI c.size):=
 Ev.b1 G4 hd (λv ⟨t,hv⟩ d=>⟨λh k Q A hq=>by
  subst hv
  exact len_bytes (nTr hl (nLe rfl)) (hq _ _ _ _ _ ⟨⟨_,rfl⟩,rfl,rfl⟩ A)⟩) ok
theorem Qe(hi:IntsAre vs gs):kf_ints vs=true:=by
 induction hi with
 | nil=>rfl
 | cons n t r ih=>exact ih
theorem Qd{vs:List Value}{gs:List Int}(hi:IntsAre vs gs)(hn:gs.Nodup){j:Nat}{k:Int}(hj:gs[j]?=some k):kf_at k vs=some j:=by
 induction hi generalizing j with
 | nil=>cases hj
 | @cons n t vs gs r ih=>
  rw [List.nodup_cons] at hn
  cases j with
  | zero=>
   obtain rfl:=sJ hj
   unfold kf_at
   rw [show isInt n (.int n t)=true by simp [isInt]]
   rfl
  | succ j=>
   have hj':gs[j]?=some k:=hj
   have hne:n≠k:=λe=>hn.1 (e▸List.mem_of_getElem? hj')
   unfold kf_at
   rw [show isInt k (.int n t)=false by simp [isInt,hne],ih hn.2 hj']
   rfl
theorem Ev.index{j:Nat}(hd:Ev S m l (.Name x px) (· = .ref D))(hm:(D,listOf vs.toArray cN)∈l)(hi:IntsAre vs ns)(hn:ns.Nodup)(hl:ns.length<=1000)(hj:ns[j]?=some a)(h1:Ev S m l e1 (isI a))(ok:Au e1=true:=by exact Eq.refl true)(hp:(p2.endLine==pos.line)=true:=by exact Eq.refl true):Ev S m l (.Call (.Attribute (.Name x px) (Str.ofString "index") p2) [e1] [] pos) (isI j):=
 Ev.ofX λd=>X.lm1 hd hm PySem.F.slot_list_index PySem.F.type_list_index (X.evI h1 λt=>⟨λh k Q A hq=>kf_index A.N1 hm (Qe hi) (Qd hi hn hj) rfl (by show vs.length<=_;rw [sizeLine_eq,IntsAre.length hi];exact nTr hl (nLe rfl)) (hq _ _ _ _ _ ⟨⟨_,rfl⟩,rfl,λV h=>h⟩ A)⟩) ok hp
theorem CX.extend(U9:U D (listOf vs.toArray cN) l g)(hb:(D2,listOf us.toArray cM)∈l)(h0:us≠ [])(hz:vs.length+us.length<=100000)(h:∀c',κ .none d (g (listOf (vs++us).toArray c'))):CX S d m l (.builtin "list.extend") [.ref D,.ref D2] κ:=
 ⟨λh9 k Q A hq=>kl_extend A.F A.N (lL _ hb) rfl (λe=>h0 (List.eq_nil_of_length_eq_zero e)) (Ih (A.updF U9) _) (by
  rw [Bool.and_eq_true,List.size_toArray,List.size_toArray]
  rintro ⟨_,q⟩
  revert q
  unfold Builtin.List.listTooLong
  have z:=sizeLine_eq
  simp
  omega) (by show vs.length<=_;rw [sizeLine_eq];omega) (by rw [List.size_toArray,List.size_toArray,sizeLine_eq];omega) λh' F' N'=>hq _ _ _ _ _ (h _) (A.upd U9 F' N')⟩
structure BR(S:Si C n w)(d:Drawn)(m:Loc)(l:Led)(e:PySem.Expr)(κ:Bool->Drawn->Led->Prop):Prop where
 run:∀h k (Q:Bool->Shared->Prop),At S h m l->(∀b d' l' h' k',κ b d' l'->At S h' m l'->Q b ⟨h',S.g,d',k',S.o⟩)->wpR (mdl w) S.A (PySem.isTrue e S.env (eval e S.env)) Q S.E ⟨h,S.g,d,k,S.o⟩
structure CM(S:Si C n w)(d:Drawn)(m:Loc)(l:Led)(op:CmpOp)(v u:Value)(b:Bool):Prop where
 run:∀h k (Q:Value->Shared->Prop),At S h m l->(∀h' k',At S h' m l->Q (.bool b) ⟨h',S.g,d,k',S.o⟩)->wpAny (mdl w) S.A (compareOp op v u) Q S.E ⟨h,S.g,d,k,S.o⟩
theorem WR.ifNot(hb:BR S d m l e λb d' l'=>b=false/\WR S K d' m l' orelse (rest::rs)):WR S K d m l (.If e body orelse pos::rest) rs:=
 ⟨λh k A=>Az (rIf (hb.run h k _ A λb d' l' h' k' z A'=>by
  obtain ⟨e,z⟩:=z
  subst e
  exact z.run h' k' A'))⟩
theorem BR.or(h:BR S d m l e λb d' l'=>b=false/\BR S d' m l' (.BoolOp .Or es pos) κb):BR S d m l (.BoolOp .Or (e::es) pos) κb:=
 ⟨λh9 k Q A hq=>rOr (h.run h9 k _ A λb d' l' h' k' z A'=>by
  obtain ⟨e,z⟩:=z
  subst e
  exact z.run h' k' Q A' hq)⟩
theorem BR.orNil(h:κb false d l):BR S d m l (.BoolOp .Or [] pos) κb:=⟨λh9 k Q A hq=>Sv (hq _ _ _ _ _ h A)⟩
theorem BR.cmp(h:XR S d m l e1 λv1 d1 l1=>XR S d1 m l1 e2 λv2 d2 l2=>CM S d2 m l2 op v1 v2 c/\κb c d2 l2)(hm:Af e2=true:=by exact Eq.refl true):BR S d m l (.Compare e1 [op] [e2] pos) κb:=
 ⟨λh9 k Q A hq=>Sq (h.run h9 k _ A λv1 d1 l1 h1 k1 z A1=>z.run h1 k1 _ A1 λv2 d2 l2 h2 k2 z A2=>z.1.run h2 k2 _ A2 λh3 k3 A3=>wpAny_truthy_bool (hq _ _ _ _ _ z.2 A3)) (by unfold markedBehindIn;rw [C6 hm];first | done | rfl)⟩
theorem XR.evV(he:Ev S m l e (· =v))(h:κ v d l):XR S d m l e κ:=XR.any (X.evV he h)
theorem Si.units(S:Si C n w)(hn:decide (8<=n)=true:=by exact Eq.refl true):S.A.units+64<cLine:=by
 refine (S.less (of_decide_eq_true hn)).on λV V V V V V V V V V V V V V V V V hu=> ?_
 exact hu
theorem CM.pairs{n₁ n₂:Led}{ps:List (Int×Int)}(ha:(D,listOf vs.toArray cN)∈l)(hb:(D2,listOf us.toArray cM)∈l)(Da:DatAll n₁ vs (ps.map pairD))(Db:DatAll n₂ us (ps.map pairD))(sa:∀p∈n₁,p∈l)(sb:∀p∈n₂,p∈l)(hn:decide (8<=n)=true:=by exact Eq.refl true):CM S d m l .NotEq (.ref D) (.ref D2) false:=by
 obtain ⟨_,pa⟩:=As ha
 obtain ⟨_,pb⟩:=As hb
 exact ⟨λh9 k Q A hq=>Sk A.N1 pa pb Da Db sa sb rfl (S.units hn) (hq _ _ A)⟩
theorem CM.bytes2(ha:(D,listOf [Value.bytes b1 t1,Value.bytes b2 t2].toArray cN)∈l)(hb:(D2,listOf [Value.bytes b1 u1,Value.bytes b2 u2].toArray cM)∈l)(hn:decide (8<=n)=true:=by exact Eq.refl true):CM S d m l .NotEq (.ref D) (.ref D2) false:=by
 obtain ⟨_,pa⟩:=As ha
 obtain ⟨_,pb⟩:=As hb
 exact ⟨λh9 k Q A hq=>Np A.N1 pa pb (Nat.lt_of_le_of_lt (Nat.le_add_right _ _) (S.units hn)) (hq _ _ A)⟩
theorem CM.tup(ha:(D,Ap vs)∈l)(hb:(D2,Ap us)∈l)(hi:IntsAre vs ns)(hj:IntsAre us ns)(hn:decide (8<=n)=true:=by exact Eq.refl true):CM S d m l .NotEq (.ref D) (.ref D2) false:=by
 obtain ⟨_,pa⟩:=As ha
 obtain ⟨_,pb⟩:=As hb
 exact ⟨λh9 k Q A hq=>tup_ne A.N1 pa pb hi hj rfl (S.units hn) (hq _ _ A)⟩
theorem CM.bytes:CM S d m l .NotEq (.bytes c t) (.bytes c u) false:=
 ⟨λh9 k Q A hq=>ne_bytes (by rw [show (c.toList !=c.toList)=false from bne_self_eq_false _];exact hq _ _ A)⟩
theorem X.told(hx:X S d m l e λv d' l'=>∃(X0 dx T:Addr) (tk0:Tok) (vs:List Value),v= .ref X0/\CovIn w l' X0 dx T tk0 vs/\∀l'',(∀p∈l',p∈l'')->κ (.ref T) d' l'')(e0:∀env:Env,eval (.Call (.Attribute e (Str.ofString "told") p2) [] [] pos) env=(do
   let ov<-eval e env
   standAt p2.atName
   methodCall e (Str.ofString "told") p2 pos env ov 0 (backTo pos (starEach [] env)) []):=by intro _;rfl) (hp:(p2.endLine==pos.line)=true:=by exact Eq.refl true) (hk:decide (4<=n)=true:=by exact Eq.refl true):X S d m l (.Call (.Attribute e (Str.ofString "told") p2) [] [] pos) κ:=
 ⟨λh k Q A hq=>MethodCall_ (hx.run h k _ A λo d1 l1 h1 k1 z A1=>by
  obtain ⟨X0,dx,T,tk0,vs,ho,hc,z⟩:=z
  subst ho
  exact method_inst A1.F S.gd (InstAt.of_news A1.N1 hc.a hc.b) (mth_told.pg w) (mth_told.fi w) (mth_told.fn w) rfl (callWith_K0 A1.gd (mth_told.keep w) ((CX.tel0 (κ:=κ) (Mb (vs:=vs) (tk0:=tk0) (dx:=dx)) hc.all (λv mu' new l' hP hs V=>by
   obtain ⟨e1,_,_⟩:=hP
   exact e1▸z l' hs) hk).run h1 k1 Q A1 hq))) (Hv (e0 _) hp)⟩
end
section
variable {cn:Str}{cs:Scope}{fa D:Addr}{cc:Value}{n:Nat}{w:World}{x:Str}{px pos p2 py:Pos}{e iter elt:PySem.Expr}{body rest:List Stmt}{rs:List (List Stmt)}{S:Si (P4 cn cs fa cc) n w}{K:Flow->Shared->Prop}{d:Drawn}{m:Loc}{l:Led}{vs:List Value}{oD:Obj}
structure ForV(S:Si (P4 cn cs fa cc) n w)(K:Flow->Shared->Prop)(d:Drawn)(m:Loc)(l:Led)(x:Str)(px:Pos)(body rest:List Stmt)(rs:List (List Stmt))(v:Value):Prop where
 run:∀h k,At S h m l->wpAny (mdl w) S.A (pyIter v) (Dg PySem.Challenge.rw_nu0172_01.row.prog w S.A S.env (.Name x px) body (KontR S K (rest::rs))) S.E ⟨h,S.g,d,k,S.o⟩
theorem WR.forX(he:X S d m l e λv d' l'=>ForV S K d' m l' x px body rest rs v)(ok:Af e=true:=by exact Eq.refl true):WR S K d m l (.For (.Name x px) e body [] pos::rest) rs:=
 ⟨λh9 k9 A9=>Az (F0 (he.run h9 k9 _ A9 λv d' l' h k z A=>z.run h k A) λV=>fold_plain ok)⟩
theorem ForV.seq(J:Nat->Fam)(hJ:∀i G,(∀m l,(∀G',J i G'->G' m l)->G m l)->J i G)(hs:Src vs oD)(hk:∀i,J i λV l'=>(D,oD)∈l')(h0:∀G,J 0 G->G m l)
  (turn:∀(o9:Led) (K':Flow->Shared->Prop) (i:Nat) (v:Value),vs[i]?=some v->(∀l v d,Rt S K d l v->Rt (S.noE o9) K' d l v)->J (i+1) (λm l=>∀d,WR (S.noE o9) K' d m l [] [])->J i λm l=>∀d,WR (S.noE o9) K' d (mN x v m) l body [])
  (done:J vs.length λm l=>∀d,WR S K d m l rest rs)(hx:locOk (P4 cn cs fa cc) x=true:=by exact Eq.refl true):ForV S K d m l x px body rest rs (.ref D):=
 ⟨λh8 k8 A8=>(Wv.seq (h0 _ (hk 0)) hs).run h8 k8 _ A8 λI fp St h k it=>LpR J hJ hk h0 it.A it.W it.obj it.keep it.off it.I0 it.IL it.st (λo9 K' i v hi hv hr hn=>hJ _ _ λm1 l1 hG h1 d1 k1 oI V V A1=>wpAny_bind (wpAny_of_eq (by rfl) (PyProof.Rows.assign_Name (Si.store (S:=S.noE o9) A1 hx λh2 k2 A2=>(hG _ (turn o9 K' i v hv hr hn) _).run h2 k2 A2)))) done⟩
theorem WR.forSeq(J:Nat->Fam)(hJ:∀i G,(∀m l,(∀G',J i G'->G' m l)->G m l)->J i G)(he:Ev S m l e (· = .ref D))(hs:Src vs oD)(hk:∀i,J i λV l'=>(D,oD)∈l')(h0:∀G,J 0 G->G m l)
  (turn:∀(o9:Led) (K':Flow->Shared->Prop) (i:Nat) (v:Value),vs[i]?=some v->(∀l v d,Rt S K d l v->Rt (S.noE o9) K' d l v)->J (i+1) (λm l=>∀d,WR (S.noE o9) K' d m l [] [])->J i λm l=>∀d,WR (S.noE o9) K' d (mN x v m) l body [])
  (done:J vs.length λm l=>∀d,WR S K d m l rest rs)(hx:locOk (P4 cn cs fa cc) x=true:=by exact Eq.refl true)(ok:Af e=true:=by exact Eq.refl true):WR S K d m l (.For (.Name x px) e body [] pos::rest) rs:=
 WR.forX (X.evV he (ForV.seq J hJ hs hk h0 turn done hx)) ok
theorem WR.comp(hc:CR S d m l elt x px iter ts sc pos λys l'=>∀D2,(∀p∈l',p.1≠D2)->WR S K d (mN y (.ref D2) m) ((D2,PyProof.Rows.LCg.lst ys)::l') rest rs)(hy:locOk (P4 cn cs fa cc) y=true:=by exact Eq.refl true)(hp:Af iter=true:=by exact Eq.refl true)
  (hsw:∀S:Si (P4 cn cs fa cc) n w,swapsWith (.ListComp elt [⟨.Name x px,iter,ts,0⟩] sc pos) (some (.Name y py)) p2.line S.env=pure true:=by intro _;rfl):WR S K d m l (.Assign [.Name y py] (.ListComp elt [⟨.Name x px,iter,ts,0⟩] sc pos) p2::rest) rs:=
 ⟨λh9 k A=>Az (Av (Ji A hc (λys l' D2 h' k' z n A'=>(z D2 n).run h' k' A') hy hp hsw))⟩
end
theorem Hw(N:News h₀ L h news)(ha:(a,oa)∈news)(hb:(b,ob)∈news)(hne:oa≠ob):a≠b:=λq=>by
 have h1:=(N _ ha).1
 have h2:=(N _ hb).1
 rw [show a=b from q] at h1
 rw [show h.get? b=some ob from h2] at h1
 exact hne (sJ h1).symm
theorem Oo{w:World}{h₀ h:Heap}{L G X dx T:Addr}{tk0:Tok}{vs vg:List Value}{cg:Nat}{news:Led}(N:News h₀ L h news)(hG:(G,listOf vg.toArray cg)∈news)(hc:∀p∈Al w X dx T tk0 vs,p∈news):∀q∈Al w X dx T tk0 vs,G≠q.1:=λq hq=>by
 refine Hw N hG (hc q hq) λe=> ?_
 rcases lC hq with e2 | hq
 ·subst e2;cases e
 rcases lC hq with e2 | hq
 ·subst e2;exact nomatch congrArg Obj.data e
 ·rw [List.mem_singleton.mp hq] at e;exact absurd (congrArg Obj.cls e) (of_decide_eq_false (by with_unfolding_all rfl))
structure XT{cn:Str}{cs:Scope}{fa:Addr}{cc:Value}{n:Nat}{w:World}(S:Si (P4 cn cs fa cc) n w)(K:Flow->Shared->Prop)(ro:Led)(Post:Value->Led->Prop)(G:Gx):Prop where
 b:Gb G w (n+1)
 h:Gh G w S.h₀
 A:S.A=Around.deeper G.A (envOf cn cs S.L fa cc)
 cl:S.cl= []
 E:S.E=λV V=>False
 own:S.own= []
 K:∀v s',(∃h0 d0 k0,LeaveX G.Ll S.h₀ S.L ro Post ⟨h0,S.g,d0,k0,S.o⟩ v s')->K (.ret v) s'
theorem WR.tail{cn:Str}{cs:Scope}{fa:Addr}{cc:Value}{n:Nat}{w:World}{S:Si (P4 cn cs fa cc) n w}{K:Flow->Shared->Prop}{ro l:Led}{Post:Value->Led->Prop}{G:Gx}{d:Drawn}{m:Loc}{b:List Stmt}(X9:XT S K ro Post G)
  (z:∀(g:Heap) (L:Addr) (gens:Array GenState) (os:OsState) (h:Heap) (k:Nat),Gh G w g->(∀v s',(∃h0 d0 k0,LeaveX G.Ll g L ro Post ⟨h0,gens,d0,k0,os⟩ v s')->K (.ret v) s')->Fr g L h m->News g L h l->
   wpR (mdl w) (Around.deeper G.A (envOf cn cs L fa cc)) (execs b (envOf cn cs L fa cc)) K (λV V=>False) ⟨h,gens,d,k,os⟩):WR S K d m l b []:=
 ⟨λh k A=>by
  have z:=z S.h₀ S.L S.g S.o h k X9.h X9.K A.F A.N1
  show wpR (mdl w) S.A (execs b (envX cn cs S.L fa cc S.cl)) K S.E _
  rw [X9.A,X9.cl,X9.E];exact z⟩
theorem L7
  (binds:List (Str×Value))
  (ho:(hd.heap_39 w.params).lookup f=some ⟨oc,od,.func (fnOf name qual params body scope dV kV doc pm an cdv ct),osl⟩)(hcd:codeIn (hd.heap_39 w.params) cdv qual=true)
  (hbind:∀s:Shared,(hd.heap_39 w.params).In s.heap->BindsTo s (fnOf name qual params body scope dV kV doc pm an cdv ct) args binds)
  (hkind:(binds.all λy=>scope.names.lookup y.1==some .local||scope.names.lookup y.1==some .cell)=true)(hcl:∀a,cellsFrom a scope.names []= [])(hbl:∀p∈binds,bindL (λx=>scope.names.lookup x) binds (λV=>none) p.1=some p.2)
  (h:∀(S:Si (P4 qual scope f cdv) j w) (K:Flow->Shared->Prop) (d:Drawn) (m:Loc) (l₁:Led) G,XT S K ro Post G->(∀p∈ro,p∈l₁)->CurM m binds (WR S K d m l₁ body []))
  (hco:scope.isCoroutine=false)(hgen:scope.isGenerator=false)(hk:scope.kind= .function):TelX w f (j+1) args ro Post:=by
 refine Ve ho hcd hbind hkind (by rw [hcl];exact .nil) (λL'=>congrArg (envX qual scope L' f cdv) (hcl _)) (λG g L' h₁ s tk R a1 a2 F N hlt=> ?_) hco hgen hk
 obtain ⟨l₁,hD,hm⟩:=Bx _ (Bg N)
 have H:Here w (Around.deeper G.A (envOf qual scope L' f cdv)) j g L':=Here.of a2.B a2.XX a2.T rfl rfl rfl hk (zn3 88604346307872564072737 rfl a1.d:G.dp+1+j<_) (zn3 90731934770765406008922401 rfl a1.u:G.un+3+8*j<_)
 exact Ao ((CurM.go (h {A:=_,L:=L',lc:=L',cl:= [],h₀:=g,g:=s.gens,o:=s.os,E:=λV V=>False,own:= [],H:=H,hE:=λV V V h=>h.elim} (λfl s'=>LeaveX G.Ll g L' ro Post s (match fl with | .ret v=>v | _=> .none) s') s.drawn _ l₁ G ⟨a1,a2,rfl,rfl,rfl,rfl,λv s' z=>z.elim λV z=>z.elim λV z=>z.elim λV z=>⟨z.ex⟩⟩ λp hp=>(hm p).mpr hp) λp hp=>hbl p hp).run h₁ tk ⟨F,λp hp=>N p ((hm p).mp (List.append_nil l₁▸hp)),hD,λp hp=>no hp⟩) (λV V z=>z) λV V z=>z.elim
end
section
noncomputable abbrev Df(f0:Value)(b:Bool)(TI TO:Addr):Obj:= {cls:= .type "zip",dict:=none,data:= .fields #[f0,.bool b,.bool false,.ref TI,.ref TO],slots:= #[]}
section
variable {prog:Program}{w:World}{A:Around}{E:Value->Shared->Prop}{s:Shared}
theorem Wi(ho:s.heap.get? a=some o)(h:Q (some o) s):wpAny (model prog w) A (loadIfAlive a) Q E s:=λΓ p hΓ=>by
 show Q (s.heap.get? a) s
 rw [ho];exact h
theorem K0{z TI TO T:Addr}{b:Bool}{oT:Obj}{Q:Bool->Shared->Prop}(hz:s.heap.get? z=some (Df (rawInt T) b TI TO))(hT:s.heap.get? T=some oT)
  (h:∀h',h'.get? z=some (Df (rawInt T) true TI TO)->Heap.SameBut z s.heap h'->Q false {s with heap:=h'}):wpAny (model prog w) A (Builtin.SmallTypes.ownedTupleIsFree (.ref z)) Q E s:=by
 unfold Builtin.SmallTypes.ownedTupleIsFree
 refine wpAny_bind (wpAny_field hz rfl (x:=rawInt T) rfl ?_)
 refine wpAny_bind (Wi (by simpa using hT) ?_)
 refine wpAny_bind (wpAny_field hz rfl (x:= .bool b) rfl ?_)
 cases b with
 | true=>
  refine wpAny_ite_false (by decide) ?_
  exact wpAny_pure (h s.heap hz (.refl ..))
 | false=>
  refine wpAny_ite_true (by decide) ?_
  refine wpAny_bind (wpAny_setField_rec hz (by simp) λh₁ hz₁ hs₁=> ?_)
  exact wpAny_pure (h h₁ hz₁ hs₁)
theorem Xc{z TI TO i1 i2 l1 l2 T:Addr}{f:Bool}{k1 k2:Nat}{xs ys:Array Value}{x y:Value}{oT:Obj}{Q:Value->Shared->Prop}(D:ZipApart z TI TO i1 i2 l1 l2)
  (hz:s.heap.get? z=some (Df (rawInt T) f TI TO))(hT:s.heap.get? T=some oT)(hTI:IsPair s.heap TI (.ref i1) (.ref i2))
  (h1:s.heap.IsListIter i1 l1 k1)(h2:s.heap.IsListIter i2 l2 k2)(hl1:s.heap.IsList l1 xs)(hl2:s.heap.IsList l2 ys)(hx:xs[k1]?=some x)(hy:ys[k2]?=some y)
  (hQ:∀h',h'.get? z=some (Df (rawInt T) true TI TO)->h'.IsListIter i1 l1 (k1+1)->h'.IsListIter i2 l2 (k2+1)->IsPair h' s.heap.objs.size x y->h'.objs.size=s.heap.objs.size+1->
   (∀c o,c≠z->c≠i1->c≠i2->s.heap.get? c=some o->h'.get? c=some o)->Q (.ref s.heap.objs.size) {s with heap:=h'}):
  wpAny (model prog w) A (Builtin.«zip.__next__» ⟨[.ref z],[]⟩) (λfin s'=>∃v,fin= .done (.ret v)/\Q v s') E s:=by
 show wpAny _ _ (field (.ref z) 2>>=_) _ _ _
 refine wpAny_bind (wpAny_field hz rfl (x:= .bool false) rfl ?_)
 refine wpAny_bind (wpAny_field hz rfl (x:= .ref TI) rfl ?_)
 refine wpAny_bind (wpAny_seqItems hTI rfl ?_)
 refine wpAny_bind (K0 hz hT λh₁ hz₁ hs₁=> ?_)
 refine wpAny_bind ?_
 simp only [<-Array.forIn_toList,List.forIn_cons,List.forIn_nil]
 refine wpAny_bind (wpAny_bind ?_)
 with_reducible refine wpAny_holding ?_
 show wpAny _ _ (Builtin.SmallTypes.nextOf (.ref i1)>>=_) _ _ _
 refine wpAny_bind (wpAny_nextOf_list_item (h1.extBut hs₁.extBut D.i1z) (hl1.extBut hs₁.extBut D.l1z) hx λh₂ h1₂ hs₂=>wpAny_pure (wpAny_pure ?_))
 refine wpAny_bind ?_
 with_reducible refine wpAny_bind ?_
 with_reducible refine wpAny_holding ?_
 show wpAny _ _ (Builtin.SmallTypes.nextOf (.ref i2)>>=_) _ _ _
 refine wpAny_bind (wpAny_nextOf_list_item ((h2.extBut hs₁.extBut D.i2z).extBut hs₂.extBut D.i12.symm)
  ((hl2.extBut hs₁.extBut D.l2z).extBut hs₂.extBut D.l2i1) hy λh₃ h2₃ hs₃=>wpAny_pure (wpAny_pure ?_))
 refine wpAny_pure ?_
 have hsz:h₃.objs.size=s.heap.objs.size:=by rw [hs₃.1,hs₂.1,hs₁.1]
 have hz₃:h₃.get? z=some (Df (rawInt T) true TI TO):=hs₃.extBut _ _ D.i2z.symm (hs₂.extBut _ _ D.i1z.symm hz₁)
 have h1₃:h₃.IsListIter i1 l1 (k1+1):=h1₂.extBut hs₃.extBut D.i12
 refine wpAny_bind (wpAny_newTuple ?_ (by show 2<=sizeLine;rw [sizeLine_eq];decide))
 show wpAny _ _ (ret _) _ _ _
 refine wpAny_pure ⟨_,rfl,?_⟩
 rw [hsz]
 refine hQ _ (hPu _ hz₃) (by obtain ⟨o,e,r⟩:=h1₃;exact ⟨o,hPu _ e,r⟩) (by obtain ⟨o,e,r⟩:=h2₃;exact ⟨o,hPu _ e,r⟩) ?_ ?_ λc o c1 c2 c3 e=>hPu _ (hs₃.extBut _ _ c3 (hs₂.extBut _ _ c2 (hs₁.extBut _ _ c1 e)))
 ·show Heap.get? _ _=_
  rw [<-hsz]
  exact Heap.get?_push_size _ rfl
 ·rw [Heap.size_push,hsz]
theorem Xb{z TI TO i1 i2 l1 l2 T:Addr}{f:Bool}{k1:Nat}{xs:Array Value}{oT:Obj}{Q:Fin->Shared->Prop}(hh:A.handled=none)(D:ZipApart z TI TO i1 i2 l1 l2)
  (hz:s.heap.get? z=some (Df (rawInt T) f TI TO))(hT:s.heap.get? T=some oT)(hTI:IsPair s.heap TI (.ref i1) (.ref i2))
  (h1:s.heap.IsListIter i1 l1 k1)(hl1:s.heap.IsList l1 xs)(hx:xs[k1]?=none)
  (hE:∀h' e,(∀c o,c≠z->c≠TO->c≠i1->c≠i2->s.heap.get? c=some o->h'.get? c=some o)->(∃o,h'.get? e=some o/\o.cls= .type "StopIteration")->E (.ref e) {s with heap:=h'}):
  wpAny (model prog w) A (Builtin.«zip.__next__» ⟨[.ref z],[]⟩) Q E s:=by
 show wpAny _ _ (field (.ref z) 2>>=_) _ _ _
 refine wpAny_bind (wpAny_field hz rfl (x:= .bool false) rfl ?_)
 refine wpAny_bind (wpAny_field hz rfl (x:= .ref TI) rfl ?_)
 refine wpAny_bind (wpAny_seqItems hTI rfl ?_)
 refine wpAny_bind (K0 hz hT λh₁ hz₁ hs₁=> ?_)
 refine wpAny_bind ?_
 simp only [<-Array.forIn_toList,List.forIn_cons,List.forIn_nil]
 refine wpAny_bind (wpAny_bind ?_)
 with_reducible refine wpAny_holding ?_
 show wpAny _ _ (Builtin.SmallTypes.nextOf (.ref i1)>>=_) _ _ _
 refine wpAny_bind (wpAny_nextOf_list_end hh (h1.extBut hs₁.extBut D.i1z) (hl1.extBut hs₁.extBut D.l1z) hx λh₂ e hs₂ he=> ?_)
 exact hE h₂ e (λc o c1 V c3 V x=>hs₂ _ _ c3 (hs₁.extBut _ _ c1 x)) he
noncomputable def ZipSt(z TI TO i1 i2 l1 l2:Addr)(xs ys:Array Value)(k:Nat)(h:Heap):Prop:=
 IsPair h TI (.ref i1) (.ref i2)/\(∃a b,IsPair h TO a b)/\h.IsListIter i1 l1 k/\h.IsListIter i2 l2 k/\h.IsList l1 xs/\h.IsList l2 ys/\
 ((k=0/\IsZip h z TI TO .none)\/∃(T:Addr) (f:Bool) (oT:Obj),h.get? z=some (Df (rawInt T) f TI TO)/\h.get? T=some oT)
theorem Ms(D:ZipApart z TI TO i1 i2 l1 l2)(hl1':l1≠TI)(hl2':l2≠TI)
  (Z:ZipSt z TI TO i1 i2 l1 l2 xs ys k s.heap)(hx:xs[k]?=some x)(hy:ys[k]?=some y)
  (hQ:∀h',ZipSt z TI TO i1 i2 l1 l2 xs ys (k+1) h'->IsPair h' s.heap.objs.size x y->h'.objs.size=s.heap.objs.size+1->
   (∀c o,c∉ [z,TO,i1,i2]->s.heap.get? c=some o->h'.get? c=some o)->Q (some (.ref s.heap.objs.size)) {s with heap:=h'}):
  wpAny (model prog w) A (pyNext (.ref z)) Q E s:=by
 obtain ⟨a1,⟨a,b,a2⟩,a3,a4,a5,a6,a7⟩:=Z
 have out:∀ {c:Addr},c∉ [z,TO,i1,i2]->c≠z/\c≠TO/\c≠i1/\c≠i2:=λ {c} hc=>by
  simp only [List.mem_cons,List.not_mem_nil,or_false,not_or] at hc;exact hc
 rcases a7 with ⟨rfl,hz⟩ | ⟨T,f,oT,hz,hT⟩
 ·refine wpAny_pyNext_zip_item D hz a1 a2 a3 a4 a5 a6 hx hy λh' b1 b2 b3 b4 b5 b6 b7=> ?_
  refine hQ h' ⟨b7 _ _ D.TIz D.TITO D.TIi1 D.TIi2 a1,⟨_,_,b2⟩,b3,b4,?_,?_,.inr ⟨s.heap.objs.size,false,_,b1,b5⟩⟩ b5 b6 λc o hc e=>b7 c o (out hc).1 (out hc).2.1 (out hc).2.2.1 (out hc).2.2.2 e
  ·obtain ⟨o,e,r⟩:=a5;exact ⟨o,b7 _ _ D.l1z D.l1TO D.l1i1 D.l1i2 e,r⟩
  ·obtain ⟨o,e,r⟩:=a6;exact ⟨o,b7 _ _ D.l2z D.l2TO D.l2i1 D.l2i2 e,r⟩
 ·have hTy:s.TypeIs (.ref z) "zip":=⟨_,hz,rfl⟩
  refine wpAny_bind (wpAny_attempt (wpAny_callSpecial?_slot (name:=Str.ofString "__next__") hTy F.slot_zip_next
   (wpAny_call_entry F.slot_zip_next hTy F.entry_zip_next
    (Xc D hz hT a1 a3 a4 a5 a6 hx hy λh' b1 b3 b4 b5 b6 b7=>wpAny_pure ?_) (F.args_zip_next_1 _))))
  have tu:∃o,h'.get? T=some o:=by
   by_cases e1:T=z
   ·exact ⟨_,by rw [e1];exact b1⟩
   by_cases e2:T=i1
   ·obtain ⟨o,e,_⟩:=b3;exact ⟨o,by rw [e2];exact e⟩
   by_cases e3:T=i2
   ·obtain ⟨o,e,_⟩:=b4;exact ⟨o,by rw [e3];exact e⟩
   exact ⟨_,b7 _ _ e1 e2 e3 hT⟩
  obtain ⟨oT',hT'⟩:=tu
  refine hQ h' ⟨b7 _ _ D.TIz D.TIi1 D.TIi2 a1,⟨_,_,b7 _ _ D.TOz D.TOi1 D.TOi2 a2⟩,b3,b4,?_,?_,.inr ⟨T,true,_,b1,hT'⟩⟩ b5 b6 λc o hc e=>b7 c o (out hc).1 (out hc).2.2.1 (out hc).2.2.2 e
  ·obtain ⟨o,e,r⟩:=a5;exact ⟨o,b7 _ _ D.l1z D.l1i1 D.l1i2 e,r⟩
  ·obtain ⟨o,e,r⟩:=a6;exact ⟨o,b7 _ _ D.l2z D.l2i1 D.l2i2 e,r⟩
theorem Mt(hh:A.handled=none)(D:ZipApart z TI TO i1 i2 l1 l2)
  (Z:ZipSt z TI TO i1 i2 l1 l2 xs ys k s.heap)(hx:xs[k]?=none)
  (hQ:∀h',(∀c o,c∉ [z,TO,i1,i2]->s.heap.get? c=some o->h'.get? c=some o)->Q none {s with heap:=h'}):
  wpAny (model prog w) A (pyNext (.ref z)) Q E s:=by
 obtain ⟨a1,⟨a,b,a2⟩,a3,a4,a5,a6,a7⟩:=Z
 have out:∀ {c:Addr},c∉ [z,TO,i1,i2]->c≠z/\c≠TO/\c≠i1/\c≠i2:=λ {c} hc=>by
  simp only [List.mem_cons,List.not_mem_nil,or_false,not_or] at hc;exact hc
 rcases a7 with ⟨rfl,hz⟩ | ⟨T,f,oT,hz,hT⟩
 ·exact wpAny_pyNext_zip_end hh D hz a1 a2 a3 a4 a5 a6 (.inl hx) λh' hk=>hQ h' λc o hc e=>hk c o (out hc).1 (out hc).2.1 (out hc).2.2.1 (out hc).2.2.2 e
 ·have hTy:s.TypeIs (.ref z) "zip":=⟨_,hz,rfl⟩
  unfold pyNext
  refine wpAny_bind (wpAny_attempt (wpAny_callSpecial?_slot (name:=Str.ofString "__next__") hTy F.slot_zip_next
   (wpAny_call_entry F.slot_zip_next hTy F.entry_zip_next (Xb hh D hz hT a1 a3 a5 hx λh' e hk he=> ?_) (F.args_zip_next_1 _))))
  obtain ⟨o,ho,hc⟩:=he
  refine wpAny_bind (wpAny_isInstance (T:="StopIteration") (b:=true) ⟨o,ho,hc⟩ isSubtype_stop ?_)
  exact wpAny_pure (hQ _ λc o hc e=>hk c o (out hc).1 (out hc).2.1 (out hc).2.2.1 (out hc).2.2.2 e)
namespace ZF
theorem no_len:typeLookup (.type "zip") "__len__"=pure none:=by rw [typeLookup_type,builtinLookup_eq_fast];kernel_rfl
theorem no_hint:typeLookup (.type "zip") "__length_hint__"=pure none:=by rw [typeLookup_type,builtinLookup_eq_fast];kernel_rfl
end ZF
theorem ZipSt.at(Z:ZipSt z TI TO i1 i2 l1 l2 xs ys k h)(hS:S∉ [z,TI,TO,i1,i2,l1,l2])(hk:∀b o,b≠S->h.get? b=some o->h'.get? b=some o)(hO:∀o,h.get? S=some o->∃o',h'.get? S=some o'):
  ZipSt z TI TO i1 i2 l1 l2 xs ys k h':=by
 simp only [List.mem_cons,List.not_mem_nil,or_false,not_or] at hS
 obtain ⟨n1,n2,n3,n4,n5,n6,n7⟩:=hS
 obtain ⟨a1,⟨a,b,a2⟩,⟨o3,e3,r3⟩,⟨o4,e4,r4⟩,⟨o5,e5,r5⟩,⟨o6,e6,r6⟩,a7⟩:=Z
 refine ⟨hk _ _ (Ne.symm n2) a1,⟨a,b,hk _ _ (Ne.symm n3) a2⟩,⟨o3,hk _ _ (Ne.symm n4) e3,r3⟩,⟨o4,hk _ _ (Ne.symm n5) e4,r4⟩,⟨o5,hk _ _ (Ne.symm n6) e5,r5⟩,⟨o6,hk _ _ (Ne.symm n7) e6,r6⟩,?_⟩
 rcases a7 with ⟨e,hz⟩ | ⟨T,f,oT,hz,hT⟩
 ·exact .inl ⟨e,hk _ _ (Ne.symm n1) hz⟩
 ·by_cases e:T=S
  ·obtain ⟨o',ho'⟩:=hO oT (by rw [<-e];exact hT)
   exact .inr ⟨T,f,o',hk _ _ (Ne.symm n1) hz,by rw [e];exact ho'⟩
  ·exact .inr ⟨T,f,oT,hk _ _ (Ne.symm n1) hz,hk _ _ e hT⟩
noncomputable def Ec(xs ys:Array Value)(S:Addr)(h:Heap)(vs:List Value):Prop:=∀(j:Nat) (v:Value),vs[j]?=some v->∃(T:Addr) (x y:Value),v=Value.ref T/\xs[j]?=some x/\ys[j]?=some y/\IsPair h T x y/\S<T
theorem W9(hh:A.handled=none)(D:ZipApart z TI TO i1 i2 l1 l2)(d1:l1≠TI)(d2:l2≠TI)(hS:S∉ [z,TI,TO,i1,i2,l1,l2])(hb:∀c∈ [z,TO,i1,i2],c<S)(hsz:xs.size=ys.size)(hn:xs.size<=1000)(g₀:Heap)
  (hR:∀h' vs c,h'.get? S=some (listOf vs.toArray c)->vs.length=xs.size->Ec xs ys S h' vs->(∀b o,b∉S:: [z,TO,i1,i2]->g₀.get? b=some o->h'.get? b=some o)->R (.ok (.ret .none)) {s with heap:=h'}):
  ∀(k i:Nat) (h:Heap) (vs:List Value) (c:Nat),i+k=xs.size->vs.length=i->ZipSt z TI TO i1 i2 l1 l2 xs ys i h->h.get? S=some (listOf vs.toArray c)->Ec xs ys S h vs->(∀b o,b∉S:: [z,TO,i1,i2]->g₀.get? b=some o->h.get? b=some o)->
   codeAny (model prog w) A (.builtin "list.extend.loop" ⟨[.ref S,.ref z,.none],[]⟩) R {s with heap:=h}:=by
 have hSw:S∉ [z,TO,i1,i2]:=λhm=>absurd (hb _ hm) (Nat.lt_irrefl _)
 intro k
 induction k with
 | zero=>
  intro i h vs c hi hl Z hg G K
  refine codeAny_builtin F.entry_extend_loop ?_
  rw [Around.under_plainId F.plain_extend_loop _]
  show wpAny _ A.in1 (pyNext (.ref z)>>=_) _ _ _
  refine wpAny_bind (Mt (s:= {s with heap:=h}) hh D Z (Array.getElem?_eq_none (by exact zn2 11051187863840 rfl hi)) λh' hk=> ?_)
  refine wpAny_pure (hR h' vs c (hk _ _ hSw hg) (by exact Ac (zn3 74113533537809367328 rfl hi hl) (zn3 75194362263939088672 rfl hi hl)) (λj v hv=> ?_) λb o hb' e=>hk b o (λhm=>hb' (.tail _ hm)) (K b o hb' e))
  obtain ⟨T,x,y,e1,e2,e3,e4,e5⟩:=G j v hv
  exact ⟨T,x,y,e1,e2,e3,hk _ _ (λhm=>absurd (Nat.lt_trans (hb _ hm) e5) (Nat.lt_irrefl _)) e4,e5⟩
 | succ k ih=>
  intro i h vs c hi hl Z hg G K
  have hx:xs[i]?=some xs[i]:=Array.getElem?_eq_getElem (by exact zn3 48506076749922593 rfl hi)
  have hy:ys[i]?=some ys[i]:=Array.getElem?_eq_getElem (by exact zn4 88678133285233562255649 rfl hsz hi)
  refine codeAny_builtin F.entry_extend_loop ?_
  rw [Around.under_plainId F.plain_extend_loop _]
  show wpAny _ A.in1 (pyNext (.ref z)>>=_) _ _ _
  have hlt:S<h.objs.size:=Heap.lt_size hg
  refine wpAny_bind (Ms (s:= {s with heap:=h}) D d1 d2 Z hx hy λh' Z' pr hsz' hk=> ?_)
  have hg':=hk _ _ hSw hg
  show wpAny _ A.in1 (updateSeq S (·.push (.ref h.objs.size))>>=_) _ _ _
  refine wpAny_bind ?_
  refine wpAny_updateSeq hg' rfl (wpAny_pure ⟨plainId_quiet F.plain_extend_loop _,?_⟩) (by rw [List.size_toArray,sizeLine_eq];omega) (by rw [Array.size_push,List.size_toArray,sizeLine_eq];omega)
  have up:∀b o,b≠S->h'.get? b=some o->(h'.update S (Obj.mapSeq (·.push (.ref h.objs.size)))).get? b=some o:=λb o hb' e=>(Heap.get?_update_other _ _ (Ne.symm hb')).trans e
  have gS:=PySem.IsL.update hg' (·.push (.ref h.objs.size))
  rw [List.push_toArray] at gS
  refine ih (i+1) _ (vs++ [.ref h.objs.size]) _ (by exact Ac (zn3 88604346308972075700512 rfl hi) (zn3 13083412029643868995872 rfl hi)) (by rw [List.length_append,hl];rfl) (Z'.at hS up λo V=>⟨_,gS⟩) gS (λj v hv=> ?_) λb o hb' e=>up b o (λq=>hb' (q▸ .head _)) (hk b o (λhm=>hb' (.tail _ hm)) (K b o hb' e))
  by_cases hj:j<vs.length
  ·rw [List.getElem?_append_left hj] at hv
   obtain ⟨T,x,y,e1,e2,e3,e4,e5⟩:=G j v hv
   exact ⟨T,x,y,e1,e2,e3,up _ _ (Nat.ne_of_gt e5) (hk _ _ (λhm=>absurd (Nat.lt_trans (hb _ hm) e5) (Nat.lt_irrefl _)) e4),e5⟩
  ·have hj':j=vs.length:=by
    have:=(List.getElem?_eq_some_iff.mp hv).1
    rw [List.length_append,List.length_singleton] at this
    exact Ac (zn2 388815102443808 rfl this) (zn2 1379959072 rfl hj)
   subst hj'
   rw [List.getElem?_append_right (Nat.le_refl _),Nat.sub_self] at hv
   cases hv
   exact ⟨h.objs.size,_,_,rfl,by rw [hl];exact hx,by rw [hl];exact hy,up _ _ (Nat.ne_of_gt hlt) pr,hlt⟩
theorem Oa(hh:A.handled=none)(D:ZipApart z TI TO i1 i2 l1 l2)(d1:l1≠TI)(d2:l2≠TI)(Z:ZipSt z TI TO i1 i2 l1 l2 xs ys 0 s.heap)(hz:IsZip s.heap z TI TO .none)(hsz:xs.size=ys.size)(hn:xs.size<=1000)
  (hQ:∀h' vs c,h'.get? s.heap.objs.size=some (listOf vs.toArray c)->vs.length=xs.size->Ec xs ys s.heap.objs.size h' vs->(∀b o,b∉ [z,TO,i1,i2]->s.heap.get? b=some o->h'.get? b=some o)->Q (.ref s.heap.objs.size) {s with heap:=h'}):
  wpAny (model prog w) A (call (.type "list") [.ref z]) Q E s:=by
 have low:∀b∈ [z,TI,TO,i1,i2,l1,l2],b<s.heap.objs.size:=by
  obtain ⟨a1,⟨a,b,a2⟩,⟨o3,e3,r3⟩,⟨o4,e4,r4⟩,⟨o5,e5,r5⟩,⟨o6,e6,r6⟩,a7⟩:=Z
  intro b hb
  simp only [List.mem_cons,List.not_mem_nil,or_false] at hb
  rcases hb with rfl | rfl | rfl | rfl | rfl | rfl | rfl
  ·exact Heap.lt_size hz
  ·exact Heap.lt_size a1
  ·exact Heap.lt_size a2
  ·exact Heap.lt_size e3
  ·exact Heap.lt_size e4
  ·exact Heap.lt_size e5
  ·exact Heap.lt_size e6
 have hSf:s.heap.objs.size∉ [z,TI,TO,i1,i2,l1,l2]:=λhm=>Nat.lt_irrefl _ (low _ hm)
 refine callType_codes (Q₁:=λobj s₁=>obj= .ref s.heap.objs.size/\s₁= {s with heap:=s.heap.push {cls:= .type "list",data:= .seq #[]}}) F.called_list (F.typeCall_list_1 _) F.entry_list_init
  (code_list_new _ ⟨rfl,rfl⟩) λobj s₁ h₁=> ?_
 obtain ⟨rfl,rfl⟩:=h₁
 have hS:(s.heap.push {cls:= .type "list",data:= .seq #[]}).get? s.heap.objs.size=some {cls:= .type "list",data:= .seq #[]}:=Heap.get?_push_size _ rfl
 refine ⟨⟨_,hS,rfl⟩,F.args_list_init_2 _ _,?_⟩
 have hSz:s.heap.objs.size≠z:=λe=>hSf (e▸ .head _)
 show wpAny _ _ (do let old<-Builtin.List.listItems (.ref s.heap.objs.size);Builtin.List.listUpdate (.ref s.heap.objs.size) (λV=> #[]);letGo old.toList.reverse;Builtin.List.listExtendWith (.ref s.heap.objs.size) (.ref z) .none) _ _ _
 refine wpAny_bind ?_
 unfold Builtin.List.listItems
 refine wpAny_bind (wpAny_seqItems hS rfl (wpAny_pure ?_))
 refine wpAny_bind (wpAny_updateSeq hS rfl ?_)
 have hS₂:=Heap.get?_update_self (Obj.mapSeq (λV=>(#[]:Array Value))) hS rfl
 have oth:∀b o,b≠s.heap.objs.size->s.heap.get? b=some o->((s.heap.push {cls:= .type "list",data:= .seq #[]}).update s.heap.objs.size (Obj.mapSeq (λV=>(#[]:Array Value)))).get? b=some o:=
  λb o hb e=>(Heap.get?_update_other _ _ (Ne.symm hb)).trans (hPu _ e)
 refine wpAny_bind (wpAny_letGo ?_)
 generalize (s.heap.push {cls:= .type "list",data:= .seq #[]}).update s.heap.objs.size (Obj.mapSeq (λV=>(#[]:Array Value)))=g at hS₂ oth
 have hz₂:IsZip g z TI TO .none:=oth _ _ (Ne.symm hSz) hz
 have hTy:Shared.TypeIs {s with heap:=g} (.ref z) "zip":=⟨_,hz₂,rfl⟩
 unfold Builtin.List.listExtendWith
 refine wpAny_bind (wpAny_typeOf hTy ?_)
 have h1:Builtin.List.listSameRef (.ref s.heap.objs.size) (.ref z)=false:=by simp [Builtin.List.listSameRef,hSz]
 have h2:(Value.type "zip"==Value.type "list")=false:=by decide
 have h3:(Value.type "zip"==Value.type "tuple")=false:=by decide
 refine wpAny_ite_false (decide_eq_false (by rw [h1,h2,h3];exact Bool.false_ne_true)) ?_
 refine wpAny_bind (wpAny_pyIter_zip (s:= {s with heap:=g}) hz₂ ?_)
 refine wpAny_bind (wpAny_holding ?_)
 unfold Builtin.List.listLengthHint
 refine wpAny_bind (wpAny_specialOf hTy ZF.no_len ?_)
 refine wpAny_bind (wpAny_specialOf hTy ZF.no_hint ?_)
 refine wpAny_pure ?_
 show wpAny _ _ (rule "list.extend.makes-room">>= λV=>Builtin.List.listTouch (.ref s.heap.objs.size)>>= λV=>
  again (.builtin "list.extend.loop" ⟨[.ref s.heap.objs.size,.ref z,.none],[]⟩)) _ _ _
 refine wpAny_bind (wpAny_rule ?_)
 refine wpAny_bind ?_
 show wpAny _ _ (updateSeq s.heap.objs.size (·.push .none)>>= λV=>updateSeq s.heap.objs.size (·.pop)) _ _ _
 refine wpAny_bind (wpAny_updateSeq hS₂ rfl ?_)
 have hS₃:=Heap.get?_update_self (Obj.mapSeq (·.push Value.none)) hS₂ rfl
 refine wpAny_updateSeq (hz:=by seq_fits) hS₃ rfl ?_
 have hS₄:=Heap.get?_update_self (Obj.mapSeq (·.pop)) hS₃ rfl
 have oth4:∀b o,b≠s.heap.objs.size->s.heap.get? b=some o->((g.update s.heap.objs.size (Obj.mapSeq (·.push Value.none))).update s.heap.objs.size (Obj.mapSeq (·.pop))).get? b=some o:=
  λb o hb e=>(Heap.get?_update_other _ _ (Ne.symm hb)).trans ((Heap.get?_update_other _ _ (Ne.symm hb)).trans (oth b o hb e))
 refine wpAny_pure ⟨plainId_quiet F.plain_extend_loop _,?_⟩
 refine W9 (A:=A.in1) (R:=wants (λr s₂=>r=Value.none/\Q (Value.ref s.heap.objs.size) s₂) E) (s:=s) hh D d1 d2 hSf (λc hc=>low c ?_) hsz hn s.heap (λh' vs c e1 e2 e3 e4=>⟨rfl,hQ h' vs c e1 e2 e3 λb o hb e=>e4 b o (λhm=> ?_) e⟩) xs.size 0 _ [] _ (Nat.zero_add _) rfl (Z.at hSf oth4 λo e=>⟨_,hS₄⟩) hS₄ (λj v hv=>by simp at hv) λb o hb e=>oth4 b o (λq=>hb (q▸ .head _)) e
 ·simp only [List.mem_cons,List.not_mem_nil,or_false] at hc ⊢
  rcases hc with h | h | h | h<;>simp [h]
 ·rcases lC hm with rfl | hm
  ·exact absurd (Heap.lt_size e) (Nat.lt_irrefl _)
  ·exact hb hm
noncomputable def Gy(L:Addr)(news:List (Addr×Obj))(h:Heap)(z l1 l2:Addr)(xs ys:List Value):Prop:=
 ∃TI TO i1 i2,ZipApart z TI TO i1 i2 l1 l2/\l1≠TI/\l2≠TI/\ZipSt z TI TO i1 i2 l1 l2 xs.toArray ys.toArray 0 h/\IsZip h z TI TO .none/\(∀c∈ [z,TO,i1,i2],L<c/\∀q∈news,q.1<c)/\L<TI
section
variable {h₀:Heap}{L l1 l2:Addr}{m:Str->Option Value}{news r1 r2:List (Addr×Obj)}{xs ys:List Value}{c1 c2:Nat}{Q:Value->Shared->Prop}
theorem Ij(F:Fr h₀ L s.heap m)(N:News h₀ L s.heap news)(p1:Pick news (l1,listOf xs.toArray c1) r1)(p2:Pick news (l2,listOf ys.toArray c2) r2)
  (h:∀z h',Fr h₀ L h' m->News h₀ L h' news->Gy L news h' z l1 l2 xs ys->Q (.ref z) {s with heap:=h'}):wpAny (model prog w) A (call (.type "zip") [.ref l1,.ref l2]) Q E s:=by
 have g1:=(N _ (p1.sub _ (.head _))).1
 have g2:=(N _ (p2.sub _ (.head _))).1
 have t1: @LT.lt Nat instLTNat l1 s.heap.objs.size:=Heap.lt_size g1
 have t2: @LT.lt Nat instLTNat l2 s.heap.objs.size:=Heap.lt_size g2
 have tL:L<s.heap.objs.size:=F.ns.lt
 have tN:∀q∈news,q.1<s.heap.objs.size:=λq hq=>Heap.lt_size (N q hq).1
 refine call_zip_2 (xs:=xs.toArray) (ys:=ys.toArray) ⟨_,g1,rfl,_,rfl⟩ ⟨_,g2,rfl,_,rfl⟩ λh' a1 a2 a3 a4 a5 a6 a7=> ?_
 refine h _ h' (F.keeps a7) (N.grown a7) ⟨_,_,_,_,⟨?_,?_,?_,?_,?_,?_,?_,?_,?_,?_,?_,?_,?_,?_,?_,?_,?_,?_⟩,?_,?_,⟨a2,⟨_,_,a3⟩,a4,a5,⟨_,a7 _ _ g1,rfl,_,rfl⟩,⟨_,a7 _ _ g2,rfl,_,rfl⟩,.inl ⟨rfl,a1⟩⟩,a1,?_,Nat.lt_add_right _ tL⟩
 all_goals first
  | (show @Ne Nat _ _;omega)
  | (intro c hc;simp only [List.mem_cons,List.not_mem_nil,or_false] at hc;rcases hc with rfl | rfl | rfl | rfl<;>first | exact ⟨tL,tN⟩ | exact ⟨Nat.lt_add_right _ tL,λq hq=>Nat.lt_add_right _ (tN q hq)⟩)
theorem Xa(i1:IntsAre us as)(i2:IntsAre ws bs)(hl:as.length=bs.length)(e1:vs.length=as.length)(G:Ec us.toArray ws.toArray S h' vs):
  ∃tl,DatAll tl vs ((as.zip bs).map pairD)/\(∀p∈tl,h'.get? p.1=some p.2/\S<p.1):=by
 suffices key:∀(n:Nat) (vs:List Value) (as bs:List Int) (us ws:List Value),n=vs.length->IntsAre us as->IntsAre ws bs->as.length=bs.length->vs.length=as.length->Ec us.toArray ws.toArray S h' vs->
   ∃tl,DatAll tl vs ((as.zip bs).map pairD)/\(∀p∈tl,h'.get? p.1=some p.2/\S<p.1) from key _ vs as bs us ws rfl i1 i2 hl e1 G
 intro n
 induction n with
 | zero=>
  intro vs as bs us ws hn i1 i2 hl e1 G
  have:vs= []:=List.eq_nil_of_length_eq_zero hn.symm
  subst this
  have:as= []:=List.eq_nil_of_length_eq_zero e1.symm
  subst this
  exact ⟨[],.nil,λV h=>no h⟩
 | succ n ih=>
  intro vs as bs us ws hn i1 i2 hl e1 G
  obtain ⟨v,vs,rfl⟩:∃v r,vs=v::r:=by cases vs with | nil=>cases hn | cons v r=>exact ⟨v,r,rfl⟩
  cases i1 with
  | nil=>cases e1
  | cons a ta j1=>
   cases i2 with
   | nil=>cases hl
   | cons b tb j2=>
    obtain ⟨tl,D,P⟩:=ih vs _ _ _ _ (by simpa using hn) j1 j2 (by simpa using hl) (by simpa using e1) λj v hv=>by
     obtain ⟨T,x,y,q1,q2,q3,q4,q5⟩:=G (j+1) v (by simpa using hv)
     exact ⟨T,x,y,q1,by simpa using q2,by simpa using q3,q4,q5⟩
    obtain ⟨T,x,y,rfl,q2,q3,q4,q5⟩:=G 0 v rfl
    simp only [List.getElem?_toArray,List.getElem?_cons_zero,Option.some.injEq] at q2 q3
    subst q2 q3
    refine ⟨(T,Ap [.int a ta,.int b tb])::tl,.cons (.tuple (.head _) (.cons (.int a ta) (.cons (.int b tb) .nil))) (D.mono λp hp=> .tail _ hp),λp hp=> ?_⟩
    rcases lC hp with rfl | hp
    ·exact ⟨q4,q5⟩
    ·exact P p hp
theorem Q6(hh:A.handled=none)(F:Fr h₀ L s.heap m)(N:News h₀ L s.heap news)(Z:Gy L news s.heap z l1 l2 xs ys)(i1:IntsAre xs as)(i2:IntsAre ys bs)(hl:as.length=bs.length)(hn:as.length<=1000)
  (h:∀D vs c tl h',Fr h₀ L h' m->News h₀ L h' ((D,listOf vs.toArray c)::(news++tl))->DatAll tl vs ((as.zip bs).map pairD)->(∀q∈news,q.1<D)->(∀p∈tl,D<p.1)->Q (.ref D) {s with heap:=h'}):wpAny (model prog w) A (call (.type "list") [.ref z]) Q E s:=by
 obtain ⟨TI,TO,i1',i2',D,d1,d2,Zs,hz,hb,_⟩:=Z
 have l1':=IntsAre.length i1
 have l2':=IntsAre.length i2
 have tL:L<s.heap.objs.size:=F.ns.lt
 refine Oa hh D d1 d2 Zs hz (by simp only [List.size_toArray];exact Ac (zn4 114778019846187984650528 rfl hl l1' l2') (zn4 113671216257296507109664 rfl hl l1' l2')) (by simp only [List.size_toArray];exact zn2 39964670898499963161986892064 rfl hn l1') λh' vs c e1 e2 e3 e4=> ?_
 obtain ⟨tl,hD,hP⟩:=Xa i1 i2 hl (by rw [e2,List.size_toArray];exact Ac (zn2 34663858464 rfl l1') (zn2 1310753056 rfl l1')) e3
 have out:∀b,h₀.get? b≠none\/b=L\/(∃q∈news,q.1=b)->b∉ [z,TO,i1',i2']:=λb hb' hm=>by
  rcases hb' with h1 | rfl | ⟨q,hq,rfl⟩
  ·cases e:h₀.get? b with
   | none=>exact h1 e
   | some o=>exact absurd (Nat.lt_of_lt_of_le (Heap.lt_size e) F.above) (Nat.not_lt.mpr (Nat.le_of_lt (hb b hm).1))
  ·exact Nat.lt_irrefl _ (hb _ hm).1
  ·exact Nat.lt_irrefl _ ((hb _ hm).2 q hq)
 have F':Fr h₀ L h' m:=by
  obtain ⟨oL,es,ep,hL,r⟩:=F.ns
  exact ⟨⟨oL,es,ep,e4 _ _ (out L (.inr (.inl rfl))) hL,r⟩,λb o e=>e4 b o (out b (.inl (by rw [e];exact λq=>nsm q))) (F.keep b o e),F.above⟩
 refine h s.heap.objs.size vs c tl h' F' (λp hp=> ?_) hD (λq hq=>Heap.lt_size (N q hq).1) λp hp=>(hP p hp).2
 have fresh:∀b,s.heap.objs.size<=b->b≠L/\h₀.get? b=none:=λb hb'=>⟨Nat.ne_of_gt (Nat.lt_of_lt_of_le tL hb'),Heap.get?_none_of_le (nTr F.above (nTr (Nat.le_of_lt tL) hb'))⟩
 rcases lC hp with rfl | hp
 ·exact ⟨e1,fresh _ (Nat.le_refl _)⟩
 ·rcases lA hp with hp | hp
  ·exact ⟨e4 _ _ (out _ (.inr (.inr ⟨p,hp,rfl⟩))) (N p hp).1,(N p hp).2⟩
  ·exact ⟨(hP p hp).1,fresh _ (Nat.le_of_lt (hP p hp).2)⟩
end
end
end
section
open PyProof.Rows.LCg PyProof.Rows.LCt
section
variable {prog:Program}{w:World}{A:Around}{E:Value->Shared->Prop}{s:Shared}{h₀:Heap}{L:Addr}{m:Str->Option Value}{news rest:List (Addr×Obj)}{G:Addr}{vs:List Value}{gs:List Int}{c:Nat}{k:Int}{t:Tok}{Q:Value->Shared->Prop}
theorem Iv(gs:List Int)(k:Int):gs.any (· ==k)=decide (k∈gs):=by
 rw [Bool.eq_iff_iff,List.any_eq_true,decide_eq_true_eq]
 constructor
 ·rintro ⟨x,hx,e⟩;rw [<-eq_of_beq e];exact hx
 ·exact λh=>⟨k,h,beq_self_eq_true k⟩
end
section
variable {C:Cd}{n:Nat}{w:World}{pos:Pos}{e e1 e2:PySem.Expr}{S:Si C n w}{m:Loc}{l:Led}{D:Addr}{a:Int}{t:Tok}{vs:List Value}{ns:List Int}{c:Nat}
theorem Bv.isIn(h1:Ev S m l e1 (isI a))(h2:Ev S m l e2 (· = .ref D))(hm:(D,listOf vs.toArray c)∈l)(hi:IntsAre vs ns)(hp:Af e2=true:=by exact Eq.refl true):Bv S m l (.Compare e1 [.In] [e2] pos) (a∈ns):=
 ⟨λh d k Q A hq=>wpAny_isTrue_Compare1 (h1.run h d k _ A λv1 h1 k1 ⟨t,p1⟩ A1=>h2.run h1 d k1 _ A1 λv2 h2 k2 p2 A2=>by
  subst p1 p2
  exact in_list_ints (News.isList A2.N1 hm) hi (wpAny_truthy_bool (hq _ h2 k2 (by rw [Iv];exact decide_eq_true_iff) A2))) (C6 hp)⟩
theorem Bv.notIn(h1:Ev S m l e1 (isI a))(h2:Ev S m l e2 (· = .ref D))(hm:(D,listOf vs.toArray c)∈l)(hi:IntsAre vs ns)(hp:Af e2=true:=by exact Eq.refl true):Bv S m l (.Compare e1 [.NotIn] [e2] pos) (a∉ns):=
 ⟨λh d k Q A hq=>wpAny_isTrue_Compare1 (h1.run h d k _ A λv1 h1 k1 ⟨t,p1⟩ A1=>h2.run h1 d k1 _ A1 λv2 h2 k2 p2 A2=>by
  subst p1 p2
  exact notin_list_ints (News.isList A2.N1 hm) hi (wpAny_truthy_bool (hq _ h2 k2 (by rw [Iv,<-decide_not];exact decide_eq_true_iff) A2))) (C6 hp)⟩
theorem G6:Bi (Str.ofString "zip") (.type "zip"):=⟨λw=>by k_is,by rfl⟩
theorem X.listZip(h1:Ev S m l e1 (· = .ref l1))(h2:Ev S m l e2 (· = .ref l2))(m1:(l1,listOf xs.toArray c1)∈l)(m2:(l2,listOf ys.toArray c2)∈l)(i1:IntsAre xs as)(i2:IntsAre ys bs)(hl:as.length=bs.length)(hn:as.length<=1000)
  (h:∀D vs c tl l',DatAll tl vs ((as.zip bs).map pairD)->(∀p∈l,p∈l')->(D,listOf vs.toArray c)∈l'->(∀p∈tl,p∈l')->(∀q∈l,q.1<D)->(∀p∈tl,D<p.1)->κ (.ref D) d l')
  (ok:okB C (Str.ofString "zip") [e1,e2]=true:=by exact Eq.refl true)(ok2:glbOk C (Str.ofString "list")=true:=by exact Eq.refl true):X S d m l (.Call (.Name (Str.ofString "list") p2) [.Call (.Name (Str.ofString "zip") p3) [e1,e2] [] p4] [] pos) κ:=
 ⟨λh9 k Q A hq=>Call_ ((Ev.bi Fc ok2).run h9 d k _ A λv h1' k1 hv A1=>by
  subst hv
  refine PyProof.Rows.callWith_type1 (args_cons (Call_ ((Ev.bi G6 (Bs ok)).run h1' d k1 _ A1 λv h2' k2 hv A2=> ?_) Bm) (Ad rfl)) (Ad rfl) rfl
  subst hv
  refine PyProof.Rows.callWith_type1 (args_cons (h1.run h2' d k2 _ A2 λva h3 k3 e3 A3=>args_cons (h2.run h3 d k3 _ A3 λvb h4 k4 e4 A4=>args_nil ?_) (Ad (all1 (all2 (Aj ok))))) (Ad (all1 (Aj ok)))) (Ad (all1 (Aj ok))) (Bz (all2 (Aj ok)))
  subst e3 e4
  obtain ⟨_,q1⟩:=As m1
  obtain ⟨_,q2⟩:=As m2
  refine Ij A4.F A4.N (q1.app S.own) (q2.app S.own) λz h5 F5 N5 Z=>args_nil ?_
  refine Q6 S.hh F5 N5 Z i1 i2 hl hn λD vs c tl h6 F6 N6 hD lt1 lt2=> ?_
  have N7:News S.h₀ S.L h6 ((D,listOf vs.toArray c)::(tl++l)):=λp hp=>N6 p ((lC hp).elim (λe=>e▸ .head _) λhp=> .tail _ ((lA hp).elim (lR _) λh=>lL _ (lL _ h)))
  obtain ⟨l',D',hm⟩:=Bx _ (Bg N7)
  exact hq _ _ _ _ _ (h D vs c tl l' hD (λp hp=>(hm p).mpr (.tail _ (lR _ hp))) ((hm _).mpr (.head _)) (λp hp=>(hm p).mpr (.tail _ (lL _ hp))) (λq hq=>lt1 q (lL _ hq)) lt2) ⟨F6,λp hp=>(lA hp).elim (λh=>N7 p ((hm p).mp h)) λh=>N6 p (.tail _ (lL _ (lR _ h))),D',λp hp q hq=>by
   have ho:=lt1 p (lR _ hp)
   rcases lC ((hm q).mp hq) with e | hq
   ·exact e▸Nat.ne_of_lt ho
   ·exact (lA hq).elim (λh=>Nat.ne_of_lt (Nat.lt_trans ho (lt2 q h))) (A4.O p hp q)⟩) Bm⟩
end
theorem Vx(hi:IntsAre vg gs)(hl:gs.length<=60)(hbe:(gs.filter λg=>decide (g- 1∉gs)).length=(gs.filter λg=>decide (g+1∉gs)).length):
  TelD w 406 8 ⟨[.ref G],[]⟩ [] [(G,listOf vg.toArray cg)]
   (λv mu' new=>∃D vs c tl,v= .ref D/\mu'= []/\new=(D,listOf vs.toArray c)::tl/\DatAll tl vs (((gs.filter λg=>decide (g- 1∉gs)).zip (gs.filter λg=>decide (g+1∉gs))).map pairD)/\∀p∈tl,D<p.1):=by
 have hfl:=List.length_filter_le (λg=>decide (g- 1∉gs)) gs
 refine' Ib (j:=7) (y:=Str.ofString "glyphs") (vy:= .ref G) [(Str.ofString "glyphs",.ref G)] [] ?k6 ?k7 ?k9 ?kB ?kC ?kv ?kl ?_ ?c2 ?c3 ?c4
 case k6=>k_is
 case k7=>k_is
 case k9=>exact λV V=>BindsTo.of_eq rfl
 case kB=>exact rfl
 case kC=>exact λV=>rfl
 case kv=>exact rfl
 case kl=>exact (λV=>no)
 case c2=>exact rfl
 case c3=>exact rfl
 case c4=>exact rfl
 intro S K d m l₁ c o hcl hc ho hro hK
 have hG:=hro _ (.head _)
 have hz:gs.length<=1000:=zn1 69932211674207125792 rfl hl
 have kc:S.cl.lookup (Str.ofString "glyphs")=some c:=by rw [hcl];rfl
 refine W.comp (CR.ofT (Cu kc) (Mine.X.evV (Ev.cell kc hc ho) ⟨rfl,CmT.filter (P:=λg=>g- 1∉gs) (f:=λa=>a) hG .list hi (λS' a t V hI=>Bv.notIn (Ev.sub (hI.nm _ _ _).toI Ev.int) (Ev.cell (hI.cl▸B9 kc rfl) hc ho) hG hi) (λS' a t V V hI=>(hI.nm _ _ _).toI) hz λys hy D1 V=> ?_⟩))
 refine W.comp (CR.ofT (Cu kc) (Mine.X.evV (Ev.cell kc (.tail _ hc) ho) ⟨rfl,CmT.filter (P:=λg=>g+1∉gs) (f:=λa=>a) (.tail _ hG) .list hi (λS' a t V hI=>Bv.notIn (Ev.add (hI.nm _ _ _).toI Ev.int) (Ev.cell (hI.cl▸B9 kc rfl) (.tail _ hc) ho) (.tail _ hG) hi) (λS' a t V V hI=>(hI.nm _ _ _).toI) hz λyt hyt D2 V=> ?_⟩))
 rw [List.map_id'] at hy hyt
 refine W.retX (Mine.X.listZip (Ev.nameV rfl) (Ev.nameV rfl) (.tail _ (.head _)) (.head _) hy hyt hbe (nTr hfl hz) λD9 v9 c9 tl9 l9 d9 s1 s2 s3 lt1 lt2=> ?_)
 have hGD:=lt1 _ (.tail _ (.tail _ hG))
 exact hK _ d _ _ ⟨D9,v9,c9,tl9,rfl,rfl,rfl,d9,lt2⟩ (λp hp r hr=>(lC hp).elim (λe=>e▸lS hr▸hGD) λhp=>lS hr▸Nat.lt_trans hGD (lt2 p hp)) (λp hp=>(lC hp).elim (λe=>e▸s2) (s3 p)) λp hp=>s1 p (.tail _ (.tail _ hp))
end
section
namespace ZF
theorem getattr_none:typeLookup (.type "zip") "__getattr__"=pure none:=by rw [typeLookup_type,builtinLookup_eq_fast];kernel_rfl
theorem keys_none:typeLookup (.type "zip") "keys"=pure none:=by rw [typeLookup_type,builtinLookup_eq_fast];kernel_rfl
theorem entry_getattribute:entryFor table "zip.__getattribute__"=some Builtin.«object.__getattribute__»:=
 entryFor_alias (id':="object.__getattribute__") (by rw [fastTable_eq_tree];kernel_rfl) (by decide+kernel) (by decide+kernel) (by rw [fastTable_eq_tree];kernel_rfl)
theorem meets_miss(z TI TO:Addr)(f0:Value)(name:Str)(u:Tok)(hmiss:typeLookup (.type "zip") name=pure none)(hname:(["__module__","__name__","__qualname__","__doc__","__annotations__"]:List Str).contains name=false)(hsz:name.length+100<=sizeLine:=by size_fits):
  Meets (Builtin.«object.__getattribute__» ⟨[.ref z,.str name u],[]⟩) (λA R s=>IsZip s.heap z TI TO f0/\raisesAttr (.ref z) name A R s):=
 Meets.of_wp λprog w A R s hs=>by
  obtain ⟨hp,g,d,tk,os⟩:=s
  obtain ⟨hx,hs⟩:=hs
  have hT:(⟨hp,g,d,tk,os⟩:Shared).TypeIs (.ref z) "zip":=⟨_,hx,rfl⟩
  unfold Builtin.«object.__getattribute__»
  repeat (any_goals (first | assumption | wp_step))
  rw [hname,if_neg Bool.false_ne_true]
  repeat (any_goals (first | assumption | wp_step))
  exact wpAny_raiseAttrError hs.1 hs.2 (attrMsg_fits (by decide+kernel) hsz)
end ZF
section
variable {prog:Program}{w:World}{A:Around}{E:Value->Shared->Prop}{s:Shared}
theorem R4{z TI TO:Addr}{f0:Value}{Q:Option Value->Shared->Prop}(hz:IsZip s.heap z TI TO f0)(hA:A.handled=none)
  (h:∀h' tk,(∀b o,s.heap.get? b=some o->h'.get? b=some o)->Q none {s with heap:=h',toks:=tk}):wpAny (model prog w) A (getAttr? (.ref z) "keys") Q E s:=by
 obtain ⟨hp,g,d,tk,os⟩:=s
 have hT:∀tk',(⟨hp,g,d,tk',os⟩:Shared).TypeIs (.ref z) "zip":=λV=>⟨_,hz,rfl⟩
 have f1:=sub_AttributeError
 have f3:=F.slot_zip_getattribute.lookup
 have f4:=F.slot_zip_getattribute.bind (.ref z)
 have f5:=ZF.getattr_none
 repeat (any_goals (first | assumption | exact hT _ | ((with_reducible show wpAny _ _ (call (Value.builtin "zip.__getattribute__") _ _) _ _ _);refine call_meets F.slot_zip_getattribute (hT _) ZF.entry_getattribute (F.args_zip_getattribute_2 _ _) (ZF.meets_miss z TI TO f0 "keys" _ ZF.keys_none (by decide)) ⟨hz,hA,λh' tk' e hx'=> ?_⟩) | wp_step))
 obtain ⟨t',u',he⟩:=hx'.there
 unfold getattributeRaised
 repeat (any_goals (first | assumption | wp_step))
 exact h _ _ hx'.keeps
theorem Fw:plainId "dict.update.loop"=true:=by decide+kernel
theorem Jn:entryFor table "dict.update.loop"=some Builtin.«dict.update.loop»:=entryFor_of_tree (by kernel_rfl)
theorem Os{R:Result->Shared->Prop}{z TI TO i1 i2 l1 l2 d:Addr}{as:List Int}{xs ys:List Value}(hh:A.handled=none)(D:ZipApart z TI TO i1 i2 l1 l2)(d1:l1≠TI)(d2:l2≠TI)(hd:d∉ [z,TI,TO,i1,i2,l1,l2])(hb:∀c∈ [z,TO,i1,i2],c<d)(hi:IntsAre xs as)(hnd:as.Nodup)(hsz:as.length=ys.length)(hn:as.length<=1000)(g₀:Heap)
  (hR:∀h' tk',h'.DictOf (intKind prog w) d (as.zip ys)->(∀b o,b∉d:: [z,TO,i1,i2]->g₀.get? b=some o->h'.get? b=some o)->R (.ok (.ret .none)) {s with heap:=h',toks:=tk'}):
  ∀(k i:Nat) (h:Heap) (tk:Nat),i+k=as.length->ZipSt z TI TO i1 i2 l1 l2 xs.toArray ys.toArray i h->h.DictOf (intKind prog w) d ((as.take i).zip (ys.take i))->(∀b o,b∉d:: [z,TO,i1,i2]->g₀.get? b=some o->h.get? b=some o)->
   codeAny (model prog w) A (.builtin "dict.update.loop" ⟨[.ref d,.ref z,rawInt i,.none],[]⟩) R {s with heap:=h,toks:=tk}:=by
 have hdw:d∉ [z,TO,i1,i2]:=λhm=>absurd (hb _ hm) (Nat.lt_irrefl _)
 have hxl:=IntsAre.length hi
 intro k
 induction k with
 | zero=>
  intro i h tk e Z hD K
  refine codeAny_builtin Jn ?_
  rw [Around.under_plainId Fw _]
  show wpAny _ A.in1 (pyNext (.ref z)>>=_) _ _ _
  refine wpAny_bind (Mt (s:= {s with heap:=h,toks:=tk}) hh D Z (Array.getElem?_eq_none (by rw [List.size_toArray,hxl];exact Nat.le_of_eq e.symm)) λh' hk=> ?_)
  refine wpAny_bind (wpAny_pure (wpAny_pure (hR h' tk ?_ λb o hb' e=>hk b o (λhm=>hb' (.tail _ hm)) (K b o hb' e))))
  rw [show as.take i=as from List.take_of_length_le (Nat.le_of_eq e.symm),show ys.take i=ys from List.take_of_length_le (Nat.le_of_eq (hsz.symm.trans e.symm))] at hD
  obtain ⟨o,es,ep,ho,r⟩:=hD
  exact ⟨o,es,ep,hk _ _ hdw ho,r⟩
 | succ k ih=>
  intro i h tk e Z hD K
  have hia:i<as.length:=e▸Nat.lt_add_of_pos_right (Nat.succ_pos k)
  have hiy:i<ys.length:=hsz▸hia
  have hle:(as.take i).length=(ys.take i).length:=by rw [List.length_take,List.length_take,hsz]
  have hga:as[i]?=some as[i]:=List.getElem?_eq_getElem hia
  generalize as[i]=a at hga
  obtain ⟨t,hx⟩:=hi.get i a hga
  have hy:ys[i]?=some ys[i]:=List.getElem?_eq_getElem hiy
  generalize ys[i]=y at hy
  refine codeAny_builtin Jn ?_
  rw [Around.under_plainId Fw _]
  show wpAny _ A.in1 (pyNext (.ref z)>>=_) _ _ _
  refine wpAny_bind (Ms (s:= {s with heap:=h,toks:=tk}) D d1 d2 Z (by simpa using hx) (by simpa using hy) λh' Z' pr hsz' hk=> ?_)
  have hD':h'.DictOf (intKind prog w) d ((as.take i).zip (ys.take i)):=by
   obtain ⟨o,es,ep,ho,r⟩:=hD
   exact ⟨o,es,ep,hk _ _ hdw ho,r⟩
  refine wpAny_bind (wpAny_holding ?_)
  refine wpAny_bind (wpAny_tryCatch ?_)
  unfold Builtin.Dict.pairItems
  refine wpAny_bind (wpAny_typeOf (T:="tuple") ⟨_,pr,rfl⟩ ?_)
  refine wpAny_ite_true (by decide) ?_
  refine wpAny_bind (wpAny_seqItems pr rfl ?_)
  refine wpAny_pure ?_
  refine wpAny_holding ?_
  refine wpAny_dictSet_pairs (knd:=intKind prog w) (intKind_is prog w a t) hD' (λh'' hD'' hs=> ?_) (by rw [List.length_zip,List.length_take,sizeLine_eq];exact nTr (Nat.min_le_left _ _) (nTr (Nat.min_le_right _ _) (nTr hn (nLe rfl))))
  refine wpAny_pure ⟨plainId_quiet Fw _,?_⟩
  have hnew:a∉((as.take i).zip (ys.take i)).map (·.1):=by
   rw [List.map_fst_zip (Nat.le_of_eq hle)]
   intro hm
   obtain ⟨q,hq,e'⟩:=List.getElem_of_mem hm
   rw [List.length_take] at hq
   rw [List.getElem_take] at e'
   have e2:as[i]=a:=by rw [List.getElem?_eq_getElem hia] at hga;exact sJ hga
   have hq:q<i:=Nat.lt_of_lt_of_le hq (Nat.min_le_left _ _)
   exact List.pairwise_iff_getElem.mp hnd q i (Nat.lt_trans hq hia) hia hq (e'.trans e2.symm)
  have hst:stored ((as.take i).zip (ys.take i)) a y=(as.take (i+1)).zip (ys.take (i+1)):=by
   unfold stored
   rw [if_neg (λq=>by
    obtain ⟨kv,hm,hk'⟩:=List.any_eq_true.mp q
    exact hnew (by rw [<-of_decide_eq_true hk'];exact List.mem_map_of_mem hm))]
   rw [List.take_add_one,List.take_add_one,hga,hy,List.zip_append hle]
   rfl
  rw [hst] at hD''
  have hdg:∃o,h''.get? d=some o:=by obtain ⟨o,_,_,ho,_⟩:=hD'';exact ⟨o,ho⟩
  exact ih (i+1) h'' _ ((Nat.succ_add_eq_add_succ i k).trans e) (Z'.at hd (λb o hb' e=>(hs.2 b hb').trans e) λV V=>hdg) hD'' λb o hb' e=>(hs.2 b (λq=>hb' (q▸ .head _))).trans (hk b o (λhm=>hb' (.tail _ hm)) (K b o hb' e))
theorem Nz{z TI TO i1 i2 l1 l2:Addr}{as:List Int}{xs ys:List Value}{Q:Value->Shared->Prop}(hh:A.handled=none)(D:ZipApart z TI TO i1 i2 l1 l2)(d1:l1≠TI)(d2:l2≠TI)(Z:ZipSt z TI TO i1 i2 l1 l2 xs.toArray ys.toArray 0 s.heap)(hz:IsZip s.heap z TI TO .none)(hi:IntsAre xs as)(hnd:as.Nodup)(hsz:as.length=ys.length)(hn:as.length<=1000)
  (hQ:∀h' tk',h'.DictOf (intKind prog w) s.heap.objs.size (as.zip ys)->(∀b o,b∉ [z,TO,i1,i2]->s.heap.get? b=some o->h'.get? b=some o)->Q (.ref s.heap.objs.size) {s with heap:=h',toks:=tk'}):
  wpAny (model prog w) A (call (.type "dict") [.ref z]) Q E s:=by
 have low:∀b∈ [z,TI,TO,i1,i2,l1,l2],b<s.heap.objs.size:=by
  obtain ⟨a1,⟨a,b,a2⟩,⟨o3,e3,r3⟩,⟨o4,e4,r4⟩,⟨o5,e5,r5⟩,⟨o6,e6,r6⟩,a7⟩:=Z
  intro b hb
  simp only [List.mem_cons,List.not_mem_nil,or_false] at hb
  rcases hb with rfl | rfl | rfl | rfl | rfl | rfl | rfl
  ·exact Heap.lt_size hz
  ·exact Heap.lt_size a1
  ·exact Heap.lt_size a2
  ·exact Heap.lt_size e3
  ·exact Heap.lt_size e4
  ·exact Heap.lt_size e5
  ·exact Heap.lt_size e6
 have hdf:s.heap.objs.size∉ [z,TI,TO,i1,i2,l1,l2]:=λhm=>Nat.lt_irrefl _ (low _ hm)
 refine callType_codes (Q₁:=λobj s₁=>obj= .ref s.heap.objs.size/\s₁= {s with heap:=s.heap.push {cls:= .type "dict",data:= .dict #[]}}) F.kt_called_dict (F.kt_typeCall_dict_1 _) F.entry_dict_init (kt_code_dict_new _ ⟨rfl,rfl⟩) ?_
 rintro obj s₁ ⟨rfl,rfl⟩
 have hnew:(s.heap.push {cls:= .type "dict",data:= .dict #[]}).DictOf (intKind prog w) s.heap.objs.size []:=Heap.DictOf.new s.heap
 have hz':IsZip (s.heap.push {cls:= .type "dict",data:= .dict #[]}) z TI TO .none:=hPu _ hz
 refine ⟨hnew.typeIs,F.args_dict_init_2 _ _,?_⟩
 unfold Builtin.«dict.__init__»
 refine wpAny_bind ?_
 unfold Builtin.Dict.selfAndRest
 refine wpAny_bind (wpAny_notOrdered_dict hnew.typeIs ?_)
 refine wpAny_pure ?_
 show wpAny _ _ (Builtin.Dict.updateFrom "dict.__init__" s.heap.objs.size (.ref z) [] .none) _ _ _
 refine wpAny_bind (wpAny_typeOf (T:="zip") ⟨_,hz',rfl⟩ ?_)
 refine wpAny_ite_true (by decide) ?_
 refine wpAny_bind (R4 (s:= {s with heap:=s.heap.push {cls:= .type "dict",data:= .dict #[]}}) hz' hh λg tk hk=> ?_)
 refine wpAny_ite_true (by decide) ?_
 refine wpAny_bind (wpAny_rule ?_)
 refine wpAny_bind (wpAny_pyIter_zip (s:= {s with heap:=g,toks:=tk}) (hk _ _ hz') ?_)
 refine wpAny_pure ⟨plainId_quiet Fw _,?_⟩
 have oth:∀b o,s.heap.get? b=some o->g.get? b=some o:=λb o e=>hk b o (hPu _ e)
 have hS₀:∀b o,b≠s.heap.objs.size->s.heap.get? b=some o->g.get? b=some o:=λb o V e=>oth b o e
 refine Os (A:=A.in1) (R:=wants (λr s₂=>r=Value.none/\Q (Value.ref s.heap.objs.size) s₂) E) (s:=s) hh D d1 d2 hdf (λc hc=>low c ?_) hi hnd hsz hn s.heap (λh' tk' e1 e2=>⟨rfl,hQ h' tk' e1 λb o hb e=>e2 b o (λhm=> ?_) e⟩) as.length 0 g tk (Nat.zero_add _) ?_ ?_ λb o V e=>oth b o e
 ·simp only [List.mem_cons,List.not_mem_nil,or_false] at hc ⊢
  rcases hc with h | h | h | h<;>simp [h]
 ·rcases lC hm with rfl | hm
  ·exact absurd (Heap.lt_size e) (Nat.lt_irrefl _)
  ·exact hb hm
 ·refine Z.at hdf hS₀ λo e=>⟨o,oth _ _ e⟩
 ·obtain ⟨o,es,ep,ho,r⟩:=hnew
  exact ⟨o,es,ep,hk _ _ ho,r⟩
section
variable {h₀:Heap}{L l1 l2:Addr}{m:Str->Option Value}{news:List (Addr×Obj)}{xs ys:List Value}{Q:Value->Shared->Prop}
theorem Op{z:Addr}{as:List Int}(hh:A.handled=none)(F:Fr h₀ L s.heap m)(N:News h₀ L s.heap news)(hbig:sysModules<h₀.objs.size)(Z:Gy L news s.heap z l1 l2 xs ys)(i1:IntsAre xs as)(hnd:as.Nodup)(hl:as.length=ys.length)(hn:as.length<=1000)
  (h:∀d o h' tk',Fr h₀ L h' m->News h₀ L h' ((d,o)::news)->o.IsDictOf (intKind prog w) (as.zip ys)->(d==sysModules)=false->(∀q∈news,q.1<d)->Q (.ref d) {s with heap:=h',toks:=tk'}):wpAny (model prog w) A (call (.type "dict") [.ref z]) Q E s:=by
 obtain ⟨TI,TO,i1',i2',D,d1,d2,Zs,hz,hb,_⟩:=Z
 have tL:L<s.heap.objs.size:=F.ns.lt
 refine Nz hh D d1 d2 Zs hz i1 hnd hl hn λh' tk' e1 e4=> ?_
 have out:∀b,h₀.get? b≠none\/b=L\/(∃q∈news,q.1=b)->b∉ [z,TO,i1',i2']:=λb hb' hm=>by
  rcases hb' with h1 | rfl | ⟨q,hq,rfl⟩
  ·cases e:h₀.get? b with
   | none=>exact h1 e
   | some o=>exact absurd (Nat.lt_of_lt_of_le (Heap.lt_size e) F.above) (Nat.not_lt.mpr (Nat.le_of_lt (hb b hm).1))
  ·exact Nat.lt_irrefl _ (hb _ hm).1
  ·exact Nat.lt_irrefl _ ((hb _ hm).2 q hq)
 have F':Fr h₀ L h' m:=by
  obtain ⟨oL,es,ep,hL,r⟩:=F.ns
  exact ⟨⟨oL,es,ep,e4 _ _ (out L (.inr (.inl rfl))) hL,r⟩,λb o e=>e4 b o (out b (.inl (by rw [e];exact λq=>nsm q))) (F.keep b o e),F.above⟩
 obtain ⟨o,ho,hdo⟩:=Heap.dictOf_iff.mp e1
 refine h s.heap.objs.size o h' tk' F' (λp hp=> ?_) hdo ?_ (λq hq=>Heap.lt_size (N q hq).1)
 ·rcases lC hp with rfl | hp
  ·exact ⟨ho,Nat.ne_of_gt tL,Heap.get?_none_of_le (nTr F.above (Nat.le_of_lt tL))⟩
  ·exact ⟨e4 _ _ (out _ (.inr (.inr ⟨p,hp,rfl⟩))) (N p hp).1,(N p hp).2⟩
 ·have:s.heap.objs.size≠sysModules:=Nat.ne_of_gt (Nat.lt_of_lt_of_le hbig (nTr F.above (Nat.le_of_lt tL)))
  exact beq_eq_false_iff_ne.mpr this
end
end
end
section
open PyProof.Rows.LCg PyProof.Rows.LCt
section
variable {prog:Program}{w:World}{A:Around}{s:Shared}{env:Env}{target:PySem.Expr}{body:List Stmt}{Q:Flow->Shared->Prop}{E:Value->Shared->Prop}
theorem Jc(F:Fr h₀ L h m)(N:News h₀ L h ((I,oI)::rest))(hr:∀p∈rest,p.1≠I)(hk:∀b o,b∉ [I]->h.get? b=some o->h'.get? b=some o):Fr h₀ L h' m/\News h₀ L h' rest/\∀o',h'.get? I=some o'->News h₀ L h' ((I,o')::rest):=by
 have hI:=N _ (.head _)
 have F':=LCg.fr_but F hk (Ne.symm hI.2.1) hI.2.2
 have N':News h₀ L h' rest:=λp hp=>⟨hk _ _ (λhm=>hr p hp (lS hm)) (N p (.tail _ hp)).1,(N p (.tail _ hp)).2⟩
 exact ⟨F',N',λo' ho p hp=>by
  rcases lC hp with rfl | hp
  ·exact ⟨ho,hI.2⟩
  ·exact N' p hp⟩
structure LSt(L I:Addr)(s:Shared)(RG:Heap->Prop)(J:(Str->Option Value)->List (Addr×Obj)->Prop)(P:Obj->Prop)(s':Shared):Prop where
 ex:∃g m nx h tk dr oI,s'= {s with heap:=h,toks:=tk,drawn:=dr}/\RG g/\J m nx/\(∀p∈nx,p.1≠I)/\Fr g L h m/\News g L h ((I,oI)::nx)/\P oI
@[elab_as_elim] theorem LSt.on {L I:Addr} {s s':Shared} {RG:Heap->Prop} {J:(Str->Option Value)->List (Addr×Obj)->Prop} {P:Obj->Prop} (z:LSt L I s RG J P s') {R:Shared->Prop} (k:∀g m nx h tk dr oI,RG g->J m nx->(∀p∈nx,p.1≠I)->Fr g L h m->News g L h ((I,oI)::nx)->P oI->R {s with heap:=h,toks:=tk,drawn:=dr}):R s':=by
 obtain ⟨g,m,nx,h,tk,dr,oI,e,a,b,c,d,f,i⟩:=z.ex
 subst e
 exact k g m nx h tk dr oI a b c d f i
noncomputable def Mv(G:Addr)(i:Nat)(o:Obj):Prop:=o.cls= .type "list_iterator"/\o.data= .fields #[.ref G,.int i 0]
theorem Q3{G L:Addr}{vs:List Value}{c:Nat}{gh:Heap}{m:Str->Option Value}{BL:List (Addr×Obj)}(RG:Heap->Prop)(J:Nat->(Str->Option Value)->List (Addr×Obj)->Prop)(hh:A.handled=none)(r0:RG gh)(F:Fr gh L s.heap m)(N:News gh L s.heap BL)(hG:∀i m nx,J i m nx->(G,listOf vs.toArray c)∈nx)(h0:J 0 m BL)
  (turn:∀I oI i v g m nx h tk dr,vs[i]?=some v->RG g->J i m nx->(∀p∈nx,p.1≠I)->Fr g L h m->News g L h ((I,oI)::nx)->
   wpAny (model prog w) A (letOwnedTupleGo target (.ref I) v>>= λV=>assign target env v) (λV s2=>wpR (model prog w) A (execs body env) (λf s3=>match f with
    | .ret v=>Q (.ret v) s3
    | .brk=>Q .next s3
    | _=>LSt L I s RG (J (i+1)) (· =oI) s3) (λV V=>False) s2) (λV V=>False) {s with heap:=h,toks:=tk,drawn:=dr})
  (done:∀g m nx h tk dr,RG g->J vs.length m nx->Fr g L h m->News g L h nx->Q .next {s with heap:=h,toks:=tk,drawn:=dr}):
  wpAny (model prog w) A (pyIter (.ref G)) (Dg prog w A env target body Q) E s:=by
 have hGN:=(N _ (hG _ _ _ h0)).1
 have hl:s.heap.IsList G vs.toArray:=⟨_,hGN,rfl,c,rfl⟩
 have gI:(s.heap.push {cls:= .type "list_iterator",data:= .fields #[.ref G,.int 0 0]}).get? s.heap.objs.size=some {cls:= .type "list_iterator",data:= .fields #[.ref G,.int 0 0]}:=Heap.get?_push_size _ rfl
 have up:∀b o,s.heap.get? b=some o->(s.heap.push {cls:= .type "list_iterator",data:= .fields #[.ref G,.int 0 0]}).get? b=some o:=λb o e=>hPu _ e
 refine wpAny_pyIter_list hl ⟨s.heap.objs.size,_,vs.toArray.size,_,_,λi s'=>LSt L s.heap.objs.size s RG (J i) (Mv G i) s',rfl,Walks.list hh s.heap.objs.size G (Nat.ne_of_lt (Heap.lt_size hGN)) vs.toArray,λi s' z=>LSt.on z (λg m nx h tk dr oI V hJ V V N' hc=>⟨⟨oI,(N' _ (.head _)).1,hc.1,hc.2⟩,⟨_,(N' _ (.tail _ (hG _ _ _ hJ))).1,rfl,c,rfl⟩⟩),
  ⟨gh,m,BL,_,_,_,_,rfl,r0,h0,λp hp=>Nat.ne_of_lt (Heap.lt_size (N p hp).1),F.keeps up,λp hp=>(lC hp).elim (λe=>e▸⟨gI,Nat.ne_of_gt F.ns.lt,next_is_new F⟩) (N.grown up p),rfl,rfl⟩,
  λi v s' h' tk' hin z=>LSt.on z λg m nx h tk dr oI hr hJ off F' N' hc hP hst hkeep=> ?_,λs' h' tk' z=>LSt.on z λg m nx h tk dr oI hr hJ off F' N' hc hkeep=> ?_⟩
 ·obtain ⟨o,e,hc',hd'⟩:=hst.1
  obtain ⟨F2,_,N2⟩:=Jc F' N' off hkeep
  refine wpAny_mono (turn s.heap.objs.size o i v g m nx h' tk' dr ((List.getElem?_toArray ..).symm.trans hP) hr hJ off F2 (N2 o e)) (λV s2 z=>Ao z (λf s3 y=> ?_) λV V y=>y) λV V y=>y
  cases f with
  | ret v=>exact y
  | brk=>exact y
  | _=>exact LSt.on y λg m nx h tk dr oI a b c d f e=>⟨g,m,nx,h,tk,dr,oI,rfl,a,b,c,d,f,e▸⟨hc',hd'⟩⟩
 ·obtain ⟨F2,N2,_⟩:=Jc F' N' off hkeep
  exact done g m nx h' tk' dr hr ((List.size_toArray:vs.toArray.size=_)▸hJ) F2 N2
end
end
section
noncomputable def Ay(ps:List (Int×Int)):List Int:=ps.flatMap λp=>rangeKs p.1 (p.2+1- p.1).toNat
noncomputable def C5(ps:List (Int×Int)):Int:=match ps.getLast? with
 | some p=>p.2+1
 | none=>0
theorem Ef(ps:List (Int×Int))(f l:Int):Ay (ps++ [(f,l)])=Ay ps++rangeKs f (l+1- f).toNat:=by
 unfold Ay;rw [List.flatMap_append];simp
theorem Kj(ps:List (Int×Int))(f l:Int):C5 (ps++ [(f,l)])=l+1:=by
 unfold C5;rw [List.getLast?_concat]
theorem Jr(h:∀p∈ps,p.1<=p.2):((Ay ps).length:Int)=Ak ps:=by
 induction ps with
 | nil=>rfl
 | cons p ps ih=>
  have h1:=ih λq hq=>h q (.tail _ hq)
  have h2:=h p (.head _)
  have e:Ay (p::ps)=rangeKs p.1 (p.2+1- p.1).toNat++Ay ps:=rfl
  rw [e,List.length_append,rangeKs_length]
  show _=(p.2- p.1+1)+Ak ps
  exact Int.le_antisymm (lin [_,_] [_,_,_] 1829877076851367331906613840581654895909 rfl h1 (iTo (zi2 1448103006382373 rfl h2))) (lin [_,_] [_,_,_] 1829877076772139167029639202300379156773 rfl h1 (iTo (zi2 1448103006382373 rfl h2)))
theorem Pa:Fn (Str.ofString "read_span") (.ref 333):=⟨λw=>by k_is,λw=>by k_is⟩
theorem Vz{w:World}{X dx:Addr}{k1 k2:Tok}{b:Array UInt8}{tb ta tl:Tok}{ks:List Int}{a least p1 p2:Int}(hXd:X≠dx)(hk:KBw.bInts b=ks)(hz:ks.length<=100000)(h0:0<=a)(h1:a+4<=ks.length)
  (hn1:numAt ks a.toNat=p1)(hn2:numAt ks (a+2).toNat=p2)(hl1:least<=p1)(hl2:p1<=p2):
  Tel w 333 12 ⟨[.ref X,.int least tl],[]⟩ [(dx,inDict w k1 k2 b tb a ta)] [(X,instObj 163 dx)]
   (λv mu' new=>∃D t1 t2 ta',v= .ref D/\mu'= [(dx,inDict w k1 k2 b tb (a+2+2) ta')]/\new= [(D,Ap [.int p1 t1,.int p2 t2])]):=by
 refine' De (j:=11) [(Str.ofString "octets_in",.ref X),(Str.ofString "least",.int least tl)] ?k6 ?k7 ?k9 ?kB ?kn ?kd ?_ ?c2 ?c3 ?c4 ?c5
 case k6=>k_is
 case k7=>k_is
 case k9=>exact λV V=>BindsTo.of_eq rfl
 case kB=>exact locs rfl
 case kn=>exact Eq.refl true
 case kd=>exact λp hp=>lS hp▸hXd
 case c2=>exact rfl
 case c3=>exact rfl
 case c4=>exact rfl
 case c5=>decide
 intro S K d m l₁ v1 v2 hro hK hN
 have hX:=hro _ (.head _)
 refine W.assignI (Ev.attr Fu (Ev.nameV v1) (.tail _ hX) (.head _) rfl ⟨_,rfl⟩) λt1=> ?_
 refine W.assignX (Mine.X.u16 (Ev.nameV v1) hX hn1 ⟨hk,hz⟩ (by exact ⟨zi1 11044661541 rfl h0,lin [_] [_] 27022311519852450085 rfl h1⟩) λt2 ta2=> ?_)
 refine W.ite (Bv.lt (Ev.nameI rfl) (Ev.nameI v2)) (λhc=>absurd hc (Int.not_lt.mpr hl1)) λV=>W.nil ?_
 refine W.assignI (Ev.attr Fu (Ev.nameV v1) (.tail _ hX) (.head _) rfl ⟨_,rfl⟩) λt3=> ?_
 refine W.assignX (Mine.X.u16 (Ev.nameV v1) hX hn2 ⟨hk,hz⟩ (by exact ⟨zi1 11310125951269 rfl h0,lin [_] [_] 27670846996329290944805 rfl h1⟩) λt4 ta4=> ?_)
 refine W.ite (Bv.lt (Ev.nameI rfl) (Ev.nameI rfl)) (λhc=>absurd hc (Int.not_lt.mpr hl2)) λV=>W.nil ?_
 refine W.retX (Mine.X.tup2 (P1:=(· = .int p1 t2)) (P2:=(· = .int p2 t4)) (Ev.nameV rfl) (Ev.nameV rfl) λT w1 w2 e1 e2 hT=> ?_)
 subst e1 e2
 exact hK _ _ _ _ ⟨T,t2,t4,ta4,rfl,rfl,rfl⟩ (λp hp=>lS hp▸⟨hT (dx,inDict w k1 k2 b tb (a+2+2) ta4) (.head _),λr hr=>hT r (.tail _ hr)⟩) (SubL.cons (.tail _ (.head _)) (SubL.cons (.head _) λp hp=> .tail _ (.tail _ hp)))
section
variable {C:Cd}{n:Nat}{w:World}{S:Si C n w}{d:Drawn}{m:Loc}{r:Led}{X0 dx:Addr}{k1 k2 tb ta tl:Tok}{b:Array UInt8}{ks:List Int}{a least p1 p2:Int}{κ:Value->Drawn->Led->Prop}
theorem CX.span(hX:(X0,instObj 163 dx)∈r)(hk:KBw.bInts b=ks/\ks.length<=100000)(h0:0<=a/\a+4<=ks.length)(hn1:numAt ks a.toNat=p1)(hn2:numAt ks (a+2).toNat=p2)(hl:least<=p1/\p1<=p2)(h:∀T t1 t2 ta',κ (.ref T) d ((dx,inDict w k1 k2 b tb (a+2+2) ta')::(T,Ap [.int p1 t1,.int p2 t2])::r))(hj:decide (12<=n)=true:=by exact Eq.refl true):CX S d m ((dx,inDict w k1 k2 b tb a ta)::r) (.ref 333) [.ref X0,.int least tl] κ:=
 ⟨λh9 k Q A hq=>(CX.tel1 (κ:=κ) (Vz ((List.pairwise_cons.mp A.D).1 _ hX) hk.1 hk.2 h0.1 h0.2 hn1 hn2 hl.1 hl.2) .here (λp hp=>lS hp▸hX) (λv' mu' new hP V=>by obtain ⟨T,t1,t2,ta',e,e1,e2⟩:=hP;subst e e1 e2;exact ⟨rfl,List.pairwise_singleton _ _,h T t1 t2 ta'⟩) hj).run h9 k Q A hq⟩
end
theorem V0{w:World}{X dx:Addr}{k1 k2:Tok}{b:Array UInt8}{tb ta:Tok}{ks:List Int}{ps:List (Int×Int)}{a:Int}(hXd:X≠dx)(hk:KBw.bInts b=ks)(hz:ks.length<=100000)(h0:0<=a)(h1:a+2+6*ps.length<=ks.length)(hl:ps.length<=60)(hsum:Ak ps<=100)
  (hn:numAt ks a.toNat=ps.length)(hg:∀(i:Nat) f l,ps[i]?=some (f,l)->numAt ks (a+2+6* (i:Int)).toNat=f/\numAt ks (a+2+6* (i:Int)+2).toNat=l/\numAt ks (a+2+6* (i:Int)+2+2).toNat=Ak (ps.take i)/\C5 (ps.take i)<=f)
  (hp:∀p∈ps,0<=p.1/\p.1<=p.2/\p.2<=65535):
  Tel w 340 16 ⟨[.ref X],[]⟩ [(dx,inDict w k1 k2 b tb a ta)] [(X,instObj 163 dx)]
   (λv mu' new=>∃D vs c a' ta',v= .ref D/\mu'= [(dx,inDict w k1 k2 b tb a' ta')]/\new= [(D,listOf vs.toArray c)]/\IntsAre vs (Ay ps)):=by
 refine' De (j:=15) [(Str.ofString "octets_in",.ref X)] ?k6 ?k7 ?k9 ?kB ?kn ?kd ?_ ?c2 ?c3 ?c4 ?c5
 case k6=>k_is
 case k7=>k_is
 case k9=>exact λV V=>BindsTo.of_eq rfl
 case kB=>exact locs rfl
 case kn=>exact Eq.refl true
 case kd=>exact λp hp=>lS hp▸hXd
 case c2=>exact rfl
 case c3=>exact rfl
 case c4=>exact rfl
 case c5=>decide
 intro S K d m l₁ v1 hro hK hN
 have hX:=hro _ (.head _)
 refine W.assignX (Mine.X.list0 λD hD=>W.swap ?_)
 refine W.assignI Ev.int λt0=> ?_
 refine W.forRange (Mine.X.u16 (Ev.nameV v1) (.tail _ hX) hn ⟨hk,hz⟩ (by exact ⟨zi1 11044661541 rfl h0,lin [_,_] [_] 27871273266233865423311141 rfl h1⟩) λt ta'=>⟨ps.length,⟨t,rfl⟩,by exact lin [_,_] [_] 2454122386032329730938812658685110952433189312 rfl hz h0 h1,Lp.intro (λi G=>∀(u:Loc) (a':Int) ta vs c tl,a'=a+2+6* (i:Int)->u "octets_in"=some (.ref X)->u "found"=some (.ref D)->u "least"=some (.int (C5 (ps.take i)) tl)->IntsAre vs (Ay (ps.take i))->G u ((dx,inDict w k1 k2 b tb a' ta)::(D,listOf vs.toArray c)::l₁))
  (λi G h u a' ta vs c tl a1 a2 a3 a4 a5=>h _ _ λG' h'=>h' u a' ta vs c tl a1 a2 a3 a4 a5) (λi u a' ta vs c tl V V V V V=>rfl)
  (λG h=>h _ _ ta' [] 0 t0 (by exact Int.le_antisymm (zi1 387182046763569445 rfl) (zi1 433061067527704869 rfl)) v1 rfl rfl .nil) ?turn ?done⟩)
 case turn=>
  intro S' K' i v hi hv hr hn u a' ta vs c tl ea u1 u2 u3 i3
  subst ea
  rcases hpe:ps[i] with ⟨f,q⟩
  have hgx:ps[i]?=some (f,q):=by rw [List.getElem?_eq_getElem hi,hpe]
  have hgp:0<=f/\f<=q/\q<=65535:=hp (f,q) (List.mem_of_getElem? hgx)
  obtain ⟨n1,n2,n3,n4⟩:=hg _ _ _ hgx
  have hT:ps.take (i+1)=ps.take i++ [(f,q)]:=by rw [List.take_add_one,hgx];rfl
  have hlen:((Ay (ps.take i)).length:Int)=Ak (ps.take i):=Jr λp hp'=>(hp p (List.mem_of_mem_take hp')).2.1
  have hst:=Lv ps hp i
  have hvl:=IntsAre.length i3
  refine W.unpack2 (Mine.X.f2 Pa (Mine.X.evV (Ev.nameV u1) (Mine.X.evI (Ev.nameI u3) λt5=>CX.span (.tail _ hX) ⟨hk,hz⟩ (by exact ⟨lin [_] [_] 11859129982520011045 rfl h0,lin [_,_,_] [_] 87709180807359155447871503338363658326309 rfl h1 hi⟩) n1 n2 ⟨n4,hgp.2.1⟩ λT t1 t2 ta2=>⟨T,_,_,rfl,.tail _ (.head _),W.drop2 ?_⟩)))
  refine W.assignI (Ev.attr Fu (Ev.nameV u1) (.tail _ (.tail _ hX)) (.head _) rfl ⟨_,rfl⟩) λt6=> ?_
  refine W.iteX (XB.ne (Mine.X.u16 (Ev.nameV u1) (.tail _ hX) n3 ⟨hk,hz⟩ (by exact ⟨lin [_] [_] 12435628124826394153330981 rfl h0,lin [_,_,_] [_] 91969741974257433782907307552389045438659580197 rfl h1 hi⟩) λt7 ta3=>⟨_,_,⟨t7,rfl⟩,Ev.len (Ev.nameV u2) (.tail _ (.head _)) (by exact lin [_,_] [_,_] 1406131864134250955600651378947610339082529 rfl hsum hlen hst.2 hvl),λhc=>absurd (by exact Int.le_antisymm (lin [_,_] [_] 37147943423902974245 rfl hlen hvl) (lin [_,_] [_] 37220001020087655717 rfl hlen hvl)) hc,λV=>W.nil ?_⟩))
  refine W.expr (Mine.X.extR (Ev.nameV u2) (Ev.nameI rfl) (by walk_at "ev") (.tail .head) i3 (by exact ⟨zi1 11044661541 rfl hgp.1,⟨zi2 79227748464447817690766803237 rfl hgp.2.1 hgp.2.2,⟨zi2 1482856671776221477 rfl hgp.1 hgp.2.1,zi1 77370846956962693174546725 rfl hgp.2.2⟩⟩⟩) (by exact lin [_] [_,_] 53425163375872864525217841847894304 rfl hsum hlen hst.2) λvs' c' i4=>⟨rfl,?_⟩)
  refine W.assignI (by walk_at "ev") λt8=>(hn _ _ ta3 vs' c' t8 (by exact Int.le_antisymm (lin [_] [_] 457763699973520537241975836159660325 rfl) (lin [_] [_] 514525113076633056208091678950183205 rfl)) u1 u2 (by rw [hT,Kj];rfl) (by rw [hT,Ef];exact i4))
 case done=>
  intro u a' ta vs c tl ea u1 u2 u3 i3
  rw [List.take_length] at i3
  exact W.retV (Ev.nameV u2) (hK _ _ _ _ ⟨D,vs,c,_,ta,rfl,rfl,rfl,i3⟩ (λp hp=>lS hp▸⟨hD _ (.head _),λr hr=>hD r (.tail _ hr)⟩) (SubL.cons (.head _) λp hp=> .tail _ hp))
end
example:Fl:=by walk_at "zF"
section
open PyProof.Rows.LCg PyProof.Rows.LCt
theorem Xd{gs:List Int}{vr:List Value}{i:Nat}{g:Int}{v:Value}(hg:gs[i]?=some g)(hv:vr[i]?=some v):(gs.take (i+1)).zip (vr.take (i+1))=(gs.take i).zip (vr.take i)++ [(g,v)]:=by
 have h1:=(List.getElem?_eq_some_iff.mp hg).1
 have h2:=(List.getElem?_eq_some_iff.mp hv).1
 rw [List.take_add_one,List.take_add_one,hg,hv,List.zip_append (by simp only [List.length_take];exact Ac (zn3 73432052594147616 rfl (Nat.min_le_left _ _) (Nat.min_eq_left (zn2 34662809888 rfl h2))) (zn3 73432052594147616 rfl (Nat.min_le_left _ _) (Nat.min_eq_left (zn2 34662809888 rfl h1))))]
 rfl
theorem stored_new{kvs:List (Int×Value)}{k:Int}{v:Value}(h:k∉kvs.map (·.1)):stored kvs k v=kvs++ [(k,v)]:=by
 unfold stored
 rw [if_neg]
 intro q
 obtain ⟨kv,hm,hk⟩:=List.any_eq_true.mp q
 exact h (by rw [<-of_decide_eq_true hk];exact List.mem_map_of_mem hm)
theorem W8{gs:List Int}{vr:List Value}(h:gs.length=vr.length):(gs.zip vr).map (·.1)=gs:=by
 rw [List.map_fst_zip (by exact zn2 34663858464 rfl h)]
theorem Q0{prog:Program}{w:World}{A:Around}{E:Value->Shared->Prop}{s:Shared}{h₀:Heap}{L:Addr}{news rest:List (Addr×Obj)}{R:Addr}{rs:List Value}{c:Nat}{v:Int}{Q:Value->Shared->Prop}(N:News h₀ L s.heap news)(hm:Pick news (R,listOf rs.toArray c) rest)(hv:(rs.length:Int)=v)(hsz:rs.length<1000)
  (h:∀t tk,Q (.int v t) {s with toks:=tk}):wpAny (model prog w) A (call (.builtin "len") [.ref R]) Q E s:=by
 have z:=(N _ (hm.sub _ (.head _))).1
 refine len_list (items:=rs.toArray) ⟨_,z,rfl,c,rfl⟩ (by rw [List.size_toArray];exact lin [_] [_] 1208926623782025531471899417894 rfl hsz p63) ?_
 rw [List.size_toArray,hv];exact h _ _
theorem O1:Fn (Str.ofString "by_glyph") (.ref 380):=⟨λw=>by k_is,λw=>by k_is⟩
theorem Vj{w:World}{X dx T W:Addr}{tk0:Tok}{vs vr:List Value}{gs rs:List Int}{cr:Nat}(hi:IntsAre vs gs)(hr:IntsAre vr rs)(hl:gs.length<=60)(he:rs.length=gs.length)(hs:gs.Pairwise (· < ·)):
  Tel w 380 8 ⟨[.ref X,.ref W],[]⟩ [] ((W,listOf vr.toArray cr)::Al w X dx T tk0 vs)
   (λv mu' new=>∃d o,v= .ref d/\mu'= []/\new= [(d,o)]/\o.IsDictOf (intKind PySem.Challenge.rw_nu0172_01.row.prog w) (gs.zip vr)/\(d==sysModules)=false):=by
 have hvr:(vr.length:Int)=rs.length:=by rw [IntsAre.length hr]
 have hvr2:=IntsAre.length hr
 refine' Cn (j:=7) [(Str.ofString "coverage",.ref X),(Str.ofString "rows",.ref W),(Str.ofString "at",.int (-1) 650)] ?k6 ?k7 ?k9 ?kB ?kn ?_ ?c2 ?c3 ?c4 ?c5
 case k6=>k_is
 case k7=>k_is
 case k9=>exact λV X=>binds_K (X) rfl (by k_is) rfl rfl rfl
 case kB=>exact locs rfl
 case kn=>exact Eq.refl true
 case c2=>exact rfl
 case c3=>exact rfl
 case c4=>exact rfl
 case c5=>decide
 intro S K d m l₁ v1 v2 v3 hro hK hN
 have hW:=hro _ (.head _)
 have hc:=CovIn.of λp hp=>hro p (.tail _ hp)
 have hl':gs.length<1000:=Nat.lt_of_le_of_lt hl (by decide)
 refine Mine.W.ite (Bv.ne (Ev.len (Ev.nameV v2) hW (by exact zn3 115673065339591873422493216554604986657 rfl hl he hvr)) (Ev.tupLen (Ev.attr Bl (Ev.nameV v1) hc.a hc.b rfl rfl) hc.c hi hl')) (λh=>absurd (by exact Int.le_antisymm (zn3 102738320375188097621285 rfl he hvr) (zn3 102775141770488387231013 rfl he hvr)) h) λV=>Mine.W.nil ?_
 refine Mine.W.assignX (Mine.X.dict0 λDd o0 hD hsys h0=> ?_)
 refine Mine.W.forRange (Mine.X.evI (Ev.len (Ev.nameV v2) (.tail _ hW) (by exact zn3 115673065339591873422493216554604986657 rfl hl he hvr)) λt=>⟨vr.length,⟨t,rfl⟩,by exact zn3 115673065339591873422493216554604986656 rfl hl he hvr,Lp.intro (λi G=>∀(u:Loc) o,u "found"=some (.ref Dd)->u "coverage"=some (.ref X)->u "rows"=some (.ref W)->IDict w o ((gs.take i).zip (vr.take i))->G u ((Dd,o)::l₁))
  (λi G h u o a1 a2 a3 a4=>h _ _ λG' h'=>h' u o a1 a2 a3 a4) (λi u o V V V V=>rfl) (λG h=>h _ o0 rfl v1 v2 h0) ?turn ?done⟩)
 case turn=>
  intro S' K' i v hi' hv hr' hn u o u1 u2 u3 g1
  obtain ⟨tv,rfl⟩:=hv
  have hgx:gs[i]?=some gs[i]:=List.getElem?_eq_getElem (by exact zn4 116398170099869115089977633 rfl he hvr hi')
  have hrx:rs[i]?=some rs[i]:=List.getElem?_eq_getElem (by exact zn3 74112421934780154145 rfl hvr hi')
  obtain ⟨tr,hvx⟩:=hr.get _ _ hrx
  have hkv:((gs.take i).zip (vr.take i)).map (·.1)=gs.take i:=W8 (by rw [List.length_take,List.length_take];exact Ac (zn3 73432052594147616 rfl (Nat.min_le_left _ _) (Nat.min_eq_left (zn2 34662809888 rfl hi'))) (zn3 73432052594147616 rfl (Nat.min_le_left _ _) (Nat.min_eq_left (zn4 116398170099869115089977632 rfl he hvr hi'))))
  have hnew:gs[i]∉((gs.take i).zip (vr.take i)).map (·.1):=by
   rw [hkv]
   intro hm
   obtain ⟨q,hq,e⟩:=List.getElem_of_mem hm
   rw [List.length_take] at hq
   have hq':gs[q]?=some gs[i]:=by rw [<-e,List.getElem_take];simp [show q<gs.length by exact zn6 177161371995190260429018001303138238753 rfl he hvr hi' hq (Nat.min_le_left _ _)]
   have:=D0 hs hq' hgx (by exact zn3 38597325203996961 rfl hq (Nat.min_le_left _ _))
   exact zi1 9439 rfl this
  refine Mine.W.setDict (P:=(· = .int rs[i] tr)) (Ev.item (Ev.nameV u3) (Ev.nameI rfl) (.tail _ hW) (Int.natCast_nonneg _) (by exact lin [_,_,_,_] [_] 1427248642103303504874587002023010863522197199150374 rfl hl he hvr hi' p63) hvx rfl) (λv hv=>⟨_,hv▸PyProof.V.Flat.int _ _⟩) (Ev.nameV u1) (Ev.tupItem (Ev.attr Bl (Ev.nameV u2) (.tail _ hc.a) (.tail _ hc.b) rfl rfl) (Ev.nameI rfl) (.tail _ hc.c) hi (Int.natCast_nonneg _) hl' hgx) .head g1 (by rw [List.length_zip,List.length_take];exact zn3 44499686246744985156828639294816544 rfl hl (Nat.min_le_left _ _) (Nat.min_le_right _ _)) λv o' hv h'=> ?_
  subst hv
  rw [stored_new hnew,<-Xd hgx hvx] at h'
  exact hn _ o' u1 u2 u3 h'
 case done=>
  intro u o u1 u2 u3 g1
  rw [show gs.take vr.length=gs by rw [hvr2,he];exact List.take_length,List.take_length] at g1
  exact Mine.W.retV (Ev.nameV u1) (hK _ _ _ ⟨Dd,o,rfl,rfl,rfl,g1.is,hsys⟩ (λp hp=>lS hp▸hD) λp hp=>hp)
theorem Qx(F:Fr g L' h' m')(N:News g L' h' ((e,Ar (.ref T) .none dx)::(dx,B6 w tk1 tk2 x t atv u)::big))(a1:∀q∈big,q.1≠e)(a3:dx≠e)(hs:∀p∈ro,p∈big):
  Iq w g L' ro atv s (.ref e) {s with heap:=h',toks:=tk'}:=
 ⟨e,dx,T,tk1,tk2,x,t,u,m',h',tk',rfl,rfl,F,λp hp=>N p ((lC hp).elim (λh=>h▸ .head _) λhp=>(lC hp).elim (λh=>h▸ .tail _ (.head _)) λhp=> .tail _ (.tail _ (hs p hp))),a3,λq hq=>a1 q (hs q hq)⟩
theorem Rz(hn:n≠m)(h:Q (.bool true) s):wpAny (model prog w) A (compareOp .NotEq (.int n t) (.int m u)) Q E s:=by
 refine PyProof.Rows.ne_int ?_
 rw [show (n !=m)=true from bne_iff_ne.mpr hn];exact h
section
example:True:=by
 k_with "call builtin:len"=>first | (refine' Md ?y1 ?y2 ?y3 ?y4 ?_;(case y1=>k_asm);(case y2=>repeat (first | exact Pick.here | apply Pick.there));(case y3=>assumption);(case y4=>omega);intro t9 tk9) | (refine' Q0 ?y1 ?y2 ?y3 ?y4 ?_;(case y1=>k_asm);(case y2=>repeat (first | exact Pick.here | apply Pick.there));(case y3=>assumption);(case y4=>omega);intro t9 tk9) | fail "no len"
 trivial
example:True:=by
 k_with "compareOp NotEq int int"=>(refine' Rz ?y1 ?_;(case y1=>omega))
 trivial
example:True:=by
 k_with "exec Raise some none"=>(refine Ir rfl ?_)
 trivial
theorem U4{w:World}{X dx T W:Addr}{tk0 t44:Tok}{vs vr:List Value}{gs rs:List Int}{cr:Nat}(hi:IntsAre vs gs)(hr:IntsAre vr rs)(hl:gs.length<=60)(hrl:rs.length<=61)(he:rs.length≠gs.length):
  Is w 380 8 ⟨[.ref X,.ref W,.int 44 t44],[]⟩ ((W,listOf vr.toArray cr)::Al w X dx T tk0 vs) 44:=by
 have hvr:(vr.length:Int)=rs.length:=by rw [IntsAre.length hr]
 refine' U5 ?k6 ?k7 ?k9 ?kB ?_ ?c2 ?c3 ?c4 ?c5
 case k6=>k_is
 case k7=>k_is
 case k9=>exact λV X=>binds_K (X) rfl (by k_is) rfl rfl rfl
 case kB=>exact locs rfl
 case c2=>exact rfl
 case c3=>exact rfl
 case c4=>exact rfl
 case c5=>decide
 intro dp un gd env outer base gh L' h₁ p loose mean mg mb s tk hd hu B XX TT F N
 (try dsimp only)
 (try k_fold)
 (try simp only [List.cons_append,List.nil_append] at N)
 k_steps
 refine Jd (n:=44) (.inl rfl) (by assumption) (by assumption) (by assumption) (by assumption) (by assumption) rfl rfl rfl (by (simp only [depth_deeper,Around.deeper_units];exact zn2 57668911033880301857 rfl hd)) ?_
 intro h5 e dxe T9 tk1 tk2 tk5 F5 N5 a1 a2 a3
 have a4:=N5 (e,Ar (.ref T9) .none dxe) (.head _)
 refine ⟨e,_,_,rfl,?_,a4.1,?_⟩
 ·exact (Frag.In.keeps XX F5.keep) _ _ (Dw w)
 exact Qx F5 N5 a1 a3 (by k_allIn)
end
example:True:=by
 k_with_none
 trivial
end
example:Fl:=by walk_at "zF"
section
open PyProof.Rows.LCg PyProof.Rows.LCt
theorem Q5(F:Fr h₀ L s.heap m)(N:News h₀ L s.heap news)(hp:Pick news (T,Ap vs) rest)(hz:vs.length<=1000)
  (h:∀D c h',Fr h₀ L h' m->News h₀ L h' ((D,listOf vs.toArray c)::news)->(∀q∈news,q.1<D)->Q (.ref D) {s with heap:=h'}):wpAny (model prog w) A (call (.type "list") [.ref T]) Q E s:=
 kup_listOfT F N (hp.sub _ (.head _)) rfl h (by rw [sizeLine_eq];show vs.length<=_;omega)
section
variable {C:Cd}{n:Nat}{w:World}{pos:Pos}{e1 e2:PySem.Expr}{S:Si C n w}{d:Drawn}{m:Loc}{l:Led}{G T:Addr}{cg:Nat}{vg vs:List Value}{gs:List Int}{κ:Value->Drawn->Led->Prop}
theorem CX.cov(hm:(G,listOf vg.toArray cg)∈l)(hi:IntsAre vg gs)(hl:gs.length<=120)(h:∀X dx T tk vs hs l',IntsAre vs hs->hs.Pairwise (· < ·)->(∀x,x∈hs ↔ x∈gs)->hs.length<=gs.length->G<T->T<dx->dx<X->(∀p∈l,p∈l')->CovIn w l' X dx T tk vs->(∀p∈Al w X dx T tk vs,∀q∈l,p.1≠q.1)->κ (.ref X) d l')(hk:decide (6<=n)=true:=by exact Eq.refl true):CX S d m l (.ref 312) [.ref G] κ:=
 CX.tel0 (Vk hi hl) (λp hp=>lS hp▸hm) (λv mu' new l' hP hs1 hs2=>by
  obtain ⟨X,dx,T,tk,vs,hs,e,_,e2,a1,a2,a3,a4,h1,h2⟩:=hP
  subst e e2
  exact h X dx T tk vs hs l' a1 a2 a3 a4 ((hs2 _ (.tail _ (.tail _ (.head _)))).2.1 _ (.head _)) h1 h2 hs1 (.of λp hp=>(hs2 p hp).1) λp hp=>(hs2 p hp).2.2) hk
theorem X.addL(h:X S d m l e1 λv1 d1 l1=>X S d1 m l1 e2 λv2 d2 l2=>∃(D1 D2:Addr) (vs us:List Value) (c1 c2:Nat),v1= .ref D1/\v2= .ref D2/\(D1,listOf vs.toArray c1)∈l2/\(D2,listOf us.toArray c2)∈l2/\vs.length+us.length<=1000/\∀D3 c3,(∀p∈l2,p.1<D3)->κ (.ref D3) d2 ((D3,listOf (vs++us).toArray c3)::l2)):X S d m l (.BinOp e1 .Add e2 pos) κ:=
 ⟨λh9 k Q A hq=>wpAny_BinOp (h.run h9 k _ A λv1 d1 l1 h1 k1 z A1=>z.run h1 k1 _ A1 λv2 d2 l2 h2 k2 z A2=>by
  obtain ⟨D1,D2,vs,us,c1,c2,e1,e2,m1,m2,hz,z2⟩:=z
  subst e1 e2
  exact kmk_add_lit A2.F A2.N ⟨_,(A2.N1 _ m1).1,rfl,_,rfl⟩ ⟨_,(A2.N1 _ m2).1,rfl,_,rfl⟩ rfl (λD3 h' F N hD=>hq _ _ _ _ _ (z2 D3 _ λp hp=>hD p (lL _ hp)) (A2.new F N hD)) (by rw [sizeLine_eq];show vs.length+us.length<=_;omega))⟩
theorem CX.listTup(hm:(T,Ap vs)∈l)(hl:vs.length<=1000)(h:∀D c,(∀p∈l,p.1<D)->κ (.ref D) d ((D,listOf vs.toArray c)::l)):CX S d m l (.type "list") [.ref T] κ:=by
 obtain ⟨r,hp⟩:=As hm
 exact ⟨λh9 k Q A hq=>Q5 A.F A.N (hp.app S.own) hl λD c h' F N hD=>hq _ _ _ _ _ (h D c λp hp=>hD p (lL _ hp)) (A.new F N hD)⟩
end
theorem Hf:Fn (Str.ofString "coverage_of") (.ref 312):=⟨λw=>by k_is,λw=>by k_is⟩
theorem Vn{w:World}{X dx T Y dy U:Addr}{tk0 tk1:Tok}{vs us:List Value}{gs ks:List Int}(hi:IntsAre vs gs)(hj:IntsAre us ks)(hl:gs.length<=60)(hm:ks.length<=60):
  Tel w 362 10 ⟨[.ref X,.ref Y],[]⟩ [] (Al w X dx T tk0 vs++Al w Y dy U tk1 us)
   (λv mu' new=>∃X dx T tk vs hs,v= .ref X/\mu'= []/\new=Al w X dx T tk vs/\IntsAre vs hs/\hs.Pairwise (· < ·)/\(∀x,x∈hs ↔ x∈gs\/x∈ks)):=by
 refine' Cn (j:=9) [(Str.ofString "one",.ref X),(Str.ofString "other",.ref Y)] ?k6 ?k7 ?k9 ?kB ?kn ?_ ?c2 ?c3 ?c4 ?c5
 case k6=>k_is
 case k7=>k_is
 case k9=>exact λV V=>BindsTo.of_eq rfl
 case kB=>exact locs rfl
 case kn=>exact Eq.refl true
 case c2=>exact rfl
 case c3=>exact rfl
 case c4=>exact rfl
 case c5=>decide
 intro S K d m l₁ v1 v2 hro hK hN
 have hc:=CovIn.of λp hp=>hro p (lL _ hp)
 have hb:=CovIn.of λp hp=>hro p (lR _ hp)
 have h1:=IntsAre.length hi
 have h2:=IntsAre.length hj
 refine W.retX (Mine.X.f1 Hf (Mine.X.addL (Mine.X.t1 Fc (Mine.X.evV (Ev.attr Bl (Ev.nameV v1) hc.a hc.b rfl rfl) (CX.listTup hc.c (by exact zn2 39964669814753748831550734624 rfl hl h1) λD1 c1 hD1=> ?_)))))
 refine Mine.X.t1 Fc (Mine.X.evV (Ev.attr Bl (Ev.nameV v2) hb.tail.a hb.tail.b rfl rfl) (CX.listTup hb.tail.c (by exact zn2 39964669814753748831550734624 rfl hm h2) λD2 c2 hD2=>⟨D1,D2,vs,us,c1,c2,rfl,rfl,.tail _ (.head _),.head _,by exact zn4 142179650249690729922519075444403795794761463386400 rfl hl hm h1 h2,λD3 c3 hD3=> ?_⟩))
 refine CX.cov (.head _) (ints_app hi hj) (by rw [List.length_append];exact zn2 78737938258778937589437340348076320 rfl hl hm) λX9 dx9 T9 tk9 vs9 hs9 l9 i9 p9 m9 V n1 n2 n3 s9 c9 V=> ?_
 have hall:∀r∈l₁,r.1<T9:=λr hr=>Nat.lt_trans (hD3 r (.tail _ (.tail _ hr))) n1
 have h2:∀r∈l₁,r.1<dx9:=λr hr=>Nat.lt_trans (hall r hr) n2
 exact hK _ _ _ ⟨X9,dx9,T9,tk9,vs9,hs9,rfl,rfl,rfl,i9,p9,λx=>by rw [m9,List.mem_append]⟩
  (λp hp r hr=>(lC hp).elim (λe=>e▸Nat.lt_trans (h2 r hr) n3) λhp=>(lC hp).elim (λe=>e▸h2 r hr) λhp=>lS hp▸hall r hr)
  λp hp=>(lA hp).elim (c9.all p) λhp=>s9 p (.tail _ (.tail _ (.tail _ hp)))
section
variable {C:Cd}{n:Nat}{w:World}{x:Str}{px pos p2:Pos}{e1:PySem.Expr}{S:Si C n w}{m:Loc}{l:Led}{X dx T:Addr}{tk0:Tok}{vs:List Value}{gs:List Int}{g:Int}
theorem Bv.has(hx:Ev S m l (.Name x px) (· = .ref X))(hc:CovIn w l X dx T tk0 vs)(hi:IntsAre vs gs)(hs:gs.Pairwise (· < ·))(hl:gs.length<=120)(h1:Ev S m l e1 (isI g))(ok:Au e1=true:=by exact Eq.refl true)(hp:(p2.endLine==pos.line)=true:=by exact Eq.refl true)(hk:decide (8<=n)=true:=by exact Eq.refl true):Bv S m l (.Call (.Attribute (.Name x px) (Str.ofString "has") p2) [e1] [] pos) (g∈gs):=
 Bv.bool (Ev.ofX λd=>Mine.X.meth1 Kx hx hc.a hc.b rfl (Mine.X.evI h1 λt=>CX.pure (Ma hi hs hl) (λp hp=>hc.all p hp) (λv mu' new ⟨r,e,_,_,hr⟩=>⟨_,e,by
  rw [decide_eq_true_iff]
  rcases hr with ⟨i,e2,e3⟩ | ⟨e2,e3⟩
  ·subst e2
   exact ⟨λV=>List.mem_of_getElem? e3,λV=>Int.natCast_nonneg _⟩
  ·subst e2
   exact ⟨λh=>absurd h (by decide),λh=>absurd h e3⟩⟩) hk) ok hp)
end
theorem Vy{w:World}{X dx T Y dy U:Addr}{tk0 tk1:Tok}{vs us:List Value}{gs ks:List Int}(hi:IntsAre vs gs)(hj:IntsAre us ks)(hk:ks.Pairwise (· < ·))(hl:gs.length<=60)(hm:ks.length<=60):
  TelD w 367 12 ⟨[.ref X,.ref Y],[]⟩ [] (Al w X dx T tk0 vs++Al w Y dy U tk1 us)
   (λv mu' new=>∃X dx T tk vs,v= .ref X/\mu'= []/\new=Al w X dx T tk vs/\IntsAre vs (gs.filter λg=>decide (g∈ks))):=by
 refine' Ib (j:=11) (y:=Str.ofString "other") (vy:= .ref Y) [(Str.ofString "one",.ref X),(Str.ofString "other",.ref Y)] [(Str.ofString "one",.ref X)] ?k6 ?k7 ?k9 ?kB ?kC ?kv ?kl ?_ ?c2 ?c3 ?c4
 case k6=>k_is
 case k7=>k_is
 case k9=>exact λV V=>BindsTo.of_eq rfl
 case kB=>exact rfl
 case kC=>exact λV=>rfl
 case kv=>exact rfl
 case kl=>exact λp hp=>by rw [List.mem_singleton.mp hp];rfl
 case c2=>exact rfl
 case c3=>exact rfl
 case c4=>exact rfl
 intro S K d m l₁ c o hcl hc ho hro hK v1
 have hx:=CovIn.of λp hp=>hro p (lL _ hp)
 have hy:=CovIn.of λp hp=>hro p (lR _ hp)
 have kc:S.cl.lookup (Str.ofString "other")=some c:=by rw [hcl];rfl
 have h1:=IntsAre.length hi
 refine W.retX (Mine.X.f1 Ei (Mine.X.t1 By (Mine.X.comp (CR.ofT (Cu kc) (Mine.X.evV (Ev.attr Bl (Ev.nameV v1) hx.a hx.b rfl rfl) ⟨rfl,CmT.filter (P:=λg=>g∈ks) (f:=λa=>a) hx.c .tup hi (λS' a t V hI=>Bv.has (Ev.cell (hI.cl▸B9 kc rfl) hc ho) hy hj hk (nTr hm (nLe rfl)) (hI.nm _ _ _).toI) (λS' a t V V hI=>(hI.nm _ _ _).toI) (nTr hl (nLe rfl)) λys hz D1 V=> ?_⟩)))))
 rw [List.map_id'] at hz
 have hfl:=List.length_filter_le (λg=>decide (g∈ks)) gs
 refine CX.tuple (.head _) (by rw [IntsAre.length hz];exact nTr hfl (nTr hl (nLe rfl))) λT9 hT=>CX.cls En Ej λX9 dx9 ob ⟨tk,ho⟩ hX hlt=> ?_
 subst ho
 have hD:∀r∈Al w X dx T tk0 vs++Al w Y dy U tk1 us,r.1<T9:=λr hr=>hT r (.tail _ (hro r hr))
 have hTd:=hX (T9,Ap ys) (.head _)
 exact hK _ d _ _ ⟨X9,dx9,T9,tk,ys,rfl,rfl,rfl,hz⟩ (λp hp r hr=>(lC hp).elim (λe=>e▸Nat.lt_trans (Nat.lt_trans (hD r hr) hTd) hlt) λhp=>(lC hp).elim (λe=>e▸Nat.lt_trans (hD r hr) hTd) λhp=>lS hp▸hD r hr)
  (SubL.cons (.head _) (SubL.cons (.tail _ (.head _)) (SubL.cons (.tail _ (.tail _ (.head _))) (List.forall_mem_nil _)))) λp hp=> .tail _ (.tail _ (.tail _ (.tail _ hp)))
end
example:Fl:=by walk_at "zF"
section
theorem No{w:World}{X dx T W:Addr}{tk0 t44:Tok}{vs vr:List Value}{gs rs:List Int}{cr:Nat}{p:Program}{loose:List Str}{mean:ExcName->Option Value}{mg mb:Str->Option Value}{A A₀:Around}{env:Env}{outer:List Env}{base h₀:Heap}{L:Addr}{m:Str->Option Value}{big:List (Addr×Obj)}(news:List (Addr×Obj)){s:Shared}{Q E:Value->Shared->Prop}(hi:IntsAre vs gs)(hr:IntsAre vr rs)(hl:gs.length<=60)(hrl:rs.length<=61)(he:rs.length≠gs.length)
  (hA:A.frames=some (env::outer))(hf:env.frame=some L)(hk:env.scope.kind= .function)(hh:A.handled=none)(hd':A.depth+8<recursionLimit)(hu:A.units+8*8<cLine)(B:Below A₀ base outer h₀)(XX:(hd.heap_39 w.params).In h₀)(TT:Top p loose mean mg mb h₀)(F:Fr h₀ L s.heap m)(N:News h₀ L s.heap big)
  (hs:∀q∈(W,listOf vr.toArray cr)::Al w X dx T tk0 vs++news,q∈big)(hap:∀q∈news,∀r∈(W,listOf vr.toArray cr)::Al w X dx T tk0 vs,q.1≠r.1)
  (h:∀e h' tk',Dj w base h₀ (env::outer) L m ((W,listOf vr.toArray cr)::Al w X dx T tk0 vs++news) 44 e h'->E (.ref e) {s with heap:=h',toks:=tk'}):
  wpAny (model PySem.Challenge.rw_nu0172_01.row.prog w) A (call (.ref 380) [.ref X,.ref W,.int 44 t44]) Q E s:=
 wpAny_call (U4 (X:=X) (dx:=dx) (T:=T) (tk0:=tk0) (cr:=cr) (W:=W) (t44:=t44) hi hr hl hrl he p loose mean mg mb A A₀ env outer base h₀ L m news s _ hA hf hk hh hd' hu B XX TT F (λq hq=>N q (hs q hq)) hap h)
noncomputable def mF(FA X:Addr)(u:Str->Option Value):Str->Option Value:=λy=>if y=Str.ofString "faults" then some (.ref FA) else if y=Str.ofString "coverage" then some (.ref X) else u y
theorem Kq{FA X:Addr}{m:Str->Option Value}(h1:m (Str.ofString "faults")=some (.ref FA))(h2:m (Str.ofString "coverage")=some (.ref X)):m=mF FA X m:=by
 funext y
 unfold mF
 by_cases e1:y=Str.ofString "faults"
 ·rw [if_pos e1,e1,h1]
 ·rw [if_neg e1]
  by_cases e2:y=Str.ofString "coverage"
  ·rw [if_pos e2,e2,h2]
  ·rw [if_neg e2]
theorem Oy(X:(hd.heap_39 w.params).In h₀)(F:Fr h₀ L s.heap m)(N:News h₀ L s.heap news)(p1:Pick news (e,Ar a0 tb dx) r1)(p2:Pick news (dx,B6 w tk1 tk2 x t n u) r2)
  (h:Q (.int n u) {s with toks:=s.toks+1}):wpAny (model PySem.Challenge.rw_nu0172_01.row.prog w) A (getAttr (.ref e) "at" expr) Q E s:=
 Ph (X.keeps F.keep) (N _ (p1.sub _ (.head _))).1 (N _ (p2.sub _ (.head _))).1 rfl rfl h
theorem Wd{kvs:List (Int×Value)}{k:Int}{v:Value}(hnd:(kvs.map (·.1)).Nodup)(hm:(k,v)∈kvs):valueAt kvs k=some v:=by
 induction kvs with
 | nil=>cases hm
 | cons p r ih=>
  rw [List.map_cons,List.nodup_cons] at hnd
  unfold valueAt
  rw [List.find?_cons]
  rcases lC hm with rfl | hm
  ·simp
  ·have hne:p.1≠k:=λe=>hnd.1 (by rw [e];exact List.mem_map_of_mem (f:=(·.1)) hm)
   simp only [hne,decide_false]
   exact ih hnd.2 hm
section
variable {prog:Program}{w:World}{A:Around}{E:Value->Shared->Prop}{s:Shared}{h₀:Heap}{L a b:Addr}{news r1 r2:List (Addr×Obj)}{oa ob:Obj}{kvs:List (Int×Value)}{Q:Value->Shared->Prop}
theorem Tv(N:News h₀ L s.heap news)(pa:Pick news (a,oa) r1)(pb:Pick news (b,ob) r2)(da:oa.IsDictOf (intKind prog w) kvs)(db:ob.IsDictOf (intKind prog w) kvs)(la:(a==sysModules)=false)(lb:(b==sysModules)=false)(hu:A.units<cLine)
  (hf:∀p∈kvs,∃n t,p.2= .int n t)(h:Q (.bool false) s):wpAny (model prog w) A (compareOp .NotEq (.ref a) (.ref b)) Q E s:=by
 have hnd:(kvs.map (·.1)).Nodup:=da.choose_spec.choose_spec.2.2.2.2
 refine kne_pairs N (pa.sub _ (.head _)) (pb.sub _ (.head _)) da db la lb rfl hu (r:=true) ?_ h
 have key:∀l:List (Int×Value),(∀p∈l,p∈kvs)->KeqHits A.in1 s kvs l true:=by
  intro l
  induction l with
  | nil=>exact λV=> .nil
  | cons p l ih=>
   intro hl
   obtain ⟨k,v⟩:=p
   obtain ⟨n,t,e⟩:=hf _ (hl _ (.head _))
   have e':v= .int n t:=e
   subst e'
   have hv:valueAt kvs k=some (.int n t):=Wd hnd (hl _ (.head _))
   have z:=KeqHits.hit (A:=A.in1) (s:=s) (kb:=kvs) hv (keq_flat (.int n t) (.int n t)) (ih λp hp=>hl p (.tail _ hp))
   rw [show PyData.eqv (.int n) (.int n)=true by simp [PyData.eqv]] at z
   exact z
 exact key kvs λV h=>h
end
theorem Lw{h₀ h:Heap}{L:Addr}{big ro:Led}(N:News h₀ L h big)(hro:∀p∈ro,p∈big):∃news,(∀q∈news,q∈big)/\(∀q∈news,∀r∈ro,q.1≠r.1)/\∀p∈big,p∈ro++news:=by
 refine ⟨big.filter λp=>decide (p.1∉ro.map (·.1)),λq hq=>(List.mem_filter.mp hq).1,λq hq r hr e=>of_decide_eq_true (List.mem_filter.mp hq).2 (e▸List.mem_map_of_mem hr),λp hp=> ?_⟩
 by_cases h:p.1∈ro.map (·.1)
 ·obtain ⟨r,hr,e⟩:=List.mem_map.mp h
  exact lL _ (Bg N r (hro r hr) p hp e▸hr)
 ·exact lR _ (List.mem_filter.mpr ⟨hp,decide_eq_true h⟩)
theorem Nm{w:World}{X dx T W:Addr}{tk0 t44:Tok}{vs vr:List Value}{gs rs:List Int}{cr:Nat}{p:Program}{loose:List Str}{mean:ExcName->Option Value}{mg mb:Str->Option Value}{A A₀:Around}{env:Env}{outer:List Env}{base h₀:Heap}{L:Addr}{m:Str->Option Value}{big:Led}{s:Shared}{Q E:Value->Shared->Prop}(hi:IntsAre vs gs)(hr:IntsAre vr rs)(hl:gs.length<=60)(hrl:rs.length<=61)(he:rs.length≠gs.length)
  (hA:A.frames=some (env::outer))(hf:env.frame=some L)(hk:env.scope.kind= .function)(hh:A.handled=none)(hd':A.depth+8<recursionLimit)(hu:A.units+8*8<cLine)(B:Below A₀ base outer h₀)(XX:(hd.heap_39 w.params).In h₀)(TT:Top p loose mean mg mb h₀)(F:Fr h₀ L s.heap m)(N:News h₀ L s.heap big)
  (hro:∀q∈(W,listOf vr.toArray cr)::Al w X dx T tk0 vs,q∈big)
  (h:∀e h' tk' l',(∀p∈big,p∈l')->Dj w base h₀ (env::outer) L m l' 44 e h'->E (.ref e) {s with heap:=h',toks:=tk'}):
  wpAny (model PySem.Challenge.rw_nu0172_01.row.prog w) A (call (.ref 380) [.ref X,.ref W,.int 44 t44]) Q E s:=by
 obtain ⟨news,n1,n2,n3⟩:=Lw N hro
 exact No news hi hr hl hrl he hA hf hk hh hd' hu B XX TT F N (λq hq=>(lA hq).elim (hro q) (n1 q)) n2 λe h' tk' hO=>h e h' tk' _ n3 hO
section
variable {C:Cd}{n:Nat}{w:World}{x:Str}{px pos p2 p3 p4:Pos}{e e1 e2 e3:PySem.Expr}{S:Si C n w}{d:Drawn}{m:Loc}{l:Led}{D D2:Addr}{a:Int}{p:Prop}{vs:List Value}{ns:List Int}{cN kd:Nat}{κ:Value->Drawn->Led->Prop}
theorem X.ite(hb:Bv S m l e p)(h1:p->X S d m l e1 κ)(h2:¬p->X S d m l e2 κ):X S d m l (.IfExp e e1 e2 pos) κ:=
 ⟨λh k Q A hq=>wpAny_IfExp (hb.run h d k _ A λb h' k1 hi A'=>by
  cases b with
  | true=>exact (h1 (hi.mp rfl)).run h' k1 Q A' hq
  | false=>exact (h2 λhp=>nbF (hi.mpr hp)).run h' k1 Q A' hq)⟩
theorem X.from(hd:Ev S m l (.Name x px) (· = .ref D))(hm:(D,listOf vs.toArray cN)∈l)(hi:IntsAre vs ns)(ha:0<=a)(hl:ns.length<=1000)(h:∀R ws,IntsAre ws (ns.drop a.toNat)->(∀p∈l,p.1<R)->κ (.ref R) d ((R,listOf ws.toArray 0)::l)):X S d m l (.Subscript (.Name x px) (.Slice (some (.Constant (.int a) kd p2)) none none p3) pos) κ:=
 ⟨λh9 k Q A hq=>Subscript_ (hd.run h9 d k _ A λv h1 k1 hv A1=>by
  subst hv
  refine wpAny_Slice ?_
  show wpAny _ _ (eval _ _) _ _ _
  refine wpAny_Constant_int ?_
  show wpAny _ _ (pure _) _ _ _
  refine wpAny_pure ?_
  show wpAny _ _ (pure _) _ _ _
  refine wpAny_pure ?_
  exact kmk_slice_ints A1.F A1.N (News.isList A1.N1 hm) (IsPart.int _ _) IsPart.none hi (kmk_from hi ha) rfl (λR ws h' F N hlt hws V V=>hq _ _ _ _ _ (h R ws hws λp hp=>hlt p (lL _ hp)) (A1.new F N hlt)) (by with_unfolding_all rfl) (λV=>by with_unfolding_all rfl) (by rw [List.size_toArray,IntsAre.length hi,sizeLine_eq];exact nTr hl (nLe rfl)))⟩
theorem Si.low(S:Si C n w):sysModules<S.h₀.objs.size:=by
 exact S.H.on λV V V V V V V V V V V T V V V V V V=>modules_low T.nolimit
theorem Nf:Bi (Str.ofString "dict") (.type "dict"):=⟨λw=>by k_is,by rfl⟩
theorem X.dictZip(h1:Ev S m l e1 (· = .ref l1))(h2:Ev S m l e2 (· = .ref l2))(m1:(l1,listOf xs.toArray c1)∈l)(m2:(l2,listOf ys.toArray c2)∈l)(i1:IntsAre xs as)(hnd:as.Nodup)(hl:as.length=ys.length)(hn:as.length<=1000)
  (h:∀d9 o,o.IsDictOf (intKind PySem.Challenge.rw_nu0172_01.row.prog w) (as.zip ys)->(d9==sysModules)=false->(∀p∈l,p.1<d9)->κ (.ref d9) d ((d9,o)::l))
  (ok:okB C (Str.ofString "zip") [e1,e2]=true:=by exact Eq.refl true)(ok2:glbOk C (Str.ofString "dict")=true:=by exact Eq.refl true):X S d m l (.Call (.Name (Str.ofString "dict") p2) [.Call (.Name (Str.ofString "zip") p3) [e1,e2] [] p4] [] pos) κ:=
 ⟨λh9 k Q A hq=>Call_ ((Ev.bi Nf ok2).run h9 d k _ A λv h1' k1 hv A1=>by
  subst hv
  refine PyProof.Rows.callWith_type1 (args_cons (Call_ ((Ev.bi G6 (Bs ok)).run h1' d k1 _ A1 λv h2' k2 hv A2=> ?_) Bm) (Ad rfl)) (Ad rfl) rfl
  subst hv
  refine PyProof.Rows.callWith_type1 (args_cons (h1.run h2' d k2 _ A2 λva h3 k3 e3 A3=>args_cons (h2.run h3 d k3 _ A3 λvb h4 k4 e4 A4=>args_nil ?_) (Ad (all1 (all2 (Aj ok))))) (Ad (all1 (Aj ok)))) (Ad (all1 (Aj ok))) (Bz (all2 (Aj ok)))
  subst e3 e4
  obtain ⟨_,q1⟩:=As m1
  obtain ⟨_,q2⟩:=As m2
  refine Ij A4.F A4.N (q1.app S.own) (q2.app S.own) λz h5 F5 N5 Z=>args_nil ?_
  exact Op S.hh F5 N5 S.low Z i1 hnd hl hn λd9 o h6 tk6 F6 N6 hd lo hlt=>hq _ _ _ _ _ (h d9 o hd lo λp hp=>hlt p (lL _ hp)) (A4.new F6 N6 hlt)) Bm⟩
theorem CM.dicts(ha:(D,o)∈l)(hb:(D2,o2)∈l)(da:o.IsDictOf (intKind PySem.Challenge.rw_nu0172_01.row.prog w) kvs)(db:o2.IsDictOf (intKind PySem.Challenge.rw_nu0172_01.row.prog w) kvs)(la:(D==sysModules)=false)(lb:(D2==sysModules)=false)(hf:∀p∈kvs,∃n t,p.2= .int n t)(hn:decide (8<=n)=true:=by exact Eq.refl true):CM S d m l .NotEq (.ref D) (.ref D2) false:=by
 obtain ⟨_,pa⟩:=As ha
 obtain ⟨_,pb⟩:=As hb
 exact ⟨λh9 k Q A hq=>Tv A.N1 pa pb da db la lb (Nat.lt_of_le_of_lt (Nat.le_add_right _ _) (S.units hn)) hf (hq _ _ A)⟩
end
noncomputable def E8(n:Nat)(FA:Addr)(l:Led)(x:Value):Prop:=∃(W:Addr) (vW:List Value) (rW:List Int) (cW:Nat),x= .ref W/\(W,listOf vW.toArray cW)∈l/\IntsAre vW rW/\rW.length≠n/\rW.length<=61/\W≠FA
noncomputable def Mz(n:Nat)(FA:Addr)(l0:Led)(v:Value)(l':Led):Prop:=∃(G2:Addr) (x1 x2:Value) (c0:Nat),v= .ref G2/\(G2,listOf [x1,x2].toArray c0)∈l'/\E8 n FA l' x1/\E8 n FA l' x2/\∀p∈l0,p∈l'
theorem WR.tailFor{cn:Str}{cs:Scope}{fa:Addr}{cc:Value}{n:Nat}{w:World}{S:Si (P4 cn cs fa cc) n w}{K:Flow->Shared->Prop}{ro l:Led}{Post:Value->Led->Prop}{G:Gx}{d:Drawn}{m:Loc}{target e:PySem.Expr}{body rest:List Stmt}{pos:Pos}(X9:XT S K ro Post G)
  (he:X S d m l e λv d' l'=>∀(g:Heap) (L:Addr) (gens:Array GenState) (os:OsState) (h:Heap) (k:Nat),Gh G w g->(∀v s',(∃h0 d0 k0,LeaveX G.Ll g L ro Post ⟨h0,gens,d0,k0,os⟩ v s')->K (.ret v) s')->Fr g L h m->News g L h l'->Aw l'->
   wpAny (mdl w) (Around.deeper G.A (envOf cn cs L fa cc)) (pyIter v) (Dg PySem.Challenge.rw_nu0172_01.row.prog w (Around.deeper G.A (envOf cn cs L fa cc)) (envOf cn cs L fa cc) target body (Behind (mdl w) (Around.deeper G.A (envOf cn cs L fa cc)) rest (envOf cn cs L fa cc) K λV V=>False)) (λV V=>False) ⟨h,gens,d',k,os⟩) (ok:Af e=true:=by exact Eq.refl true):WR S K d m l (.For target e body [] pos::rest) []:=
 ⟨λh k A=>Az (F0 (he.run h k _ A λv d' l' h' k' z A'=>by
  have z:=z S.h₀ S.L S.g S.o h' k' X9.h X9.K A'.F A'.N1 A'.D
  show wpAny (mdl w) S.A (pyIter v) (Dg _ w S.A (envX cn cs S.L fa cc S.cl) target body (Behind (mdl w) S.A rest (envX cn cs S.L fa cc S.cl) K S.E)) S.E _
  rw [X9.A,X9.cl,X9.E];exact z) λV=>fold_plain ok)⟩
structure My(FA X:Addr)(r:Led)(i:Nat)(m:Loc)(nx:Led):Prop where
 f:m (Str.ofString "faults")=some (.ref FA)
 c:m (Str.ofString "coverage")=some (.ref X)
 ex:∃vf cf,nx=(FA,listOf vf.toArray cf)::r/\IntsAre vf (List.replicate i 44)
theorem Ru:IntMulOk a 3:= .of_right (by decide)
theorem Se{P:(Flow->Shared->Prop)->Prop}{K:Flow->Shared->Prop}(h:∀KT:Flow->Shared->Prop,(∀s,K .next s->KT .next s)->P KT):P K:=h K λV z=>z
theorem To(N:News g L h (b::c::l10))(hin:∀p∈i::a::r,p∈l10):News g L h (a::b::c::i::r):=λp hp=>N p (by
 rcases lC hp with e | hp
 ·exact .tail _ (.tail _ (hin _ (e▸ .tail _ (.head _))))
 rcases lC hp with e | hp
 ·exact e▸ .head _
 rcases lC hp with e | hp
 ·exact e▸ .tail _ (.head _)
 exact .tail _ (.tail _ (hin _ ((lC hp).elim (λe=>e▸ .head _) λhp=> .tail _ (.tail _ hp)))))
theorem Tn{w:World}{g h:Heap}{L FA e dxe T11 I:Addr}{vf:List Value}{cf:Nat}{a11:Value}{tk1 tk2 t u9:Tok}{x:Str}{oI:Obj}{r:Led}(N12:News g L h ((FA,listOf vf.toArray cf)::(e,Ar a11 (.ref T11) dxe)::(dxe,B6 w tk1 tk2 x t 44 u9)::(I,oI)::r))(hI:FA≠I)(hr:∀p∈r,FA≠p.1):∀p∈(e,Ar a11 (.ref T11) dxe)::(dxe,B6 w tk1 tk2 x t 44 u9)::(I,oI)::r,p.1≠FA:=λp hp=>by
 rcases lC hp with e | hp
 ·exact e▸Hw N12 (.tail _ (.head _)) (.head _) λq=>by cases q
 rcases lC hp with e | hp
 ·exact e▸Hw N12 (.tail _ (.tail _ (.head _))) (.head _) λq=>by have q2:=congrArg Obj.data q;cases q2
 exact (lC hp).elim (λe=>e▸hI.symm) λhp=>(hr p hp).symm
example:True:=by
 k_with "call ref"=>((with_unfolding_all show wpAny _ _ (call (Value.ref 380) [_,_,_] _) _ _ _);refine Stop.out ?_)
 trivial
example:True:=by
 k_with "getAttr ref"=>(refine' Oy ?y1 ?y0 ?y2 ?y3 ?y4 ?_;(case y1=>assumption);(case y0=>k_asm);(case y2=>k_asm);(case y3=>repeat (first | exact Pick.here | apply Pick.there));(case y4=>repeat (first | exact Pick.here | apply Pick.there)))
 trivial
example:True:=by
 k_with "call builtin:list.append"=>(refine Stop.out ?_)
 trivial
example:True:=by
 k_with "bind"=>(refine Stop.out ?_)
 trivial
theorem Vg{w:World}{X dx T G:Addr}{tk0:Tok}{vs vg:List Value}{gs:List Int}{cg:Nat}(hi:IntsAre vs gs)(hg:IntsAre vg gs)(hl:gs.length<=50)(hs:gs.Pairwise (· < ·))(hr:∀x∈gs,0<=x/\x<=65535):
  TelX w 423 16 ⟨[.ref X,.ref G],[]⟩ ((G,listOf vg.toArray cg)::Al w X dx T tk0 vs) (λv new=>v= .bool true/\new= []):=by
 refine' L7 (j:=15) [(Str.ofString "coverage",.ref X),(Str.ofString "glyphs",.ref G)] ?k6 ?k7 ?k9 ?kB ?kC ?kl ?_ ?c2 ?c3 ?c4
 case k6=>k_is
 case k7=>k_is
 case k9=>exact λV V=>BindsTo.of_eq rfl
 case kB=>exact rfl
 case kC=>exact λV=>rfl
 case kl=>exact λp hp=>(lC hp).elim (λe=>by rw [e];rfl) λhp=>by rw [List.mem_singleton.mp hp];rfl
 case c2=>exact rfl
 case c3=>exact rfl
 case c4=>exact rfl
 intro S K d m l₁ G9 X9 hro v1 v2
 have hG:=hro _ (.head _)
 have hnd:gs.Nodup:=hs.imp λh=>Int.ne_of_lt h
 have hgl:=IntsAre.length hg
 have hl3:gs.length<=1000:=nTr hl (nLe rfl)
 refine WR.comp (CR.of Dm (Mine.X.evV (Ev.nameV v2) ⟨rfl,Cm.mapI (f:=λg=>g*3+1) hG .list hg (λS' a t V hI=>Ev.add (Ev.mul (hI.nm _ _ _).toI Ev.int Ru) Ev.int) hl3 λys hy D1 hD1=> ?_⟩))
 have hyl:=IntsAre.length hy
 rw [List.length_map] at hyl
 have hc1:∀p∈Al w X dx T tk0 vs,p∈(D1,PyProof.Rows.LCg.lst ys)::l₁:=λp hp=> .tail _ (hro p (.tail _ hp))
 have hfz:∀p∈gs.zip ys,∃n t,p.2= .int n t:=λp hp=>by
  obtain ⟨q,hq,e⟩:=List.getElem_of_mem (List.of_mem_zip (show (p.1,p.2)∈gs.zip ys from hp)).2
  obtain ⟨n,t,e2,_⟩:=IntsAre.at hy q p.2 (by rw [List.getElem?_eq_getElem hq,e])
  exact ⟨n,t,e2⟩
 refine WR.ifNot (BR.cmp (c:=false) (XR.any (Mine.X.f2 O1 (Mine.X.evV (Ev.nameV v1) (Mine.X.evV (Ev.nameV rfl) (CX.tel0 (Vj (X:=X) (dx:=dx) (T:=T) (tk0:=tk0) (W:=D1) (cr:=ys.length) hi hy (nTr hl (nLe rfl)) (List.length_map _) hs) (SubL.cons (.head _) hc1) λv mu' new l2 hP s1 s2=> ?c1))))))
 case c1=>
 obtain ⟨d9,o9,e1,_,e3,i9,lo9⟩:=hP
 subst e1 e3
 refine XR.any (Mine.X.dictZip (Ev.nameV v2) (Ev.nameV rfl) (s1 _ (.tail _ hG)) (s1 _ (.head _)) hg hnd hyl.symm hl3 λd8 o8 i8 lo8 V=>⟨CM.dicts (.tail _ (s2 _ (.head _)).1) (.head _) i9 i8 lo9 lo8 hfz,rfl,WR.nil (WR.assignX (Mine.X.list0 λFA hFA=> ?_))⟩)
 have hs3:∀p∈(D1,PyProof.Rows.LCg.lst ys)::l₁,p∈(d8,o8)::l2:=λp hp=> .tail _ (s1 p hp)
 generalize (d8,o8)::l2=l3 at hFA hs3 ⊢
 refine WR.tailFor X9 (Mine.X.mono (κ:=λv V l'=>Mz gs.length FA ((FA,listOf (#[]:Array Value) 0)::l3) v l') ?src λv d' l' z g L gens os h k Y hK F N hDi=> ?_)
 case src=>
  have e1:∀ {z:List Value},IntsAre z [5]->IntsAre (ys++z) ((gs.map λg=>g*3+1)++ [5]):=λh=>ints_app hy h
  refine Mine.X.list2 (Mine.X.addL (Mine.X.evV (Ev.nameV rfl) (Mine.X.listI (.cons Ev.int rfl .nil) (nLe rfl) λB1 u1 hu1 V=>⟨D1,B1,ys,u1,_,_,rfl,rfl,.tail _ (.tail _ (hs3 _ (.head _))),.head _,?z1,λW1 c1 hW1=> ?_⟩)))
  case z1=>
   have:=IntsAre.length hu1
   rw [hyl,this];exact nTr (Nat.add_le_add_right hl _) (nLe rfl)
  have w1:∀l9,(∀p∈(W1,listOf (ys++u1).toArray c1)::(B1,listOf u1.toArray 0)::(FA,listOf (#[]:Array Value) 0)::l3,p∈l9)->E8 gs.length FA l9 (.ref W1):=λl9 h9=>⟨W1,_,_,c1,rfl,h9 _ (.head _),e1 hu1,by rw [List.length_append,List.length_map];exact Nat.ne_of_gt (Nat.lt_succ_self _),by rw [List.length_append,List.length_map];exact Nat.add_le_add_right (nTr hl (nLe rfl)) 1,Nat.ne_of_gt (hW1 _ (.tail _ (.head _)))⟩
  refine Mine.X.ite (Bv.list (Ev.nameV rfl) (.tail _ (.tail _ (.tail _ (hs3 _ (.head _))))) (by rw [hyl];exact Nat.lt_of_le_of_lt hl (by decide))) (λhp=>Mine.X.from (Ev.nameV rfl) (.tail _ (.tail _ (.tail _ (hs3 _ (.head _))))) hy (by decide) (by rw [List.length_map];exact hl3) λW2 ws hws hW2 D hD=> ?_) λhp=>Mine.X.listI (.cons Ev.int rfl .nil) (nLe rfl) λW2 ws hws hW2 D hD=> ?_
  ·have hy0:gs.length≠0:=λe=>hp (List.eq_nil_of_length_eq_zero (hyl.trans e))
   exact ⟨D,_,_,0,rfl,.head _,w1 _ λp hp=> .tail _ (.tail _ hp),⟨W2,ws,_,0,rfl,.tail _ (.head _),hws,by rw [List.length_drop,List.length_map];exact Nat.ne_of_lt (Nat.sub_lt (Nat.pos_of_ne_zero hy0) (by decide)),by rw [List.length_drop,List.length_map];exact nTr (Nat.sub_le _ _) (nTr hl (nLe rfl)),Nat.ne_of_gt (hW2 _ (.tail _ (.tail _ (.head _))))⟩,λp hp=> .tail _ (.tail _ (.tail _ (.tail _ hp)))⟩
  ·have hy0:gs.length=0:=by
    rw [<-hyl]
    cases ys with
    | nil=>rfl
    | cons _ _=>exact absurd (λe=>nomatch e) hp
   exact ⟨D,_,_,0,rfl,.head _,w1 _ λp hp=> .tail _ (.tail _ hp),⟨W2,ws,_,0,rfl,.tail _ (.head _),hws,by rw [hy0];exact Nat.succ_ne_zero _,nLe rfl,Nat.ne_of_gt (hW2 _ (.tail _ (.tail _ (.head _))))⟩,λp hp=> .tail _ (.tail _ (.tail _ (.tail _ hp)))⟩
 obtain ⟨G2,x1,x2,c0,e1,hG2,hx1,hx2,hs4⟩:=z
 subst e1
 obtain ⟨r,hpk⟩:=As (hs4 _ (.head _))
 have hDr:=List.pairwise_cons.mp (C4 hpk.perm.symm hDi)
 have inr:∀p∈l',p.1≠FA->p∈r:=λp hp h=>(lC (hpk.perm.mem_iff.mpr hp)).elim (λe=>absurd (e▸rfl) h) id
 have hrF:∀p∈r,FA≠p.1:=λp hp=>(hDr.1 p hp).symm
 have hcov:∀p∈(G,listOf vg.toArray cg)::Al w X dx T tk0 vs,p∈r:=λp hp=>inr p (hs4 p (.tail _ (hs3 p (.tail _ (hro p hp))))) (Nat.ne_of_lt (hFA p (hs3 p (.tail _ (hro p hp)))))
 have hw:∀x,E8 gs.length FA l' x->∃(W:Addr) (vW:List Value) (rW:List Int) (cW:Nat),x= .ref W/\(W,listOf vW.toArray cW)∈r/\IntsAre vW rW/\rW.length≠gs.length/\rW.length<=61:=λx z=>z.imp λW z=>z.imp λvW z=>z.imp λrW z=>z.imp λcW z=>⟨z.1,inr _ z.2.1 z.2.2.2.2.2,z.2.2.1,z.2.2.2.1,z.2.2.2.2.1⟩
 have hG3:(G2,listOf [x1,x2].toArray c0)∈r:=inr _ hG2 λe=>by
  have:=Bg N _ hG2 _ (hs4 _ (.head _)) e
  cases this
 have N1:News g L h ((FA,listOf ([]:List Value).toArray 0)::r):=λp hp=>N p (hpk.perm.mem_iff.mp hp)
 have hfl:([G9.env].filterMap (·.frame))= [G9.Ll]:=by rw [List.filterMap_cons,X9.b.fr];rfl
 have hlen:gs.length<=60:=nTr hl (nLe rfl)
 have hb:=X9.b
 clear N hG2 hs4 hDi hpk inr hDr X9 hro hs3 hFA hfz hc1 hl hs hr hg hyl hy hgl hl3 hnd hG
 refine Q3 (c:=c0) (vs:= [x1,x2]) (λg'=>KtsTurn [G9.Ll] g g'/\Gh G9 w g') (My FA X r) rfl ⟨.refl,Y⟩ F N1 (λi m nx z=>z.ex.elim λV z=>z.elim λV z=>z.1▸ .tail _ hG3) ⟨rfl,v1,[],0,rfl,.nil⟩ ?_ ?_
 ·intro I oI i v g' m nx h tk dr hv hR hJ off F9 N9
  obtain ⟨W,vW,rW,cW,e,hW,iW,nW,lW⟩:∃(W:Addr) (vW:List Value) (rW:List Int) (cW:Nat),v= .ref W/\(W,listOf vW.toArray cW)∈r/\IntsAre vW rW/\rW.length≠gs.length/\rW.length<=61:=by
   cases i with
   | zero=>exact hw _ (sJ hv▸hx1)
   | succ i=>cases i with
    | zero=>exact hw _ (sJ hv▸hx2)
    | succ i=>exact nn hv
  subst e
  obtain ⟨vf,cf,e,hvf⟩:=hJ.ex
  subst e
  have tB:=hR.2.B
  have tX:=hR.2.XX
  have tT:=hR.2.T
  rw [Kq hJ.f hJ.c] at F9
  refine Se (P:=λKT=>wpAny _ _ _ (λV s2=>wpR _ _ _ KT _ s2) _ _) λKT hKT=> ?_
  refine wpAny_bind (wpAny_of_eq (by with_unfolding_all rfl) ?_)
  k_steps
  refine (Az ?_:wpR _ _ (execs [_] _) _ _ _)
  refine Lc ?_
  refine Av ?_
  k_steps
  refine ⟨?_⟩
  refine Nm (X:=X) (dx:=dx) (T:=T) (tk0:=tk0) (cr:=cW) (big:=(I,oI)::(FA,listOf vf.toArray cf)::r) hi iW hlen lW nW rfl rfl rfl rfl (by simp only [depth_deeper,Around.deeper_units];exact zn2 53231440195990179580824146209 rfl hb.d) (by simp only [depth_deeper,Around.deeper_units];exact zn2 54508994761778095410641602498849 rfl hb.u) tB tX tT (by assumption) (by assumption) (SubL.cons (.tail _ (.tail _ hW)) λp hp=> .tail _ (.tail _ (hcov p (.tail _ hp)))) ?_
  intro e h10 tk10 l10 hs10 hOut
  (try dsimp only);(try k_unfold);(try dsimp only)
  obtain ⟨G8,dxe,tk1,tk2,x,t,u9,FG,UG,RD⟩:=hOut
  refine Oe (KF:=Mine.hd.heap_39 w.params) RD FG tB UG hb.XB hb.TB hR.2.KD (by k_is) (by kts_isx) (λh11 g11 T11 a11 tk11 TT1 F11 N11 B11 X11 T12 D11=> ?_)
  unfold mF at F11
  have hin:∀p∈(I,oI)::(FA,listOf vf.toArray cf)::r,p∈l10:=hs10
  have N12:News g11 L h11 ((FA,listOf vf.toArray cf)::(e,Ar a11 (.ref T11) dxe)::(dxe,B6 w tk1 tk2 x t 44 u9)::(I,oI)::r):=To N11 hin
  have hFe:∀p∈(e,Ar a11 (.ref T11) dxe)::(dxe,B6 w tk1 tk2 x t 44 u9)::(I,oI)::r,p.1≠FA:=Tn N12 (off _ (.head _)) hrF
  clear N11 hin
  k_steps
  refine ⟨?_⟩
  refine Iw (by assumption) (by assumption) (.head hFe) hvf (by rw [List.length_replicate];exact nTr (Nat.le_of_lt (List.getElem?_eq_some_iff.mp hv).1) (nLe rfl)) λh13 v13 c13 F13 N13 i13=> ?_
  k_steps
  refine ⟨?_⟩
  refine name_goes_keeps (by assumption) (by assumption) (λh14 v14 F14 N14=> ?_)
  refine (Cy ?_:wpR _ _ (execs [] _) _ _ _)
  rw [hfl] at TT1
  exact hKT _ ⟨g11,_,(FA,listOf v13.toArray c13)::r,h14,_,_,oI,rfl,⟨hR.1.trans TT1,B11,X11,T12,D11⟩,⟨rfl,rfl,v13,c13,rfl,List.replicate_succ'▸i13⟩,λp hp=>(lC hp).elim (λe=>e▸off (FA,listOf vf.toArray cf) (.head _)) λhp=>off p (.tail _ hp),F14,λp hp=>N14 p ((lC hp).elim (λe=> .tail _ (.tail _ (.tail _ (e▸ .head _)))) λhp=>(lC hp).elim (λe=>e▸ .head _) λhp=> .tail _ (.tail _ (.tail _ (.tail _ hp)))),rfl⟩
 ·intro g' m nx h tk dr hR hJ F9 N9
  obtain ⟨vf,cf,e,hvf⟩:=hJ.ex
  subst e
  have hvf':IntsAre vf [44,44]:=hvf
  rw [Kq hJ.f hJ.c] at F9
  unfold mF at F9
  refine (Az ?_:wpR _ _ (execs [_] _) _ _ _)
  refine Lb ?_
  refine Av ?_
  k_steps
  refine ke_eq_ints (by is_list) (by is_list) hvf (by l_ints) (Nat.lt_of_le_of_lt (Nat.add_le_add_left (nLe rfl:3+64<=8* (15+1)) _) hb.u:G9.un+3+64<_) ?_
  unfold Behind
  exact hK _ _ ⟨h,d',k,Hq hR.1 (by assumption) (by assumption) (new:= []) (λp hp=> .tail _ (.tail _ (hcov p hp))) (λV h9=>no h9) ⟨rfl,rfl⟩⟩
example:True:=by
 k_with_none
 trivial
end
example:Fl:=by walk_at "zF"
section
namespace JF
theorem slot_join:Slot "bytes" "join" "bytes.join":=
 .of (owner:="bytes") (n:="join") (by rw [typeLookup_type,builtinLookup_eq_fast];kernel_rfl) (by decide+kernel) (by decide+kernel) (by decide+kernel)
  (by first | exact .inl (by decide+kernel) | exact .inr (by decide+kernel)) (by rw [isSubtype_type];kernel_rfl)
theorem entry_join:entryFor table "bytes.join"=some Builtin.«bytes.join»:=entryFor_of_tree (by kernel_rfl)
theorem args_join(a b:Value):argsOk "bytes.join" ⟨[a,b],[]⟩:=by unfold argsOk;kernel_rfl
end JF
inductive BytesAre:List Value->List (Array UInt8)->Prop
 | nil:BytesAre [] []
 | cons {vs:List Value} {bs:List (Array UInt8)} (b:Array UInt8) (t:Tok):BytesAre vs bs->BytesAre (.bytes b t::vs) (b::bs)
theorem BytesAre.length(h:BytesAre vs bs):vs.length=bs.length:=by
 induction h with
 | nil=>rfl
 | cons b t _ ih=>rw [List.length_cons,List.length_cons,ih]
theorem BytesAre.at(h:BytesAre vs bs):∀(i:Nat) (v:Value),vs[i]?=some v->∃b t,v= .bytes b t/\bs[i]?=some b:=by
 induction h with
 | nil=>intro i v e;simp at e
 | cons b t _ ih=>
  intro i v e
  cases i with
  | zero=>exact ⟨b,t,(sJ e).symm,rfl⟩
  | succ i=>exact ih i v (by simpa using e)
theorem Wh(f:Nat->β->Sem (ForInStep β))(I:Nat->β->Prop)(n:Nat)(init:β)(hI:I 0 init)
  (step:∀i b,i<n->I i b->wpAny M A (f i b) (λr s'=>s'=s/\∃b',r= .yield b'/\I (i+1) b') E s)(done:∀b,I n b->Q b s):wpAny M A (forIn [:n] init f) Q E s:=by
 rw [Std.Legacy.Range.forIn_eq_forIn_range']
 have key:∀(k i:Nat) (b:β),i+k=n->I i b->wpAny M A (forIn (List.range' i k) b f) Q E s:=by
  intro k
  induction k with
  | zero=>
   intro i b e h
   rw [List.range'_zero,List.forIn_nil]
   have:i=n:=Ac (zn2 46201267323168 rfl e) (zn2 11051187863840 rfl e)
   subst this
   exact wpAny_pure (done b h)
  | succ k ih=>
   intro i b e h
   rw [List.range'_succ,List.forIn_cons]
   refine wpAny_bind (wpAny_mono (step i b (by exact zn3 48506076749922593 rfl e) h) (λr s' h'=> ?_) λV V z=>z)
   obtain ⟨rfl,b',rfl,hb⟩:=h'
   exact ih (i+1) b' (by exact Ac (zn3 88604346308972075700512 rfl e) (zn3 13083412029643868995872 rfl e)) hb
 have e:(Std.Legacy.Range.mk 0 n 1 (by decide)).size=n:=by simp [Std.Legacy.Range.size]
 show wpAny M A (forIn (List.range' 0 ([:n]:Std.Legacy.Range).size 1) init f) Q E s
 rw [show ([:n]:Std.Legacy.Range).size=n by simp [Std.Legacy.Range.size]]
 exact key n 0 init (Nat.zero_add n) hI
section
variable {M:Model}{A:Around}{E:Value->Shared->Prop}{s:Shared}
theorem foldl_size(bs:List (Array UInt8))(b:Array UInt8):(bs.foldl (· ++ ·) b).size=bs.foldl (λx1 x2=>x1+x2.size) b.size:=by
 induction bs generalizing b with
 | nil=>rfl
 | cons c bs ih=>rw [List.foldl_cons,List.foldl_cons,ih,Array.size_append]
theorem Qc(bs:List (Array UInt8)):Builtin.Bytes.joined #[] bs=bs.foldl (· ++ ·) #[]:=by
 unfold Builtin.Bytes.joined
 have key:∀(bs:List (Array UInt8)) (k:Nat) (b:Array UInt8),(bs.zipIdx k).foldl (λout (x:Array UInt8×Nat)=>(if x.2>0 then out++ #[] else out)++x.1) b=bs.foldl (· ++ ·) b:=by
  intro bs
  induction bs with
  | nil=>exact λk b=>rfl
  | cons c bs ih=>
   intro k b
   rw [List.zipIdx_cons,List.foldl_cons,List.foldl_cons,ih]
   congr 1
   split<;>simp
 exact key bs 0 #[]
theorem take_bytes{id:String}{b:Array UInt8}{t:Tok}:Builtin.Bytes.takeBufferQuiet? id (.bytes b t) 0=pure (some (b,none)):=by
 unfold Builtin.Bytes.takeBufferQuiet? Builtin.Bytes.takeBuffer?
 rw [KBy.special_eq KBy.look_buffer]
 rw [pure_bind,KBy.own_buffer,pure_bind]
 show (Sem.attempt (Builtin.Bytes.buffer? id (.bytes b t) (0==Builtin.Bytes.fullReadOnly)>>=_)>>=_)=_
 rw [show (0==Builtin.Bytes.fullReadOnly)=false by decide,KBy.buffer_eq]
 rfl
theorem Q1(h:Q () s)(keep:List Value)(l:List (Array UInt8×Tok))(e:q=l.map λp=>(Value.bytes p.1 p.2,none)):wpAny M A (Builtin.Bytes.joinLetGo q keep) Q E s:=by
 subst e
 induction l with
 | nil=>exact wpAny_pure h
 | cons p l ih=>exact (wpAny_bind (wpAny_letGo ih):wpAny M A (letGo _ _>>= λV=>Builtin.Bytes.joinLetGo _ _) Q E s)
end
section
variable {prog:Program}{w:World}{A:Around}{E:Value->Shared->Prop}{s:Shared}{h₀:Heap}{L:Addr}{news rest:List (Addr×Obj)}{G:Addr}{vs:List Value}{bs:List (Array UInt8)}{c:Nat}{t₀:Tok}{Q:Value->Shared->Prop}
theorem Qa(N:News h₀ L s.heap news)(hp:Pick news (G,listOf vs.toArray c) rest)(hB:BytesAre vs bs)(h2:2<=bs.length)(hz:(bs.foldl (· ++ ·) #[]).size<=100000)
  (h:∀t tk,Q (.bytes (bs.foldl (· ++ ·) #[]) t) {s with toks:=tk}):wpAny (model prog w) A (call (.builtin "bytes.join") [.bytes #[] t₀,.ref G]) Q E s:=by
 have hlen:=hB.length
 rcases vs with _ | ⟨v1,_ | ⟨v2,vr⟩⟩
 ·exact absurd (hlen.symm.subst (motive:=λz=>2<=z) h2) (Nat.not_succ_le_zero 1)
 ·exact absurd (hlen.symm.subst (motive:=λz=>2<=z) h2) (Nat.not_succ_le_self 1)
 have hS:=(N _ (hp.sub _ (.head _))).1
 refine wpAny_call (codeAny_call_builtin JF.slot_join.plain JF.entry_join (JF.slot_join.check _ _ _ _ _ _ _ _ (typeIs_bytes _ _ _) (JF.args_join _ _) ?_))
 show wpAny _ _ (Builtin.Bytes.joinItems (.ref G)>>=_) _ _ s
 refine wpAny_bind (wpAny_bind (wpAny_typeOf (T:="list") ⟨_,hS,rfl⟩ (wpAny_ite_true (by decide) (wpAny_pure (wpAny_bind (wpAny_seqItems hS rfl (wpAny_ite_true (by decide) (wpAny_bind (Wh (s:=s) _ (λi (p:Array (Array UInt8)×List (Value×Option Value))=>p.1=(bs.take i).toArray/\∃l:List (Array UInt8×Tok),p.2=l.map λq=>(Value.bytes q.1 q.2,none)) _ _ ⟨rfl,[],rfl⟩ (λi p hi hI=> ?_) λp hI=> ?_)))))))))
 ·obtain ⟨e1,l,e2⟩:=hI
  have hi':i< (v1::v2::vr).length:=hi
  obtain ⟨b,t,hv,hb⟩:=hB.at i _ (List.getElem?_eq_getElem hi')
  have hg:(v1::v2::vr).toArray.getD i Value.none=Value.bytes b t:=by
   rw [Array.getD_eq_getD_getElem?,List.getElem?_toArray,List.getElem?_eq_getElem hi',hv];rfl
  have hany:(p.2.any λx=>x.1.onHeap)=false:=by
   rw [e2,List.any_eq_false]
   intro x hx
   obtain ⟨q,_,e⟩:=List.mem_map.mp hx
   rw [<-e];exact Bool.false_ne_true
  refine wpAny_bind (wpAny_seqItems hS rfl ?_)
  refine wpAny_ite_false (by rw [hany];rfl) ?_
  refine wpAny_bind (wpAny_holding (wpAny_of_eq (hg.symm▸take_bytes:Builtin.Bytes.takeBufferQuiet? _ ((v1::v2::vr).toArray.getD i Value.none) 0=_) ?_))
  refine wpAny_bind (wpAny_seqItems hS rfl ?_)
  refine wpAny_ite_false (by rw [bne_self_eq_false];rfl) ?_
  refine wpAny_pure ⟨rfl,_,rfl,?_,l++ [(b,t)],?_⟩
  ·show p.1.push b=_
   rw [e1,List.take_add_one,hb];exact List.push_toArray _ _
  ·show p.2++ [(_,none)]=_
   rw [e2,hg,List.map_append];rfl
 ·obtain ⟨e1,l,e2⟩:=hI
  have e1:p.1=bs.toArray:=by rw [e1,List.size_toArray,hlen,List.take_length]
  have hsum:p.1.foldl (λx1 x2=>x1+x2.size) ((#[]:Array UInt8).size* (p.1.size- 1))<=16777216:=by
   rw [e1,List.foldl_toArray,show ((#[]:Array UInt8).size* (bs.toArray.size- 1))=(#[]:Array UInt8).size from Nat.zero_mul _,<-foldl_size]
   exact nTr hz (nLe rfl)
  refine wpAny_bind (wpAny_of_eq (a:= #[]) rfl ?_)
  refine wpAny_ite_false (by rw [KBy.tooLong_not hsum];rfl) ?_
  have ej:Builtin.Bytes.joined #[] p.1.toList=bs.foldl (· ++ ·) #[]:=by rw [e1];exact Qc bs
  refine wpAny_bind (wpAny_mkBytes ?_ (by rw [ej,sizeLine_eq];exact nTr hz (nLe rfl)))
  refine wpAny_bind (wpAny_holding (wpAny_point (wpAny_bind (Q1 ?_ _ l e2))))
  exact wpAny_pure (ej.symm▸h _ _:Q (.bytes (Builtin.Bytes.joined #[] p.1.toList) _) _)
end
end
section
open PyProof.Rows.LCg PyProof.Rows.LCt
namespace JF
theorem plainAttrs:PlainAttrs "bytes":=
 ⟨⟨"bytes.__getattribute__",by rw [typeLookup_type,builtinLookup_eq_fast];kernel_rfl,by decide+kernel⟩,by rw [typeLookup_type,builtinLookup_eq_fast];kernel_rfl⟩
theorem type_join:typeOf (.builtin "bytes.join")=pure (.type "method_descriptor"):=by show builtinType _=_;rw [builtinType_eq_fast];kernel_rfl
end JF
theorem Qb(h:Q (.builtin "bytes.join",[.bytes b t]) s):wpAny (model prog w) A (getMethod (.bytes b t) "join" pl) Q E s:=
 getMethod_builtin (typeIs_bytes _ _ _) JF.plainAttrs JF.slot_join JF.type_join (λa e=>by cases e) h
theorem K1(ns:List Int):(ns.map Bf).foldl (· ++ ·) #[]=Ag ns:=by unfold Ag;rw [List.foldl_map]
section
variable {C:Cd}{n:Nat}{w:World}{px pos p2:Pos}{e:PySem.Expr}{kd:Nat}{S:Si C n w}{d:Drawn}{m:Loc}{l:Led}{κ:Value->Drawn->Led->Prop}
theorem X.join(ha:X S d m l e λv d' l'=>∃D vs c bs,v= .ref D/\(D,listOf vs.toArray c)∈l'/\BytesAre vs bs/\2<=bs.length/\(bs.foldl (· ++ ·) #[]).size<=100000/\∀t,κ (.bytes (bs.foldl (· ++ ·) #[]) t) d' l')(ok:Au e=true:=by exact Eq.refl true)(hp:(p2.endLine==pos.line)=true:=by exact Eq.refl true):X S d m l (.Call (.Attribute (.Constant (.bytes []) kd px) (Str.ofString "join") p2) [e] [] pos) κ:=
 ⟨λh k Q A hq=>MethodCall_ (Constant_bytes (Qb (callWith_method1 (args_cons (ha.run h _ _ A λv d' l' h2 k2 z A2=>args_nil (by
  obtain ⟨D,vs,c,bs,e1,hm,hB,h2,hz,z⟩:=z
  subst e1
  obtain ⟨r,hp⟩:=As hm
  exact Qa A2.N1 hp hB h2 hz λt tk=>hq _ _ _ _ _ (z t) A2)) (Ad ok)) (Ad ok) rfl))) (Dv rfl ok hp)⟩
end
theorem Rc{f:Int->Array UInt8}{ys:List Value}{ns:List Int}(hl:ys.length=ns.length)(h:∀(i:Nat) y,ys[i]?=some y->∃a,ns[i]?=some a/\∃t,y= .bytes (f a) t):BytesAre ys (ns.map f):=by
 induction ns generalizing ys with
 | nil=>rw [List.eq_nil_of_length_eq_zero hl];exact .nil
 | cons a ns ih=>
  cases ys with
  | nil=>exact nomatch hl
  | cons y ys=>
   obtain ⟨b,e,t,e2⟩:=h 0 y rfl
   cases e
   subst e2
   exact .cons _ _ (ih (Nat.succ.inj hl) λi y hy=>h (i+1) y hy)
theorem Vo{w:World}{G:Addr}{cg:Nat}{vg:List Value}{ns:List Int}(hi:IntsAre vg ns)(h2:2<=ns.length)(hl:ns.length<=300)(hr:∀x∈ns,0<=x/\x<=65535):
  TelD w 411 8 ⟨[.ref G],[]⟩ [] [(G,listOf vg.toArray cg)]
   (λv mu' new=>∃t,v= .bytes (Ag ns) t/\mu'= []/\new= []):=by
 refine' Uy (j:=7) [(Str.ofString "numbers",.ref G)] ?k6 ?k7 ?k9 ?kB ?kn ?_ ?c2 ?c3 ?c4 ?c5
 case k6=>k_is
 case k7=>k_is
 case k9=>exact λV V=>BindsTo.of_eq rfl
 case kB=>exact locs rfl
 case kn=>exact Eq.refl true
 case c2=>exact rfl
 case c3=>exact rfl
 case c4=>exact rfl
 case c5=>decide
 intro S K d m l₁ v1 hro hK hN
 have hG:=hro _ (.head _)
 have hvl:=IntsAre.length hi
 refine W.retX (Mine.X.join (Mine.X.comp (CR.of Dm (Mine.X.evV (Ev.nameV v1) ⟨rfl,Cm.map (R:=λi v=>∃a,ns[i]?=some a/\∃t,v= .bytes (Bf a) t) hG .list (λS' i v hv hI=> ?_) (by rw [hvl];exact nTr hl (nLe rfl)) λys h1 h3 D1 V=> ?_⟩))))
 ·obtain ⟨a,t,e,ha⟩:=IntsAre.at hi i v hv
  subst e
  obtain ⟨r0,r1⟩:=hr a (List.mem_of_getElem? ha)
  refine Ev.ofX λd=>Mine.X.t1 I9 (Mine.X.listI (ns:= [a.fdiv 256,a.fmod 256]) (.cons (Ev.div (hI.nm _ _ _).toI Ev.int (by decide) (by decide)) rfl (.cons (Ev.mod (hI.nm _ _ _).toI Ev.int (by decide)) rfl .nil)) (nLe rfl) λD vs hi2 V=>CX.bytes (.head _) hi2 (λx hx=> ?_) (nLe rfl) λt=>⟨⟨a,ha,t,?_⟩,rfl,λp hp=> .tail _ hp⟩)
  ·rw [Int.fdiv_eq_ediv_of_nonneg _ (by decide),Int.fmod_eq_emod_of_nonneg _ (by decide)] at hx
   rcases lC hx with e | hx
   ·subst e;omega
   ·rw [List.mem_singleton.mp hx];exact ⟨zi1 11044661541 rfl (Hm _ 256 rfl),zi1 295904833173438759206 rfl (Hl _ 256 rfl)⟩
  ·rw [Int.fdiv_eq_ediv_of_nonneg _ (by decide),Int.fmod_eq_emod_of_nonneg _ (by decide)];rfl
 ·have hB:BytesAre ys (ns.map Bf):=Rc (h1.trans hvl) h3
  exact ⟨D1,ys,_,_,rfl,.head _,hB,by rw [List.length_map];exact h2,by rw [K1,Cf];exact nTr (Nat.mul_le_mul_left 2 hl) (nLe rfl),λt=>by
   rw [K1]
   exact hK _ d [] _ ⟨t,rfl,rfl,rfl⟩ (λV h=>no h) λp hp=> .tail _ hp⟩
end
example:Fl:=by walk_at "zF"
section
example:True:=by
 k_with_none
 k_with "mem"=>repeat (first | exact List.Mem.head _ | apply List.Mem.tail)
 k_with "ev"=>first
  | exact Ev.nameI rfl
  | exact Ev.nameV rfl
  | exact Ev.nameI (by assumption)
  | exact Ev.nameV (by assumption)
  | exact Ev.int
  | (refine' Ev.itemN ?q1 Ev.int ?im ?iv ?ip;(case q1=>walk_at "ev");(case im=>walk_at "mem");(case iv=>exact rfl);(case ip=>first | exact ⟨_,rfl⟩ | exact rfl))
  | (refine' Ev.add ?q1 ?q2;(case q1=>walk_at "ev");(case q2=>walk_at "ev"))
  | (refine' Ev.sub ?q1 ?q2;(case q1=>walk_at "ev");(case q2=>walk_at "ev"))
  | (refine' Ev.min ?q1 ?q2;(case q1=>walk_at "ev");(case q2=>walk_at "ev"))
 trivial
theorem Jx:Fn (Str.ofString "OctetsIn") (.ref 163):=⟨λw=>by k_is,λw=>by k_is⟩
theorem O0:Fn (Str.ofString "read_ascending") (.ref 326):=⟨λw=>by k_is,λw=>by k_is⟩
theorem Pb:Fn (Str.ofString "read_spans") (.ref 340):=⟨λw=>by k_is,λw=>by k_is⟩
theorem Kr:Gu 163 92:=⟨λw=>by k_is,λw=>by k_is,λw=>by k_is⟩
theorem Ug:E6 163 (Str.ofString "data"):=⟨λw=>by k_is,λw=>by k_is,λw=>by k_is,λw=>by k_is⟩
theorem Uf:E6 163 (Str.ofString "at"):=⟨λw=>by k_is,λw=>by k_is,λw=>by k_is,λw=>by k_is⟩
theorem Ka:Ini w 163 92 4 [.bytes b tb,.int a ta] λV V o=>∃k1 k2,o=inDict w k1 k2 b tb a ta:=by
 intro x dx hne
 refine' De (j:=3) [(Str.ofString "self",.ref x),(Str.ofString "data",.bytes b tb),(Str.ofString "at",.int a ta)] ?k6 ?k7 ?k9 ?kB ?kn ?kd ?_ ?c2 ?c3 ?c4 ?c5
 case k6=>k_is
 case k7=>k_is
 case k9=>exact λV X=>binds_K (X) rfl (by k_is) rfl rfl rfl
 case kB=>exact locs rfl
 case kn=>exact Eq.refl true
 case kd=>exact λp hp=>lS hp▸hne
 case c2=>exact rfl
 case c3=>exact rfl
 case c4=>exact rfl
 case c5=>decide
 intro S K d m l₁ v1 v2 v3 hro hK hN
 refine W.setAttr Ug (λV=>Ev.nameV v1) rfl (X.evV (Ev.nameV v2) ⟨.tail _ (hro _ (.head _)),_,.head,λtk=> [⟨PyData.keyHash w.params "data",.str "data" tk,.bytes b tb⟩],1,λtk=>⟨rfl,nLe rfl⟩,λtk=> ?_⟩)
 refine W.setAttr Uf (λV=>Ev.nameV v1) rfl (X.evV (Ev.nameV v3) ⟨.tail _ (hro _ (.head _)),_,.head,λtk2=> [⟨PyData.keyHash w.params "data",.str "data" tk,.bytes b tb⟩,⟨PyData.keyHash w.params "at",.str "at" tk2,.int a ta⟩],2,λtk=>⟨rfl,nLe rfl⟩,λtk2=>W.end (hK _ _ [] _ ⟨rfl,rfl,_,rfl,tk,tk2,rfl⟩ (λV h=>no h) λV h=>h) hN⟩)
section
variable {C:Cd}{n:Nat}{w:World}{S:Si C n w}{d:Drawn}{m:Loc}{r:Led}{X0 dx:Addr}{k1 k2 tb ta:Tok}{b:Array UInt8}{ks gs:List Int}{a:Int}{ps:List (Int×Int)}{κ:Value->Drawn->Led->Prop}
theorem CX.asc(hX:(X0,instObj 163 dx)∈r)(hk:KBw.bInts b=ks/\ks.length<=100000)(h0:0<=a)(h1:a+2+2*gs.length<=ks.length)(hl:gs.length<=60)(hn:numAt ks a.toNat=gs.length)(hg:∀(i:Nat) x,gs[i]?=some x->numAt ks (a+2+2* (i:Int)).toNat=x)(hs:gs.Pairwise (· < ·))
  (h:∀D vs c,IntsAre vs gs->∀o,κ (.ref D) d ((dx,o)::(D,listOf vs.toArray c)::r))(hj:decide (12<=n)=true:=by exact Eq.refl true):CX S d m ((dx,inDict w k1 k2 b tb a ta)::r) (.ref 326) [.ref X0] κ:=
 ⟨λh9 k Q A hq=>(CX.tel1 (κ:=κ) (Vi ((List.pairwise_cons.mp A.D).1 _ hX) hk.1 hk.2 h0 h1 hl hn hg hs) .here (λp hp=>lS hp▸hX) (λv' mu' new hP V=>by obtain ⟨D,vs,c,a',ta',e,e1,e2,hi⟩:=hP;subst e e1 e2;exact ⟨rfl,List.pairwise_singleton _ _,h D vs c hi _⟩) hj).run h9 k Q A hq⟩
theorem CX.spans(hX:(X0,instObj 163 dx)∈r)(hk:KBw.bInts b=ks/\ks.length<=100000)(h0:0<=a)(h1:a+2+6*ps.length<=ks.length)(hl:ps.length<=60)(hsum:Ak ps<=100)(hn:numAt ks a.toNat=ps.length)
  (hg:∀(i:Nat) f l,ps[i]?=some (f,l)->numAt ks (a+2+6* (i:Int)).toNat=f/\numAt ks (a+2+6* (i:Int)+2).toNat=l/\numAt ks (a+2+6* (i:Int)+2+2).toNat=Ak (ps.take i)/\C5 (ps.take i)<=f)(hp:∀p∈ps,0<=p.1/\p.1<=p.2/\p.2<=65535)
  (h:∀D vs c,IntsAre vs (Ay ps)->∀o,κ (.ref D) d ((dx,o)::(D,listOf vs.toArray c)::r))(hj:decide (16<=n)=true:=by exact Eq.refl true):CX S d m ((dx,inDict w k1 k2 b tb a ta)::r) (.ref 340) [.ref X0] κ:=
 ⟨λh9 k Q A hq=>(CX.tel1 (κ:=κ) (V0 ((List.pairwise_cons.mp A.D).1 _ hX) hk.1 hk.2 h0 h1 hl hsum hn hg hp) .here (λp hp=>lS hp▸hX) (λv' mu' new hP V=>by obtain ⟨D,vs,c,a',ta',e,e1,e2,hi⟩:=hP;subst e e1 e2;exact ⟨rfl,List.pairwise_singleton _ _,h D vs c hi _⟩) hj).run h9 k Q A hq⟩
end
theorem Vu{w:World}{b:Array UInt8}{tb ta:Tok}{ks gs:List Int}{a:Int}(hk:KBw.bInts b=ks)(hz:ks.length<=100000)(h0:0<=a)(h1:a+2+2+2*gs.length<=ks.length)(hl:gs.length<=60)
  (hf:numAt ks a.toNat=1)(hn:numAt ks (a+2).toNat=gs.length)(hg:∀(i:Nat) x,gs[i]?=some x->numAt ks (a+2+2+2* (i:Int)).toNat=x)(hs:gs.Pairwise (· < ·)):
  Tel w 347 16 ⟨[.bytes b tb,.int a ta],[]⟩ [] []
   (λv mu' new=>∃X dx T tk vs,v= .ref X/\mu'= []/\new=Al w X dx T tk vs/\IntsAre vs gs):=by
 refine' Cn (j:=15) [(Str.ofString "data",.bytes b tb),(Str.ofString "at",.int a ta)] ?k6 ?k7 ?k9 ?kB ?kn ?_ ?c2 ?c3 ?c4 ?c5
 case k6=>k_is
 case k7=>k_is
 case k9=>exact λV V=>BindsTo.of_eq rfl
 case kB=>exact locs rfl
 case kn=>exact Eq.refl true
 case c2=>exact rfl
 case c3=>exact rfl
 case c4=>exact rfl
 case c5=>decide
 intro S K d m l₁ v1 v2 hro hK hN
 refine W.assignX (Mine.X.f2 Jx (Mine.X.evV (Ev.nameV v1) (Mine.X.evV (Ev.nameV v2) (CX.cls Kr Ka λX dx o ⟨k1,k2,ho⟩ hX hlt=>W.swap ?_))))
 subst ho
 refine W.assignX (Mine.X.u16 (Ev.nameV rfl) (.head _) hf ⟨hk,hz⟩ (by exact ⟨zi1 11044661541 rfl h0,lin [_,_] [_] 28540033128572375971280212261 rfl h1⟩) λt1 ta1=> ?_)
 refine W.ite (Bv.eq (Ev.nameI rfl) Ev.int) (λV=> ?_) λhc=>absurd rfl hc
 refine W.retX (Mine.X.f1 Ei (Mine.X.t1 By (Mine.X.f1 O0 (Mine.X.evV (Ev.nameV rfl) (CX.asc (.head _) ⟨hk,hz⟩ (by exact zi1 11310125951269 rfl h0) (by exact lin [_,_] [_] 73138384718742758804449993141516914981 rfl h1) hl hn hg hs λD vs c hi o=>CX.tuple (.tail _ (.head _)) (by rw [IntsAre.length hi];exact zn1 69932211674207125792 rfl hl) λT hT=>CX.cls En Ej λX9 dx9 o9 ⟨tk9,ho9⟩ hX9 hlt9=> ?_)))))
 subst ho9
 have hl1:∀r∈l₁,r.1<T:=λr hr=>hT r (.tail _ (.tail _ (.tail _ hr)))
 have hTd:=hX9 (T,Ap vs) (.head _)
 exact hK _ _ _ ⟨X9,dx9,T,tk9,vs,rfl,rfl,rfl,hi⟩
   (λp hp r hr=>(lC hp).elim (λe=>e▸Nat.lt_trans (Nat.lt_trans (hl1 r hr) hTd) hlt9) λhp=>(lC hp).elim (λe=>e▸Nat.lt_trans (hl1 r hr) hTd) λhp=>lS hp▸hl1 r hr)
   (SubL.cons (.head _) (SubL.cons (.tail _ (.head _)) (SubL.cons (.tail _ (.tail _ (.head _))) λp hp=> .tail _ (.tail _ (.tail _ (.tail _ (.tail _ (.tail _ hp))))))))
theorem Vv{w:World}{b:Array UInt8}{tb ta:Tok}{ks:List Int}{ps:List (Int×Int)}{a:Int}(hk:KBw.bInts b=ks)(hz:ks.length<=100000)(h0:0<=a)(h1:a+2+2+6*ps.length<=ks.length)(hl:ps.length<=60)(hsum:Ak ps<=100)(hel:(Ay ps).length<=100)
  (hf:numAt ks a.toNat=2)(hn:numAt ks (a+2).toNat=ps.length)(hg:∀(i:Nat) f l,ps[i]?=some (f,l)->numAt ks (a+2+2+6* (i:Int)).toNat=f/\numAt ks (a+2+2+6* (i:Int)+2).toNat=l/\numAt ks (a+2+2+6* (i:Int)+2+2).toNat=Ak (ps.take i)/\C5 (ps.take i)<=f)
  (hp:∀p∈ps,0<=p.1/\p.1<=p.2/\p.2<=65535):
  Tel w 347 20 ⟨[.bytes b tb,.int a ta],[]⟩ [] []
   (λv mu' new=>∃X dx T tk vs,v= .ref X/\mu'= []/\new=Al w X dx T tk vs/\IntsAre vs (Ay ps)):=by
 refine' Cn (j:=19) [(Str.ofString "data",.bytes b tb),(Str.ofString "at",.int a ta)] ?k6 ?k7 ?k9 ?kB ?kn ?_ ?c2 ?c3 ?c4 ?c5
 case k6=>k_is
 case k7=>k_is
 case k9=>exact λV V=>BindsTo.of_eq rfl
 case kB=>exact locs rfl
 case kn=>exact Eq.refl true
 case c2=>exact rfl
 case c3=>exact rfl
 case c4=>exact rfl
 case c5=>decide
 intro S K d m l₁ v1 v2 hro hK hN
 refine W.assignX (Mine.X.f2 Jx (Mine.X.evV (Ev.nameV v1) (Mine.X.evV (Ev.nameV v2) (CX.cls Kr Ka λX dx o ⟨k1,k2,ho⟩ hX hlt=>W.swap ?_))))
 subst ho
 refine W.assignX (Mine.X.u16 (Ev.nameV rfl) (.head _) hf ⟨hk,hz⟩ (by exact ⟨zi1 11044661541 rfl h0,lin [_,_] [_] 28540184244299827799927050533 rfl h1⟩) λt1 ta1=> ?_)
 refine W.ite (Bv.eq (Ev.nameI rfl) Ev.int) (λhc=>absurd hc (by decide)) λV=>W.nil (W.ite (Bv.eq (Ev.nameI rfl) Ev.int) (λV=> ?_) λhc=>absurd rfl hc)
 refine W.retX (Mine.X.f1 Ei (Mine.X.t1 By (Mine.X.f1 Pb (Mine.X.evV (Ev.nameV rfl) (CX.spans (.head _) ⟨hk,hz⟩ (by exact zi1 11310125951269 rfl h0) (by exact lin [_,_] [_] 73138546978019588017813389117573714213 rfl h1) hl hsum hn hg hp λD vs c hi o=>CX.tuple (.tail _ (.head _)) (by rw [IntsAre.length hi];exact zn1 116049071858481004832 rfl hel) λT hT=>CX.cls En Ej λX9 dx9 o9 ⟨tk9,ho9⟩ hX9 hlt9=> ?_)))))
 subst ho9
 have hl1:∀r∈l₁,r.1<T:=λr hr=>hT r (.tail _ (.tail _ (.tail _ hr)))
 have hTd:=hX9 (T,Ap vs) (.head _)
 exact hK _ _ _ ⟨X9,dx9,T,tk9,vs,rfl,rfl,rfl,hi⟩
   (λp hp r hr=>(lC hp).elim (λe=>e▸Nat.lt_trans (Nat.lt_trans (hl1 r hr) hTd) hlt9) λhp=>(lC hp).elim (λe=>e▸Nat.lt_trans (hl1 r hr) hTd) λhp=>lS hp▸hl1 r hr)
   (SubL.cons (.head _) (SubL.cons (.tail _ (.head _)) (SubL.cons (.tail _ (.tail _ (.head _))) λp hp=> .tail _ (.tail _ (.tail _ (.tail _ (.tail _ (.tail _ hp))))))))
end
example:Fl:=by walk_at "zF"
section
open PyProof.Rows.LCg PyProof.Rows.LCt
structure Gw(gs:List Int):Prop where
 be:(gs.filter λg=>decide (g- 1∉gs)).length=(gs.filter λg=>decide (g+1∉gs)).length
 zip:(gs.filter λg=>decide (g- 1∉gs)).zip (gs.filter λg=>decide (g+1∉gs))=Ae gs
 idx:∀(i:Nat) f l,(Ae gs)[i]?=some (f,l)->∃j:Nat,gs[j]?=some f/\(j:Int)=Ak ((Ae gs).take i)
 exp:Ay (Ae gs)=gs
 least:∀(i:Nat) f l,(Ae gs)[i]?=some (f,l)->C5 ((Ae gs).take i)<=f
noncomputable def B0(ns:List Int):List Int:=ns.flatMap λn=> [n/256,n%256]
theorem Me(ns:List Int):(B0 ns).length=2*ns.length:=by
 induction ns with
 | nil=>rfl
 | cons n ns ih=>show (n/256::n%256::B0 ns).length=_;simp only [List.length_cons,ih];exact Ac (zn1 397047232723570976 rfl) (zn1 408728763502321952 rfl)
theorem I2{ns:List Int}(hr:∀x∈ns,0<=x/\x<=65535):KBw.bInts (Ag ns)=B0 ns:=by
 induction ns with
 | nil=>rfl
 | cons n ns ih=>
  have hn:=hr n (.head _)
  have e:Ag (n::ns)=Bf n++Ag ns:=by rw [<-Hy,<-Hx];rfl
  rw [e]
  refine KBw.ints_app (ks:= [n/256,n%256]) (KBa.ints_make ?_) (ih λx hx=>hr x (.tail _ hx))
  intro x hx
  simp only [List.mem_cons,List.not_mem_nil,or_false] at hx
  rcases hx with rfl | rfl<;>omega
theorem V5{ns:List Int}{i:Nat}{x:Int}(h:ns[i]?=some x):(B0 ns)[2*i]?=some (x/256)/\(B0 ns)[2*i+1]?=some (x%256):=by
 induction ns generalizing i with
 | nil=>cases h
 | cons n ns ih=>
  cases i with
  | zero=>obtain rfl:=sJ h;exact ⟨rfl,rfl⟩
  | succ i=>exact ih (i:=i) h
theorem Cx{ns:List Int}{i:Nat}{x:Int}{a:Int}(h:ns[i]?=some x)(ha:a=1+2* (i:Int)):numAt (255::B0 ns) a.toNat=x:=by
 obtain ⟨e1,e2⟩:=V5 h
 have ea:a.toNat=2*i+1:=Ac (lin [_,_] [_] 900916245366748567241883936 rfl ha (iTo (lin [_] [_] 26752904852416805 rfl ha))) (lin [_,_] [_] 2136437252421276656930148640 rfl ha (iTo (lin [_] [_] 26752904852416805 rfl ha)))
 unfold numAt
 rw [ea]
 rw [show (255::B0 ns).getD (2*i+1) 0=x/256 by rw [List.getD_eq_getElem?_getD,List.getElem?_cons_succ,e1];rfl,show (255::B0 ns).getD (2*i+1+1) 0=x%256 by rw [List.getD_eq_getElem?_getD,List.getElem?_cons_succ,e2];rfl]
 omega
theorem Tm(j:Int)(h:ps[i]?=some (f,l)):(A0 j ps)[3*i]?=some f/\(A0 j ps)[3*i+1]?=some l/\(A0 j ps)[3*i+2]?=some (j+Ak (ps.take i)):=by
 induction ps generalizing i j with
 | nil=>cases h
 | cons p ps ih=>
  cases i with
  | zero=>
   obtain rfl:=sJ h
   refine ⟨rfl,rfl,?_⟩
   show some j=some (j+0)
   rw [Int.add_zero]
  | succ i=>
   obtain ⟨a,b,c⟩:=ih (i:=i) (j+p.2- p.1+1) h
   refine ⟨a,b,?_⟩
   show (A0 (j+p.2- p.1+1) ps)[3*i+2]?=some (j+ ((p.2- p.1+1)+Ak (ps.take i)))
   rw [c]
   congr 1
   exact Int.le_antisymm (zi4 132539019868738145566998548773 rfl) (zi4 132538188829082566920035651877 rfl)
theorem Tq(h:∀p∈ps,0<=p.1/\p.1<=p.2/\p.2<=65535)(i:Int)(h0:0<=i)(h1:i+Ak ps<=65535):∀x∈A0 i ps,0<=x/\x<=65535:=by
 induction ps generalizing i with
 | nil=>exact λx hx=>no hx
 | cons p ps ih=>
  have hp:=h p (.head _)
  have hs:Ak (p::ps)=(p.2- p.1+1)+Ak ps:=rfl
  have h2:=H8 (ps:=ps) λq hq=>h q (.tail _ hq)
  rw [hs] at h1
  intro x hx
  unfold A0 at hx
  simp only [List.mem_cons] at hx
  rcases hx with rfl | rfl | rfl | hx
  ·exact ⟨zi1 11044661541 rfl hp.1,zi2 79227748464447817654627631397 rfl hp.2.1 hp.2.2⟩
  ·exact ⟨zi2 1448102218180901 rfl hp.1 hp.2.1,zi1 75557467731372740870437 rfl hp.2.2⟩
  ·exact ⟨zi1 11044661541 rfl h0,zi4 91343377768327164326678401265723994215374553381 rfl hp.2.1 h2 h1⟩
  ·exact ih (λq hq=>h q (.tail _ hq)) (i+p.2- p.1+1) (by exact zi3 41449403071260574396066085 rfl h0 hp.2.1) (by exact zi4 91343377769614853947594988594479430799052132645 rfl h1) x hx
theorem J1(hl:gs.length<=50)(hr:∀x∈gs,0<=x/\x<=65535):∀x∈A7 gs,0<=x/\x<=65535:=λx hx=>by
 rcases lC hx with rfl | hx
 ·exact ⟨lin [] [] 370981 rfl,lin [] [] 68719127845 rfl⟩
 rcases lC hx with rfl | hx
 ·exact ⟨zn1 764197 rfl,zn1 1868895894265872276773 rfl hl⟩
 ·exact hr x hx
theorem J2(hl:gs.length<=50)(hr:∀x∈gs,0<=x/\x<=65535):∀x∈Ba gs,0<=x/\x<=65535:=λx hx=>by
 have hrr:=Ga gs hr
 have hlr:=Es gs
 rcases lC hx with rfl | hx
 ·exact ⟨lin [] [] 403749 rfl,lin [] [] 68719128869 rfl⟩
 rcases lC hx with rfl | hx
 ·exact ⟨zn1 764197 rfl,zn2 1278792062450729747033686564133 rfl hl hlr⟩
 ·exact Tq hrr.1 0 (Int.le_refl _) (by rw [hrr.2];exact zn1 1913749395728253211463973 rfl hl) x hx
theorem Here.mono(h:k<=k')(H:Here w A k' h₀ L):Here w A k h₀ L:=by
 refine H.on λp loose mean mg mb env outer A₀ base a1 a2 a3 a4 a5 a6 a7 a8 a9=> ?_
 exact .of a1 a2 a3 a4 a5 a6 a7 (by exact zn4 79123022510193705505057 rfl h a8) (by exact zn4 82132146155584634910429473 rfl h a9)
theorem Tel.mono(C:Tel w f k args mu ro Post)(h:k<=k'):Tel w f k' args mu ro Post:=
 λA h₀ L m news s R H=>C A h₀ L m news s R (H.mono h)
theorem Vt{w:World}{tb ta:Tok}{gs ns:List Int}(hns:ns=A7 gs\/ns=Ba gs)(hl:gs.length<=50)(hs:gs.Pairwise (· < ·))(hr:∀x∈gs,0<=x/\x<=65535)(hw:Gw gs):
  Tel w 347 20 ⟨[.bytes (#[255]++Ag ns) tb,.int 1 ta],[]⟩ [] []
   (λv mu' new=>∃X dx T tk vs,v= .ref X/\mu'= []/\new=Al w X dx T tk vs/\IntsAre vs gs):=by
 have hrr:=Ga gs hr
 have hlr:=Es gs
 rcases hns with rfl | rfl
 ·have hk:KBw.bInts (#[255]++Ag (A7 gs))=255::B0 (A7 gs):=KBw.ints_app (ks:= [255]) rfl (I2 (J1 hl hr))
  have hz:(255::B0 (A7 gs)).length=1+2* (gs.length+2):=by rw [List.length_cons,Me];unfold A7;simp only [List.length_cons];exact Ac (zn1 454113141468811603235104 rfl) (zn1 428961330650808605593888 rfl)
  refine (Vu hk (by exact zn2 16019224101029734713456123319771889952 rfl hl hz) (by decide) (by exact zn2 511285943274306872985239537777975644453 rfl hz) (by exact zn1 58402996627152994592 rfl hl) (Cx (i:=0) rfl rfl) (Cx (i:=1) rfl rfl) (λi x hx=> ?_) hs).mono (by decide)
  exact Cx (i:=i+2) hx (by exact Int.le_antisymm (zn1 487599527243355080930096419852581 rfl) (zn1 30122034250344063368529032106277 rfl))
 ·have hk:KBw.bInts (#[255]++Ag (Ba gs))=255::B0 (Ba gs):=KBw.ints_app (ks:= [255]) rfl (I2 (J2 hl hr))
  have hz:(255::B0 (Ba gs)).length=1+2* (3* (Ae gs).length+2):=by rw [List.length_cons,Me];unfold Ba;simp only [List.length_cons,Dz];exact Ac (zn1 465196498720217958701617440 rfl) (zn1 439256586914551144076661024 rfl)
  have z:=Vv (w:=w) (tb:=tb) (ta:=ta) (ps:=Ae gs) hk (a:=1) (by exact zn3 539122640377795836570372832491613106612109600 rfl hl hlr hz) (by decide) (by exact zn2 15609404282562797852382054975164709 rfl hz) (by exact zn2 39962251951585304526147191072 rfl hl hlr) (by rw [hrr.2];exact zn1 1868895892070238018853 rfl hl) (by rw [hw.exp];exact zn1 58402996627194937632 rfl hl) (Cx (i:=0) rfl rfl) (Cx (i:=1) rfl rfl) (λi f l hi=> ?_) hrr.1
  ·rw [hw.exp] at z;exact z
  ·obtain ⟨a,b,c⟩:=Tm 0 hi
   rw [Int.zero_add] at c
   exact ⟨Cx (i:=3*i+2) a (by exact Int.le_antisymm (zn1 14886287248006733153440518437 rfl) (zn1 924087270097697530345541925 rfl)),Cx (i:=3*i+1+2) b (by exact Int.le_antisymm (zn1 16024119500155284655497234933764389 rfl) (zn1 15607171067271053877519238014816549 rfl)),Cx (i:=3*i+2+2) c (by exact Int.le_antisymm (zn1 16450236743027290524299946909569274149 rfl) (zn1 16450165423571664208198337857608601893 rfl)),hw.least i f l hi⟩
end
section
theorem Sd:(#[]:Array UInt8)=Ag []:=rfl
theorem K6{tl:List (Addr×Obj)}{rs:List Value}{ps:List (Int×Int)}{i:Nat}{v:Value}(hD:DatAll tl rs (ps.map pairD))(hv:rs[i]?=some v):
  ∃a b ad n ta tb,v= .ref ad/\ps[i]?=some (a,b)/\(ad,({cls:= .type "tuple",data:= .seq [Value.int a ta,Value.int b tb].toArray n}:Obj))∈tl:=by
 have hl:=hD.length
 rw [List.length_map] at hl
 have hi:=(List.getElem?_eq_some_iff.mp hv).1
 obtain ⟨v',e1,e2⟩:=hD.get (k:=i) (by rw [List.length_map];exact zn3 72375389709697313 rfl hl hi)
 rw [hv] at e1
 cases e1
 rw [List.getElem_map] at e2
 obtain ⟨ad,n,ta,tb,rfl,hm⟩:=K7 (a:=(ps[i]'(by exact zn3 72375389709697313 rfl hl hi)).1) (b:=(ps[i]'(by exact zn3 72375389709697313 rfl hl hi)).2) e2
 exact ⟨_,_,ad,n,ta,tb,rfl,List.getElem?_eq_getElem (by exact zn3 72375389709697313 rfl hl hi),hm⟩
theorem Oz{F:Frag}{f:Addr}{oc oc':Value}{od od':Option Addr}{fd fd':FuncData}{osl osl':Array (Option Value)}(h:F.lookup f=some ⟨oc,od,.func fd,osl⟩)(h':F.lookup f=some ⟨oc',od',.func fd',osl'⟩):fd=fd':=by
 rw [h] at h'
 have:=sJ h'
 injection this with _ _ h3
 injection h3
theorem G7{F:Frag}{f:Addr}{oc:Value}{od:Option Addr}{fd fd':FuncData}{osl:Array (Option Value)}{s:Shared}{args:Args}{bs:List (Str×Value)}(h:F.lookup f=some ⟨oc,od,.func fd,osl⟩)(hb:BindsTo s fd args bs)(h':∃oc od osl,F.lookup f=some ⟨oc,od,.func fd',osl⟩):BindsTo s fd' args bs:=by
 obtain ⟨_,_,_,e⟩:=h'
 rw [<-Oz h e];exact hb
theorem Jz:Fn (Str.ofString "ranges_of") (.ref 319):=⟨λw=>by k_is,λw=>by k_is⟩
theorem O5:Fn (Str.ofString "OctetsOut") (.ref 259):=⟨λw=>by k_is,λw=>by k_is⟩
theorem Rr:Mth 259 (Str.ofString "u16") 200:=⟨λw=>by k_is,λw=>by k_is,λw=>by k_is,λw=>by k_is⟩
theorem Rq:Mth 259 (Str.ofString "octets") 256:=⟨λw=>by k_is,λw=>by k_is,λw=>by k_is,λw=>by k_is⟩
noncomputable def Ci(fm:Int)(gs:List Int):List Int:=if fm=1 then A7 gs else if fm=2 then Ba gs else if 2*gs.length<=6* (Ae gs).length then A7 gs else Ba gs
theorem H5{ps:List (Int×Int)}{i:Nat}{a b:Int}(hg:ps[i]?=some (a,b)):A0 0 (ps.take (i+1))=A0 0 (ps.take i)++ [a]++ [b]++ [Ak (ps.take i)]/\Ak (ps.take (i+1))=Ak (ps.take i)+b- a+1:=by
 have hT2:ps.take (i+1)=ps.take i++ [(a,b)]:=by rw [List.take_add_one,hg];rfl
 constructor
 ·rw [hT2,Tl,Int.zero_add,List.append_assoc,List.append_assoc];rfl
 ·rw [hT2,Ey]
  show _+ ((b- a+1)+0)=_
  exact Int.le_antisymm (zi3 427998283041701959978471717 rfl) (zi3 400232020184250016183570725 rfl)
section
variable {C:Cd}{n:Nat}{w:World}{px py pos p2 p3 p4 p5:Pos}{e:PySem.Expr}{rest:List Stmt}{rs:List (List Stmt)}{S:Si C n w}{K:Flow->Shared->Prop}{d:Drawn}{u:Loc}{l:Led}{a:Int}{tk0:Tok}{O ox D:Addr}{ns:List Int}
theorem WR.put(hn:u (Str.ofString "out")=some (.ref O))(he:Ev S u ((ox,Bk w tk0 D)::(D,Ai (Ag ns))::(O,instObj 259 ox)::l) e (isI a))(h0:0<=a)(h1:a<=65535)(hl:ns.length<=20000)(h:∀d',WR S K d' u ((ox,Bk w tk0 D)::(D,Ai (Ag (ns++ [a])))::(O,instObj 259 ox)::l) rest rs)
  (ok:Au e=true:=by exact Eq.refl true)(hp:(p2.endLine==pos.line)=true:=by exact Eq.refl true)(hs:Af (.Call (.Attribute (.Name (Str.ofString "out") px) (Str.ofString "u16") p2) [e] [] pos)=true:=by exact Eq.refl true)(hx:locOk C (Str.ofString "out")=true:=by exact Eq.refl true)(hk:decide (10<=n)=true:=by exact Eq.refl true)(hc:C.cs.kind= .function:=by rfl):WR S K d u ((ox,Bk w tk0 D)::(D,Ai (Ag ns))::(O,instObj 259 ox)::l) (.Expr (.Call (.Attribute (.Name (Str.ofString "out") px) (Str.ofString "u16") p2) [e] [] pos) p3::rest) rs:=by
 refine WR.exprR (XR.meth1 Rr (Ev.nameV hn hx) (.tail _ (.tail _ (.head _))) (.head _) rfl (X.evI he λt9=>CXR.u16 (.tail _ (.tail _ (.head _))) (.head _) (.tail .head) h0 h1 (by rw [Cf];exact zn1 737893985560655620497696 rfl hl) (λd2=>⟨rfl,?_⟩) hk) ok hp) hs hc
 rw [<-K2]
 exact h d2
theorem WR.fin(hn:u (Str.ofString "out")=some (.ref O))(hl:ns.length<=20000)(h:∀t l',(∀p∈l,p∈l')->Rt S K d l' (.bytes (Ag ns) t))(hp:(p2.endLine==pos.line)=true:=by exact Eq.refl true)(hx:locOk C (Str.ofString "out")=true:=by exact Eq.refl true)(hk:decide (6<=n)=true:=by exact Eq.refl true):WR S K d u ((ox,Bk w tk0 D)::(D,Ai (Ag ns))::(O,instObj 259 ox)::l) (.Return (some (.Call (.Attribute (.Name (Str.ofString "out") px) (Str.ofString "octets") p2) [] [] pos)) p3::rest) rs:=
 WR.retX (X.meth0 Rq (Ev.nameV hn hx) (.tail _ (.tail _ (.head _))) (.head _) rfl (CX.tel0 (Vs (X:=O) (dx:=ox) (D:=D) (tk0:=tk0) (by rw [Cf];exact zn1 737893985562333342097696 rfl hl)) (SubL.cons (.head _) (SubL.cons (.tail _ (.head _)) (SubL.cons (.tail _ (.tail _ (.head _))) (List.forall_mem_nil _)))) (λv mu' new l' hP hs V=>by obtain ⟨t,e1,_⟩:=hP;exact e1▸h t l' λp hp=>hs p (.tail _ (.tail _ (.tail _ hp)))) hk) hp)
end
theorem Id{w:World}{X dx T:Addr}{tk0 t:Tok}{vs:List Value}{gs:List Int}{args:Args}{fm:Int}(hi:IntsAre vs gs)(hl:gs.length<=50)(hr:∀x∈gs,0<=x/\x<=65535)(hf:fm=0\/fm=1\/fm=2)
  (hb:∀(s:Shared) (fd:FuncData),(hd.heap_39 w.params).In s.heap->(∃oc od osl,(hd.heap_39 w.params).lookup 355=some ⟨oc,od,.func fd,osl⟩)->BindsTo s fd args [(Str.ofString "coverage",.ref X),(Str.ofString "form",.int fm t)]):
  TelR w 355 16 args [] (Al w X dx T tk0 vs) (λv mu' new=>∃t,v= .bytes (Ag (Ci fm gs)) t/\mu'= []/\new= []):=by
 refine' U6 (j:=15) [(Str.ofString "coverage",.ref X),(Str.ofString "form",.int fm t)] ?k6 ?k7 ?k9 ?kB ?kn ?_ ?c2 ?c3 ?c4 ?c5
 case k6=>k_is
 case k7=>k_is
 case k9=>exact λs h=>hb s _ h ⟨_,_,_,by k_is⟩
 case kB=>exact locs rfl
 case kn=>exact Eq.refl true
 case c2=>exact rfl
 case c3=>exact rfl
 case c4=>exact rfl
 case c5=>decide
 intro S K d m l₁ v1 v2 hro hK hN
 have hc:=CovIn.of hro
 have hl':gs.length<1000:=zn1 58402996628138656033 rfl hl
 refine WR.assignX (Mine.X.f1 Jz (Mine.X.evV (Ev.attr Bl (Ev.nameV v1) hc.a hc.b rfl rfl) (CX.tel0 (Ie hi (by exact zn1 58402996627215909152 rfl hl)) (λp hp=>lS hp▸hc.c) λv mu' new l' hP hs1 hs2=> ?_)))
 obtain ⟨R,rs,c,tl,e1,_,e3,hD,_⟩:=hP
 subst e1 e3
 have hR:(R,listOf rs.toArray c)∈l':=(hs2 _ (.head _)).1
 have hk:rs.length=(Ae gs).length:=by rw [hD.length,List.length_map]
 have hlr:=Es gs
 have out:∀ {d:Drawn} {l:Led} {v:Value} {t9:Tok} {ns:List Int},(∀p∈l',p∈l)->ns=Ci fm gs->v= .bytes (Ag ns) t9->Rt S K d l v:=λhs e1 e2=>hK _ _ [] _ ⟨_,e1▸e2,rfl,rfl⟩ (λV h=>no h) λp hp=>hs p (hs1 p hp)
 refine' WR.via (λP=>∀(u:Loc) fm' t',u "coverage"=some (.ref X)->u "ranges"=some (.ref R)->u "form"=some (.int fm' t')->(fm'=1/\Ci fm gs=A7 gs\/fm'=2/\Ci fm gs=Ba gs)->P u d l') ?rest λhz=> ?branch
 case branch=>
  refine WR.ite (Bv.eq (Ev.nameI v2) Ev.int) (λe0=> ?_) λe0=>WR.nil (hz _ _ _ v1 rfl v2 ?_)
  ·subst e0
   refine WR.assignI (a:=if (2* (gs.length:Int))<=6* (rs.length:Int) then 1 else 2) (Ev.ite (p:=(2* (gs.length:Int))<=6* (rs.length:Int)) (Bv.le (Ev.mul Ev.int (Ev.tupLen (Ev.attr Bl (Ev.nameV v1) (hs1 _ hc.a) (hs1 _ hc.b) rfl rfl) (hs1 _ hc.c) hi hl') ?m1) (Ev.mul Ev.int (Ev.len (Ev.nameV rfl) hR (by exact zn3 44499686249162825266843899103183137 rfl hl hk hlr)) ?m2)) (λh=>by rw [if_pos h];exact Ev.int) λh=>by rw [if_neg h];exact Ev.int) λt9=>WR.nil (hz _ _ t9 v1 rfl rfl ?_)
   case m1=>exact .of_left (by decide)
   case m2=>exact .of_left (by decide)
   have f0:Ci 0 gs=if 2*gs.length<=6* (Ae gs).length then A7 gs else Ba gs:=rfl
   by_cases h:2* (gs.length:Int)<=6* (rs.length:Int)
   ·rw [if_pos h];exact .inl ⟨rfl,f0.trans (if_pos (by exact zn3 106235232948905579278000416 rfl hk h))⟩
   ·rw [if_neg h];exact .inr ⟨rfl,f0.trans (if_neg (by exact zn3 106235232952282866681667875 rfl hk h))⟩
  ·rcases hf with h | h | h
   ·exact absurd h e0
   ·subst h;exact .inl ⟨rfl,rfl⟩
   ·subst h;exact .inr ⟨rfl,rfl⟩
 case rest=>
  intro u fm' t' u1 u2 u3 hform
  refine WR.assignR (XR.f0 O5 (CXR.out λO ox D tkO d1=> ?_))
  refine WR.put (ns:= []) rfl (Ev.nameI u3) (by omega) (by omega) (Nat.zero_le _) λd2=> ?_
  have hs3:∀ {c:Array UInt8} p,p∈l'->p∈(ox,Bk w tkO D)::(D,Ai c)::(O,instObj 259 ox)::l':=λp hp=> .tail _ (.tail _ (.tail _ hp))
  have hc3:∀c,CovIn w ((ox,Bk w tkO D)::(D,Ai c)::(O,instObj 259 ox)::l') X dx T tk0 vs:=λc=> .of λp hp=>hs3 p (hs1 p (hc.all p hp))
  refine WR.ite (Bv.eq (Ev.nameI u3) Ev.int) (λe1=> ?_) λe1=>WR.ite (Bv.eq (Ev.nameI u3) Ev.int) (λe2=> ?_) λe2=>by omega
  ·subst e1
   have hfo:Ci fm gs=A7 gs:=hform.elim (λh=>h.2) λh=>by omega
   refine WR.put rfl (Ev.tupLen (Ev.attr Bl (Ev.nameV u1) (hc3 _).a (hc3 _).b rfl rfl) (hc3 _).c hi hl') (Int.natCast_nonneg _) (by exact zn1 1868895894265872276773 rfl hl) (nLe rfl) λd3=> ?_
   refine WR.forTup (λi G=>∀(u:Loc),u "out"=some (.ref O)->G u ((ox,Bk w tkO D)::(D,Ai (Ag ([1,(gs.length:Int)]++gs.take i)))::(O,instObj 259 ox)::l')) (λi G h u a1=>h _ _ λG' h'=>h' u a1) (Ev.attr Bl (Ev.nameV u1) (hc3 _).a (hc3 _).b rfl rfl) hi (λi u V=>(hc3 _).c) (λG h=>h _ rfl) ?turn ?done
   case turn=>
    intro S' K' i g tg hg hr' hn u a1 d4
    have hg2:=hr g (List.mem_of_getElem? hg)
    refine WR.put a1 (Ev.nameI rfl) hg2.1 hg2.2 (by simp only [List.length_append,List.length_cons,List.length_nil,List.length_take];exact zn2 42909141301642764595951184857455546656 rfl hl (Nat.min_le_right _ _)) λd5=> ?_
    have:=hn (mN "glyph" (.int g tg) u) a1 d5
    rw [List.take_add_one,hg] at this
    rw [List.append_assoc]
    exact this
   case done=>
    intro u a1 d4
    rw [List.take_length]
    exact WR.nil (WR.fin a1 (by show gs.length+2<=_;exact zn1 59804668567615090741536 rfl hl) λt9 l9 hs9=>out hs9 hfo.symm rfl)
  ·subst e2
   have hfo:Ci fm gs=Ba gs:=hform.elim (λh=>by omega) λh=>h.2
   have hrr:=Ga gs hr
   refine WR.put rfl (Ev.len (Ev.nameV u2) (hs3 _ hR) (by exact zn3 44499686249162825266843899103183137 rfl hl hk hlr)) (Int.natCast_nonneg _) (by exact zn3 1423989959973210408538973415859576101 rfl hl hk hlr) (nLe rfl) λd3=>WR.assignI Ev.int λt9=> ?_
   refine WR.forPairs (λi G=>∀(u:Loc) t,u "out"=some (.ref O)->u "index"=some (.int (Ak ((Ae gs).take i)) t)->G u ((ox,Bk w tkO D)::(D,Ai (Ag ([2,(rs.length:Int)]++A0 0 ((Ae gs).take i))))::(O,instObj 259 ox)::l')) (λi G h u t a1 a2=>h _ _ λG' h'=>h' u t a1 a2) (Ev.nameV u2) (λi u t V V=>hs3 _ hR) (λG h=>h _ t9 rfl rfl) ?turn ?done
   case turn=>
    intro S' K' i v hv hr' hn u t a1 a2 d4
    obtain ⟨a,b,ad,na,ta,tb,e,hab,hmem⟩:=K6 hD hv
    have hab2:0<=a/\a<=b/\b<=65535:=hrr.1 (a,b) (List.mem_of_getElem? hab)
    have hsp:=Lv _ hrr.1 i
    have hlen:i< (Ae gs).length:=(List.getElem?_eq_some_iff.mp hab).1
    have hsum:=hrr.2
    have hz:∀k,k<=2->([2,(rs.length:Int)]++A0 0 ((Ae gs).take i)).length+k<=20000:=λk hk=>by
     simp only [List.length_append,List.length_cons,List.length_nil,Dz,List.length_take];exact zn4 4613966573580298471329974399038626195005787738055790880 rfl hl hlr hk (Nat.min_le_right _ _)
    refine ⟨ad,na,.int a ta,.int b tb,e,hs3 _ (hs2 _ (.tail _ hmem)).1,?_⟩
    refine WR.put a1 (Ev.nameI rfl) hab2.1 (by exact zi2 79227748464447817654627631397 rfl hab2.2.1 hab2.2.2) (hz 0 (by exact lin [] [] 403744 rfl)) λd5=>WR.put a1 (Ev.nameI rfl) (by exact zi2 1448102218180901 rfl hab2.1 hab2.2.1) (by exact zi1 75557467731372740870437 rfl hab2.2.2) (by rw [List.length_append];exact hz 1 (by exact lin [] [] 404768 rfl)) λd6=>WR.put a1 (Ev.nameI a2) (by exact zi1 11044661541 rfl hsp.1) (by exact lin [_] [_,_] 1341114400531097880286815052535333157 rfl hl hrr.2 hsp.2) (by rw [List.length_append,List.length_append];exact hz 2 (by exact lin [] [] 405792 rfl)) λd7=> ?_
    refine WR.assignI (Ev.add (Ev.sub (Ev.add (Ev.nameI a2) (Ev.nameI rfl)) (Ev.nameI rfl)) Ev.int) λt8=> ?_
    have:=hn (mN "index" (.int (Ak ((Ae gs).take i)+b- a+1) t8) (mN "last" (.int b tb) (mN "first" (.int a ta) u))) t8 a1 (by rw [(H5 hab).2];rfl) d7
    rw [(H5 hab).1] at this
    simp only [<-List.append_assoc] at this
    exact this
   case done=>
    intro u t a1 a2 d4
    rw [hk,List.take_length] at*
    exact WR.nil (WR.nil (WR.fin a1 (by simp only [List.length_append,List.length_cons,List.length_nil,Dz];exact zn2 1375750977644140716667884774211388592416 rfl hl hlr) λt9 l9 hs9=>out hs9 hfo.symm rfl))
theorem Va{w:World}{X dx T:Addr}{tk0:Tok}{vs:List Value}{gs:List Int}(hi:IntsAre vs gs)(hl:gs.length<=50)(hr:∀x∈gs,0<=x/\x<=65535):
  TelR w 355 16 ⟨[.ref X],[]⟩ [] (Al w X dx T tk0 vs)
   (λv mu' new=>∃t,v= .bytes (Ag (if 2*gs.length<=6* (Ae gs).length then A7 gs else Ba gs)) t/\mu'= []/\new= []):=
 Id (fm:=0) hi hl hr (.inl rfl) λV fd X e=>G7 (by k_is) (binds_K X rfl (by k_is) rfl rfl rfl) e
theorem Vb{w:World}{X dx T:Addr}{tk0 t:Tok}{vs:List Value}{gs:List Int}(hi:IntsAre vs gs)(hl:gs.length<=50)(hr:∀x∈gs,0<=x/\x<=65535):
  TelR w 355 16 ⟨[.ref X,.int 1 t],[]⟩ [] (Al w X dx T tk0 vs)
   (λv mu' new=>∃t,v= .bytes (Ag (A7 gs)) t/\mu'= []/\new= []):=
 Id (fm:=1) hi hl hr (.inr (.inl rfl)) λV fd X e=>G7 (by k_is) (binds_K X rfl (by k_is) rfl rfl rfl) e
theorem Vc{w:World}{X dx T:Addr}{tk0 t:Tok}{vs:List Value}{gs:List Int}(hi:IntsAre vs gs)(hl:gs.length<=50)(hr:∀x∈gs,0<=x/\x<=65535):
  TelR w 355 16 ⟨[.ref X,.int 2 t],[]⟩ [] (Al w X dx T tk0 vs)
   (λv mu' new=>∃t,v= .bytes (Ag (Ba gs)) t/\mu'= []/\new= []):=
 Id (fm:=2) hi hl hr (.inr (.inr rfl)) λV fd X e=>G7 (by k_is) (binds_K X rfl (by k_is) rfl rfl rfl) e
end
example:Fl:=by walk_at "zF"
section
example:True:=by
 k_with "eval Constant int"=>(refine Dq ?_)
 trivial
example:True:=by
 k_with "binaryOp Add int int"=>(refine Dl ?_)
 trivial
example:True:=by
 k_with "storeName"=>(k_here;k_dflt (refine' D4 ?F ?N ?_ ?a ?b;(case F=>k_asm);(case N=>k_asm);(case a=>rfl);(case b=>rfl));intro h' k' F' N')
 trivial
theorem Ta(hi:IntsAre vs gs)(hl:gs.length<=120)
  (H:Here w A 6 h₀ L)(F:Fr h₀ L s.heap m)(N:News h₀ L s.heap big)(pT:Pick big (T,Ap vs) rest)
  (h:∀R rs c tl h' tk',DatAll tl rs ((Ae gs).map pairD)->(∀p∈tl,p.1≠R)->(∀p∈tl,∀q∈big,p.1≠q.1)->(∀q∈big,R≠q.1)->T<R->Fr h₀ L h' m->News h₀ L h' ((R,listOf rs.toArray c)::(big++tl))->Q (.ref R) {s with heap:=h',toks:=tk'}):
  wpR (model PySem.Challenge.rw_nu0172_01.row.prog w) A (call (.ref 319) [.ref T]) Q E s:=by
 refine Av ((Ie hi hl).use0 H F N (λp hp=>by rw [List.mem_singleton.mp hp];exact pT.sub _ (.head _)) λv mu' new h' tk' hP F' N' hlt hn=> ?_)
 obtain ⟨R,rs,c,tl,rfl,rfl,rfl,hD,hR⟩:=hP
 refine h R rs c tl h' tk' hD hR (λp hp q hq=>hn p (.tail _ hp) q hq) (λq hq=>hn _ (.head _) q hq) (hlt _ (.head _) _ (.head _)) F' λp hp=>N' p ?_
 simp only [List.nil_append,List.cons_append,List.mem_cons,List.mem_append] at hp ⊢
 rcases hp with h | h | h
 ·exact .inl h
 ·exact .inr (.inr h)
 ·exact .inr (.inl h)
section
example:True:=by
 k_with "exec Raise some none"=>(refine Ir rfl ?_)
 trivial
theorem U3{w:World}{X dx T:Addr}{tk0 t:Tok}{vs:List Value}{gs:List Int}(hi:IntsAre vs gs)(hl:gs.length<=50)(hr:∀x∈gs,0<=x/\x<=65535):
  Iu w 355 16 ⟨[.ref X,.int 3 t],[]⟩ (Al w X dx T tk0 vs) (-1):=by
 refine' U1 ?k6 ?k7 ?k9 ?kB ?_ ?c2 ?c3 ?c4 ?c5
 case k6=>k_is
 case k7=>k_is
 case k9=>exact λV X=>binds_K (X) rfl (by k_is) rfl rfl rfl
 case kB=>exact locs rfl
 case c2=>exact rfl
 case c3=>exact rfl
 case c4=>exact rfl
 case c5=>decide
 intro dp un gd env outer base gh L' h₁ p loose mean mg mb s tk hd hu B XX TT F N
 (try dsimp only)
 (try k_fold)
 refine Az ?_
 refine Fy (C9 ?_) (by with_unfolding_all rfl)
 k_steps
 refine Dx (K:=Mine.hd.heap_39 w.params) (by assumption) (by k_is) ?_ (by with_unfolding_all rfl) (by with_unfolding_all rfl)
 k_steps
 refine' Ta (gs:=gs) ?a1 ?a2 ?a3 ?a4 ?a5 ?a6 ?a7
 case a4=>assumption
 case a5=>assumption
 case a6=>repeat (first | exact Pick.here | apply Pick.there)
 case a1=>assumption
 case a2=>exact zn1 58402996627215909152 rfl hl
 case a3=>exact Here.of (by assumption) (by assumption) (by assumption) rfl rfl rfl rfl (by (simp only [depth_deeper,Around.deeper_units];exact zn2 38686240757665897946698017 rfl hd)) (by (simp only [depth_deeper,Around.deeper_units];exact zn2 39614711620001401505399329057 rfl hu))
 case a7=>
  intro R' rs c tl h2 tk2 hD hR htl hR2 ltR F2 N2
  simp only [List.cons_append,List.nil_append] at N2
  k_steps
  refine (La (pre:= [_]) (rest:= [_,_,_,_]) ?_:wpR _ _ (execs [_,_,_,_,_] _) _ _ _)
  k_steps
  refine (Az ?_:wpR _ _ (execs [_,_,_,_] _) _ _ _)
  refine Fy (C9 ?_) (by with_unfolding_all rfl)
  k_steps
  refine Ld (K:=Mine.hd.heap_39 w.params) (Frag.In.keeps XX (Fr.keep (by assumption))) (by k_is) ?_
  refine Lf (Here.of (by assumption) (by assumption) (by assumption) rfl rfl rfl rfl (by (simp only [depth_deeper,Around.deeper_units];exact zn2 38686240757665900094181665 rfl hd)) (by (simp only [depth_deeper,Around.deeper_units];exact zn2 39614711620001401574118805793 rfl hu))) (by assumption) (by assumption) (λO ox D tkO h3 tk3 dr3 F3 N3 l1 l2 l3=> ?_)
  have hapD:∀p∈(ox,Bk w tkO D)::(O,instObj 259 ox)::(R',listOf rs.toArray c)::(X,instObj 301 dx)::(dx,Ed w tk0 T)::(T,Ap vs)::tl,p.1≠D:=λp hp=>by
   rcases lC hp with rfl | hp
   ·exact Nat.ne_of_lt (Nat.lt_trans l1 l2)
   rcases lC hp with rfl | hp
   ·exact Nat.ne_of_lt l2
   ·exact Nat.ne_of_lt (Nat.lt_trans (l3 p hp) (Nat.lt_trans l1 l2))
  have hTD:T≠D:=hapD (T,Ap vs) (.tail _ (.tail _ (.tail _ (.tail _ (.tail _ (.head _))))))
  rw [Sd] at N3
  k_steps
  refine (Az ?_:wpR _ _ (execs [_,_,_] _) _ _ _)
  refine Fz (H3 (pl:=(do return (<-importBound _ _).getD true)) ?_ (by with_unfolding_all rfl)) (by with_unfolding_all rfl) (by with_unfolding_all rfl)
  k_steps
  refine Dx (K:=Mine.hd.heap_39 w.params) (by assumption) (by k_is) ?_ (by with_unfolding_all rfl) (by with_unfolding_all rfl)
  k_steps
  refine' Tc (D:=D) ?z1 ?z2 ?z3 ?z4 ?z5 ?z6 ?z7 ?z8 ?z9 ?za ?_
  case z5=>assumption
  case z6=>assumption
  case z7=>repeat (first | exact Pick.here | apply Pick.there)
  case z8=>repeat (first | exact Pick.here | apply Pick.there)
  case z9=>repeat (first | exact Pick.here | apply Pick.there)
  case z4=>exact Here.of (by assumption) (by assumption) (by assumption) rfl rfl rfl rfl (by (simp only [depth_deeper,Around.deeper_units];exact zn2 40565463588710258203587760509217 rfl hd)) (by (simp only [depth_deeper,Around.deeper_units];exact zn2 41539035851654588974241500866695457 rfl hu))
  case z1=>exact lin [] [] 436517 rfl
  case z2=>exact lin [] [] 68719129893 rfl
  case z3=>(rw [Cf];(try simp only [List.length_append,List.length_cons,List.length_nil,List.length_take]);exact lin [] [] 1677743972640 rfl)
  case za=>exact hapD
  intro h4 tk4 dr4 F4 N4
  rw [<-K2] at N4
  refine Hb ?_
  refine (Az ?_:wpR _ _ (execs [_,_] _) _ _ _)
  refine rIf ?_
  refine Av ?_
  k_steps
  refine Cz rfl ?_
  refine (Az ?_:wpR _ _ (execs [_] _) _ _ _)
  refine rIf ?_
  refine Av ?_
  k_steps
  refine Cz rfl ?_
  refine (La (pre:= [_]) (rest:= []) ?_:wpR _ _ (execs [_] _) _ _ _)
  k_steps
  refine Jd (n:= -1) (u:=209) (.inr ⟨rfl,rfl,rfl⟩) (by assumption) (by assumption) (by assumption) (by assumption) (by assumption) rfl rfl rfl (by (simp only [depth_deeper,Around.deeper_units];exact zn2 38686240757665892577988897 rfl hd)) ?_
  intro h5 e dxe T9 tk1 tk2 tk5 F5 N5 a1 a2 a3
  have a4:=N5 (e,Ar (.ref T9) .none dxe) (.head _)
  refine ⟨e,_,_,rfl,?_,a4.1,?_⟩
  ·exact (Frag.In.keeps XX F5.keep) _ _ (Dw w)
  exact Qw F5 N5 a1 a3 (by k_allIn)
end
example:True:=by
 k_with_none
 trivial
end
example:Fl:=by walk_at "zF"
section
theorem O8:Fn (Str.ofString "_law_runs") (.ref 406):=⟨λw=>by k_is,λw=>by k_is⟩
theorem Jy:Fn (Str.ofString "_law_octets") (.ref 411):=⟨λw=>by k_is,λw=>by k_is⟩
theorem Hh:Fn (Str.ofString "write_coverage") (.ref 355):=⟨λw=>by k_is,λw=>by k_is⟩
theorem O6:Fn (Str.ofString "read_coverage") (.ref 347):=⟨λw=>by k_is,λw=>by k_is⟩
section
variable {C:Cd}{n:Nat}{w:World}{pos p2 p3:Pos}{e e1 e2:PySem.Expr}{S:Si C n w}{d:Drawn}{m:Loc}{l:Led}{κ:Value->Drawn->Led->Prop}{kd:Nat}{D X0 dx T:Addr}{tk0:Tok}{vs:List Value}{gs ns:List Int}{b:Array UInt8}{args:List Value}{cN:Nat}
theorem CX.oct(hm:(D,listOf vs.toArray cN)∈l)(hi:IntsAre vs ns)(h2:2<=ns.length)(hl:ns.length<=300)(hr:∀x∈ns,0<=x/\x<=65535)(h:∀t d' l',(∀p∈l,p∈l')->κ (.bytes (Ag ns) t) d' l')(hk:decide (8<=n)=true:=by exact Eq.refl true):CX S d m l (.ref 411) [.ref D] κ:=
 CX.telD0 (Vo hi h2 hl hr) (λp hp=>lS hp▸hm) (λv d' mu' new l' hP hs V=>by
  obtain ⟨t,e,_,_⟩:=hP
  exact e▸h t d' l' hs) hk
theorem CXR.write(T9:TelR w 355 16 ⟨args,[]⟩ [] (Al w X0 dx T tk0 vs) (λv mu' new=>∃t,v= .bytes b t/\mu'= []/\new= []))(hc:CovIn w l X0 dx T tk0 vs)(h:∀t d' l',(∀p∈l,p∈l')->κ (.bytes b t) d' l')(hk:decide (16<=n)=true:=by exact Eq.refl true):CXR S d m l (.ref 355) args κ:=
 CXR.tel0 T9 hc.all (λv d' mu' new l' hP hs V=>by
  obtain ⟨t,e,_,_⟩:=hP
  exact e▸h t d' l' hs) hk
theorem X.ff(he:Ev S m l e2 λv=>∃t,v= .bytes b t)(hl:b.size<=100000)(h:∀t,κ (.bytes (#[255]++b) t) d l):X S d m l (.BinOp (.Constant (.bytes [255]) kd p2) .Add e2 pos) κ:=
 ⟨λh9 k Q A hq=>wpAny_BinOp (Constant_bytes (he.run h9 d _ _ A λv h1 k1 ⟨t,e⟩ A1=>by
  subst e
  exact KBy.add_bytes (by show 1+b.size<=_;omega) λt tk=>hq _ _ _ _ _ (h t) A1))⟩
end
theorem W7{w:World}{X dx T:Addr}{tk0 t3:Tok}{vs:List Value}{gs:List Int}{p:Program}{loose:List Str}{mean:ExcName->Option Value}{mg mb:Str->Option Value}{A A₀:Around}{env:Env}{outer:List Env}{base h₀:Heap}{L:Addr}{m:Str->Option Value}{big:List (Addr×Obj)}(news:List (Addr×Obj)){s:Shared}{Q E:Value->Shared->Prop}(hi:IntsAre vs gs)(hl:gs.length<=50)(hr:∀x∈gs,0<=x/\x<=65535)
  (hA:A.frames=some (env::outer))(hf:env.frame=some L)(hk:env.scope.kind= .function)(hh:A.handled=none)(hd':A.depth+16<recursionLimit)(hu:A.units+8*16<cLine)(B:Below A₀ base outer h₀)(XX:(hd.heap_39 w.params).In h₀)(TT:Top p loose mean mg mb h₀)(F:Fr h₀ L s.heap m)(N:News h₀ L s.heap big)
  (hs:∀q∈Al w X dx T tk0 vs++news,q∈big)(hap:∀q∈news,∀r∈Al w X dx T tk0 vs,q.1≠r.1)
  (h:∀e h' tk' dr',Dj w base h₀ (env::outer) L m (Al w X dx T tk0 vs++news) (-1) e h'->E (.ref e) {s with heap:=h',toks:=tk',drawn:=dr'}):
  wpR (model PySem.Challenge.rw_nu0172_01.row.prog w) A (call (.ref 355) [.ref X,.int 3 t3]) Q E s:=
 Co (U3 (X:=X) (dx:=dx) (T:=T) (tk0:=tk0) (t:=t3) hi hl hr p loose mean mg mb A A₀ env outer base h₀ L m news s _ hA hf hk hh hd' hu B XX TT F (λq hq=>N q (hs q hq)) hap h)
theorem Ek:(A7 gs).length=gs.length+2:=rfl
theorem El:(Ba gs).length=3* (Ae gs).length+2:=by
 show (A0 0 (Ae gs)).length+2=_
 rw [Dz]
theorem Vh{w:World}{X dx T G:Addr}{tk0:Tok}{vs vg:List Value}{gs:List Int}{cg:Nat}(hi:IntsAre vs gs)(hg:IntsAre vg gs)(hl:gs.length<=50)(hs:gs.Pairwise (· < ·))(hr:∀x∈gs,0<=x/\x<=65535)(hw:Gw gs):
  TelX w 418 30 ⟨[.ref X,.ref G],[]⟩ ((G,listOf vg.toArray cg)::Al w X dx T tk0 vs) (λv new=>v= .bool true/\new= []):=by
 refine' L7 (j:=29) [(Str.ofString "coverage",.ref X),(Str.ofString "glyphs",.ref G)] ?k6 ?k7 ?k9 ?kB ?kC ?kl ?_ ?c2 ?c3 ?c4
 case k6=>k_is
 case k7=>k_is
 case k9=>exact λV V=>BindsTo.of_eq rfl
 case kB=>exact rfl
 case kC=>exact λV=>rfl
 case kl=>exact λp hp=>(lC hp).elim (λe=>by rw [e];rfl) λhp=>by rw [List.mem_singleton.mp hp];rfl
 case c2=>exact rfl
 case c3=>exact rfl
 case c4=>exact rfl
 intro S K d m l₁ G9 X9 hro v1 v2
 have hG:=hro _ (.head _)
 have hnd:gs.Nodup:=hs.imp λh=>Int.ne_of_lt h
 have hrr:=Ga gs hr
 have hlr:=Es gs
 have hgl:=IntsAre.length hg
 refine WR.assignX (Mine.X.f1 O8 (Mine.X.evV (Ev.nameV v2) (CX.telD0 (Vx hg (nTr hl (nLe rfl)) hw.be) (λp hp=>lS hp▸hG) λv d1 mu' new l2 hP s1 s2=> ?_)))
 obtain ⟨R,rs,c,tl,e1,_,e3,hD,_⟩:=hP
 rw [hw.zip] at hD
 subst e1 e3
 have hR:=s2 _ (.head _)
 have htl:∀p∈tl,p∈l2:=λp hp=>s2 p (.tail _ hp)
 have hG2:=s1 _ hG
 have hro2:∀p∈Al w X dx T tk0 vs,p∈l2:=λp hp=>s1 p (hro p (.tail _ hp))
 have hk:rs.length=(Ae gs).length:=by rw [hD.length,List.length_map]
 refine WR.assignX (Mine.X.list0 λLR V=> ?_)
 refine WR.forPairs (λi G'=>∀(u:Loc) (vr:List Value) (c':Nat),u "rows"=some (.ref LR)->u "coverage"=some (.ref X)->u "glyphs"=some (.ref G)->u "runs"=some (.ref R)->IntsAre vr (A0 0 ((Ae gs).take i))->G' u ((LR,listOf vr.toArray c')::l2)) (λi G' h u vr c' a1 a2 a3 a4 a5=>h _ _ λG9 h9=>h9 u vr c' a1 a2 a3 a4 a5) (Ev.nameV rfl) (λi u vr c' V V V V V=> .tail _ hR) (λG' h=>h _ [] 0 rfl v1 v2 rfl .nil) ?turn ?done
 case turn=>
  intro S' K' i v hv hr' hn u vr c' a1 a2 a3 a4 hvr d4
  obtain ⟨a,b,ad,na,ta,tb,e,hab,hmem⟩:=K6 hD hv
  obtain ⟨j,hj,hjs⟩:=hw.idx i a b hab
  refine ⟨ad,na,.int a ta,.int b tb,e,.tail _ (htl _ hmem),?_⟩
  refine WR.exprR (XR.any (Mine.X.lm1 (Ev.nameV a1) (.head _) PySem.F.slot_list_extend PySem.F.type_list_extend (Mine.X.listI (.cons (Ev.nameI rfl) rfl (.cons (Ev.nameI rfl) rfl (.cons (Ev.index (Ev.nameV a3) (.tail _ hG2) hg hnd (nTr hl (nLe rfl)) hj (Ev.nameI rfl)) rfl .nil))) (nLe rfl) λB us hus V=>CX.extend (.tail .head) (.head _) (λe=>by subst e;exact nomatch hus) ?sz λc2=>⟨rfl,WR.drop (λp hp=> .tail _ hp) (λD=>(List.pairwise_cons.mp D).2) (hn (mN "last" (.int b tb) (mN "first" (.int a ta) u)) (vr++us) c2 a1 a2 a3 a4 ?_ _)⟩)))
  case sz=>
   have h1:=IntsAre.length hvr
   have h2:=IntsAre.length hus
   rw [Dz,List.length_take] at h1
   have h3:us.length=3:=h2
   exact zn5 4692900368928814581791221339459156570855209111146784 rfl hl hlr h1 h3 (Nat.min_le_right _ _)
  ·rw [(H5 hab).1,<-hjs,List.append_assoc,List.append_assoc]
   exact ints_app hvr hus
 case done=>
  intro u vr c' a1 a2 a3 a4 hvr d4
  rw [hk,List.take_length] at hvr
  have hvl:=IntsAre.length hvr
  rw [Dz] at hvl
  have f1:=J1 hl hr
  have f2:=J2 hl hr
  have hl3:gs.length<=1000:=nTr hl (nLe rfl)
  refine WR.assignX (Mine.X.list2 (Mine.X.f1 Jy (Mine.X.addL (Mine.X.listI (.cons Ev.int rfl (.cons (Ev.len (Ev.nameV a3) (.tail _ hG2) (by exact zn2 39964669803224534833009688865 rfl hl hgl)) rfl .nil)) (nLe rfl) λB1 u1 hu1 V=>Mine.X.evV (Ev.nameV a3) ⟨B1,G,u1,vg,0,cg,rfl,rfl,.head _,.tail _ (.tail _ hG2),?z1,λB2 c2 V=>CX.oct (.head _) (ns:=A7 gs) ?i1 ?n1 ?n2 f1 λt1 d5 l5 h5=> ?second⟩))))
  case z1=>have:=IntsAre.length hu1;simp only [List.length_cons,List.length_nil] at this;exact zn3 506411791793117569715521493927563699376116000 rfl hl hgl this
  case i1=>rw [hgl] at hu1;exact ints_app hu1 hg
  case n1=>rw [Ek];exact zn1 403321120 rfl
  case n2=>rw [Ek];exact zn1 59804668546462376808736 rfl hl
  case second=>
  have h5':∀p∈(LR,listOf vr.toArray c')::l2,p∈l5:=λp hp=>h5 p (.tail _ (.tail _ hp))
  refine Mine.X.f1 Jy (Mine.X.addL (Mine.X.listI (.cons Ev.int rfl (.cons (Ev.len (Ev.nameV a4) (h5' _ (.tail _ hR)) (by exact zn3 83444410848755458738988109655605537 rfl hl hlr hk)) rfl .nil)) (nLe rfl) λB3 u2 hu2 V=>Mine.X.evV (Ev.nameV a1) ⟨B3,LR,u2,vr,0,c',rfl,rfl,.head _,.tail _ (h5' _ (.head _)),?z2,λB4 c4 V=>CX.oct (.head _) (ns:=Ba gs) ?i2 ?n3 ?n4 f2 λt2 d6 l6 h6 FO hFO=> ?rest⟩))
  case z2=>have:=IntsAre.length hu2;simp only [List.length_cons,List.length_nil] at this;exact zn4 16992360031722693197217339665779494864587430852317472 rfl hl hlr hvl this
  case i2=>rw [hk] at hu2;exact ints_app hu2 hvr
  case n3=>rw [El];exact zn1 12911784224 rfl
  case n4=>rw [El];exact zn2 1312018373150006023367040508416288 rfl hl hlr
  case rest=>
  have h6':∀p∈l2,p∈l6:=λp hp=>h6 p (.tail _ (.tail _ (h5' p (.tail _ hp))))
  have hF:(FO,listOf [Value.bytes (Ag (A7 gs)) t1,Value.bytes (Ag (Ba gs)) t2].toArray 0)∈(FO,listOf [Value.bytes (Ag (A7 gs)) t1,Value.bytes (Ag (Ba gs)) t2].toArray 0)::l6:= .head _
  generalize hlF:(FO,listOf [Value.bytes (Ag (A7 gs)) t1,Value.bytes (Ag (Ba gs)) t2].toArray 0)::l6=lF at hF ⊢
  have hs7:∀p∈l2,p∈lF:=λp hp=>hlF▸ .tail _ (h6' p hp)
  clear hlF h6' h6 h5' h5 hFO
  have f0:Ci 0 gs=if 2*gs.length<=6* (Ae gs).length then A7 gs else Ba gs:=rfl
  have s1':(Ag (A7 gs)).size<=100000:=by rw [Cf,Ek];exact zn1 1913750549833966580031776 rfl hl
  have s2':(Ag (Ba gs)).size<=100000:=by rw [Cf,El];exact zn2 42106282398422213560374731323629856 rfl hl hlr
  refine WR.assignX (Mine.X.ev (Ev.ite (P:=λv=>∃t,v= .bytes (Ag (Ci 0 gs)) t) (Bv.le (Ev.lenB (Ev.itemN (j:=0) (Ev.nameV rfl) Ev.int hF rfl ⟨t1,rfl⟩) (nTr s1' (nLe rfl))) (Ev.lenB (Ev.itemN (j:=1) (Ev.nameV rfl) Ev.int hF rfl ⟨t2,rfl⟩) (nTr s2' (nLe rfl)))) (λh=>Ev.itemN (j:=0) (Ev.nameV rfl) Ev.int hF rfl ⟨t1,?e1⟩) λh=>Ev.itemN (j:=1) (Ev.nameV rfl) Ev.int hF rfl ⟨t2,?e2⟩) λv z=> ?_)
  case e1=>
   rw [Cf,Cf,Ek,El] at h
   rw [f0,if_pos (by exact zn2 14924974018387426995278471456 rfl h)]
  case e2=>
   rw [Cf,Cf,Ek,El] at h
   rw [f0,if_neg (by exact zn2 14924974018387426998499696931 rfl h)]
  obtain ⟨t9,e9⟩:=z
  subst e9
  have hcF:CovIn w lF X dx T tk0 vs:= .of λp hp=>hs7 p (hro2 p hp)
  refine WR.ifNot (BR.or (BR.cmp (c:=false) (XR.any (Mine.X.f1 Jz (Mine.X.t1 By (Mine.X.evV (Ev.nameV a3) (CX.tuple (hs7 _ hG2) (by exact zn2 39964669803224533785482264864 rfl hl hgl) λT8 V=>CX.tel0 (Ie hg (nTr hl (nLe rfl))) (λp hp=>lS hp▸ .head _) λv mu' new l7 hP q1 q2=> ?c1)))))))
  case c1=>
  obtain ⟨R8,rs8,c8,tl8,e1,_,e3,hD8,_⟩:=hP
  subst e1 e3
  have q1':∀p∈lF,p∈l7:=λp hp=>q1 p (.tail _ hp)
  refine XR.evV (Ev.nameV a4) ⟨CM.pairs (q2 _ (.head _)).1 (q1' _ (hs7 _ hR)) hD8 hD (λp hp=>(q2 p (.tail _ hp)).1) λp hp=>q1' p (hs7 p (htl p hp)),rfl,BR.or (BR.cmp (c:=false) (XR.list2 (XR.f2 Hh (Mine.X.evV (Ev.nameV a2) (Mine.X.evI Ev.int λta=>CXR.write (Vb hi hl hr) (.of λp hp=>q1' p (hcF.all p hp)) λtb d8 l8 r1=>XR.f2 Hh (Mine.X.evV (Ev.nameV a2) (Mine.X.evI Ev.int λtc=>CXR.write (Vc hi hl hr) (.of λp hp=>r1 p (q1' p (hcF.all p hp))) λtd d9 l9 r2 FW V=> ?c2)))))))⟩
  case c2=>
  have r9:∀p∈lF,p∈(FW,listOf [Value.bytes (Ag (A7 gs)) tb,Value.bytes (Ag (Ba gs)) td].toArray 0)::l9:=λp hp=> .tail _ (r2 p (r1 p (q1' p hp)))
  refine XR.evV (Ev.nameV rfl) ⟨CM.bytes2 (.head _) (r9 _ hF),rfl,BR.or (BR.cmp (c:=false) (XR.f1 Hh (Mine.X.evV (Ev.nameV a2) (CXR.write (Va hi hl hr) (.of λp hp=>r9 p (hcF.all p hp)) λte d10 l10 r3=>XR.evV (Ev.nameV rfl) ⟨CM.bytes,rfl,BR.orNil ⟨rfl,WR.nil ?c3⟩⟩))))⟩
  case c3=>
  refine WR.forSeq (λi G'=>∀(u:Loc) (lx:Led),u "coverage"=some (.ref X)->u "glyphs"=some (.ref G)->(∀p∈lF,p∈lx)->G' u lx) (λi G' h u lx b1 b2 b3=>h _ _ λG9 h9=>h9 u lx b1 b2 b3) (Ev.nameV rfl) .list (λi u lx V V b3=>b3 _ hF) (λG' h=>h _ _ a2 a3 λp hp=>r3 p (r9 p hp)) ?turn2 ?done2
  case turn2=>
   intro S' K' i v hv hr' hn u lx b1 b2 hz d11
   obtain ⟨ns,t,e,hns⟩:∃ns t,v= .bytes (Ag ns) t/\(ns=A7 gs\/ns=Ba gs):=by
    match i,hv with
    | 0,hv=>exact ⟨_,_,(sJ hv).symm,.inl rfl⟩
    | 1,hv=>exact ⟨_,_,(sJ hv).symm,.inr rfl⟩
    | n+2,hv=>cases hv
   subst e
   refine WR.ifNot (BR.cmp (c:=false) (XR.any (Mine.X.told (Mine.X.f2 O6 (Mine.X.ff (Ev.name rfl ⟨t,rfl⟩) (hns.elim (λe=>e▸s1') λe=>e▸s2') λtb=>Mine.X.evI Ev.int λta=>CX.tel0 (Vt hns hl hs hr hw) (λp hp=>no hp) λv mu' new l11 hP w1 w2=> ?c4)))))
   case c4=>
   obtain ⟨X1,dx1,T1,tk1,vs1,e1,_,e3,hi1⟩:=hP
   subst e1 e3
   refine ⟨X1,dx1,T1,tk1,vs1,rfl,.of λp hp=>(w2 p hp).1,λl12 w3=>XR.any (Mine.X.t1 By (Mine.X.evV (Ev.nameV b2) (CX.tuple (w3 _ (w1 _ (hz _ (hs7 _ hG2)))) (by exact zn2 39964669803224533785482264864 rfl hl hgl) λT9 V=>⟨CM.tup (.tail _ (w3 _ (w2 _ (.tail _ (.tail _ (.head _)))).1)) (.head _) hi1 hg,rfl,WR.nil (hn (mN (Str.ofString "octets") (.bytes (Ag ns) t) u) _ b1 b2 (λp hp=> .tail _ (w3 p (w1 p (hz p hp)))) _)⟩)))⟩
  case done2=>
   intro u lx b1 b2 hz d11
   have hb:=X9.b
   refine WR.tail X9 λg L gens os h k Y hK F7 N7'=> ?_
   have N7:News g L h ((G,listOf vg.toArray cg)::Al w X dx T tk0 vs):=λp hp=>N7' p (hz p ((lC hp).elim (λe=>e▸hs7 _ hG2) (hcF.all p)))
   have XX:=Y.XX
   have TT:=Y.T
   have B:=Y.B
   clear N7' hz X9
   refine (Az ?_:wpR _ _ (execs [_,_] _) _ _ _)
   refine Lc ?_
   refine (Az ?_:wpR _ _ (execs [_] _) _ _ _)
   refine Fz (C9 ?_) (by with_unfolding_all rfl) (by with_unfolding_all rfl)
   k_steps
   refine Dx (K:=Mine.hd.heap_39 w.params) (by assumption) (by k_is) ?_ (by with_unfolding_all rfl) (by with_unfolding_all rfl)
   k_steps
   refine nameX_L F7 b1 ?_
   k_steps
   have nX:=Oo N7 (.head _) λp hp=> .tail _ hp
   refine W7 (X:=X) (dx:=dx) (T:=T) (tk0:=tk0) (gs:=gs) [(G,listOf vg.toArray cg)] hi hl hr rfl rfl rfl rfl (by simp only [depth_deeper,Around.deeper_units];exact zn2 55817227966111148518812745808367905 rfl hb.d) (by simp only [depth_deeper,Around.deeper_units];exact zn2 57156841438434631367837814832711225633 rfl hb.u) (by assumption) (by assumption) (by assumption) (by assumption) N7 ?_ (λq hq r hr=>lS hq▸nX r hr) ?_
   ·exact λp hp=>(lA hp).elim (.tail _) λh=>lS h▸ .head _
   intro e h10 tk10 dr10 hOut
   (try dsimp only);(try k_unfold);(try dsimp only)
   obtain ⟨G8,dxe,tk1,tk2,x,t,u9,FG,UG,RD⟩:=hOut
   have hfl:([G9.env].filterMap (·.frame))= [G9.Ll]:=by rw [List.filterMap_cons,hb.fr];rfl
   refine Od (KF:=Mine.hd.heap_39 w.params) RD FG B UG hb.XB hb.TB Y.KD (by k_is) (by kts_isx) (λh11 g11 T11 a11 TT1 F11 N11 B11 X11 T12 D11=> ?_)
   rw [hfl] at TT1
   k_steps
   dsimp only
   unfold Behind
   dsimp only
   exact hK _ _ ⟨h,d11,k,Hq TT1 (by assumption) N11 (new:= []) (λp hp=>(lC hp).elim (λe=> .tail _ (.tail _ (lR _ (e▸ .head _)))) λh=> .tail _ (.tail _ (lL _ h))) (λV h9=>no h9) ⟨rfl,rfl⟩⟩
end
section
open PyProof.Rows.LCg PyProof.Rows.LCt
theorem Ki(e:defOf vw PySem.Challenge.rw_nu0172_01.row.name=some (d,kwd)):d.scope.kind= .function/\d.scope.isCoroutine=false/\d.scope.isGenerator=false/\((cellsFrom 0 d.scope.names []).map (·.1)).Nodup:=by
 obtain ⟨rfl,rfl⟩:=Prod.mk.inj (sJ e)
 exact ⟨rfl,rfl,rfl,by decide+kernel⟩
structure Go(s₁:Shared)(v:Value)(s':Shared):Prop where
 ex:∃h tk dr,v= .bool true/\s'= {s₁ with heap:=h,toks:=tk,drawn:=dr}/\∀b o,s₁.heap.get? b=some o->h.get? b=some o
noncomputable def Ip(d:DefRec):Prop:=
 ∀(w:World) (fa S:Addr) (cdv:Value) (s₁:Shared) (h₁:Heap) (tk:Nat) (p:Program) (loose:List Str) (mean:ExcName->Option Value) (mg mb:Str->Option Value) (vs:List Value) (ns:List Int) (cells:List (Addr×Obj)) (L:Addr),
  (hd.heap_39 w.params).In s₁.heap->Top p loose mean mg mb s₁.heap->s₁.heap.IsList S vs.toArray->IntsAre vs ns->ns.length<=63->
  Fr s₁.heap L h₁ (bindL (envOfC d.name d.scope L fa cdv).kindOf [(Str.ofString "script",.ref S)] λV=>none)->News s₁.heap L h₁ cells->CellsAre (bindC (envOfC d.name d.scope L fa cdv).kindOf [(Str.ofString "script",.ref S)] λV=>none) (cellsFrom (L+1) d.scope.names []) cells->
  wpR (model PySem.Challenge.rw_nu0172_01.row.prog w) (Around.deeper callerA (envOfC d.name d.scope L fa cdv)) (execs d.body (envOfC d.name d.scope L fa cdv))
   (λfl s'=>Go s₁ (match fl with | .ret v=>v | _=> .none) s') (λV V=>False) {s₁ with heap:=h₁,toks:=tk}
theorem law_holds(hb:∀d kwd,defOf vw PySem.Challenge.rw_nu0172_01.row.name=some (d,kwd)->Ip d):PySem.Challenge.rw_nu0172_01.Holds:=Mine.Hd.hd ⟨λd kwd e=>by
 have LB:=hb d kwd e
 have hnd:=(Ki e).2.2.2
 obtain ⟨rfl,rfl⟩:=Prod.mk.inj (sJ e)
 intro w s₀ s₁ mg mb G Y fa o pm cd doc dV kV ho hd hcd hD hmg hg args vals as hpre hlay hrd hwl hlo
 have KX:=kIn_of (show (kHook Mine.hd.heap_39 seen _).says _ _ from Y)
 refine Ground.open G ?_
 intro T B D TE TW
 clear hmg
 wrow_args hpre hlay hrd hwl hlo
 rename_i ns _ _ _ _ _ _ _ S vs _ hL _ _ _ hI _ hlen _
 refine Ao (Q:=Go s₁) (E:=λV V=>False) ?_ ?_ λV V z=>z.elim
 ·refine Co (Fd (by decide+kernel) ho hd rfl rfl rfl hcd ?_)
  obtain ⟨rfl,rfl⟩:=Dflts.none hD rfl
  refine BindsTo.of_eq (binds:= [(Str.ofString "script",.ref S)]) rfl _ _ _ _ ?_
  refine wpAny_newFunctionEnv_cells rfl (kindsX (by rfl) _) λenv' he s' x=> ?_
  subst he
  refine ⟨T.nolimit.keeps x.toInCall.keep,Fe ?_⟩
  obtain ⟨h₁,tk,rfl,_⟩:=x.done
  have hk₁:=x.toInCall.keep
  obtain ⟨cells,NC,Yc⟩:=Cl.news (h₀:=s₁.heap) (Nat.le_refl _) λn c hm=>⟨x.cell n c (lookup_of_mem_nodup (cellsFrom_names _ 0 (s₁.heap.objs.size+1) [] [] rfl▸hnd) hm),x.above n c hm⟩
  have Fg:=(⟨x.toInCall.ns,hk₁,Nat.le_refl _⟩:Fr s₁.heap s₁.heap.objs.size h₁ _)
  exact Ao (LB w fa S _ s₁ h₁ tk _ _ _ _ _ vs ns cells _ KX T hL hI (by omega) Fg NC Yc) (λV V z=>z) λV V z=>z.elim
 ·rintro v s' ⟨h,tk,dr,rfl,rfl,hk⟩
  exact ⟨.inl ⟨_,_,[],rfl,λV=>rfl,ReadsW.bool true,by wrow_post,λV=>⟨List.nodup_nil,λV hm=>(no hm)⟩⟩,.of_keep hk,rfl,.of_eq hg⟩⟩
end
section
open PyProof.Rows.LCg PyProof.Rows.LCt
theorem H0{l:List Int}{g:Int}(h:(l++ [g]).Pairwise (· < ·)):l.Pairwise (· < ·)/\∀x∈l,x<g:=by
 rw [List.pairwise_append] at h
 exact ⟨h.1,λx hx=>h.2.2 x hx g (.head _)⟩
noncomputable def Ct(gs:List Int):List Int:=gs.filter λg=>decide (g- 1∉gs)
noncomputable def ends(gs:List Int):List Int:=gs.filter λg=>decide (g+1∉gs)
theorem G3(h:∀x∈l,x<g):Ct (l++ [g])=Ct l++if g- 1∈l then [] else [g]:=by
 unfold Ct
 rw [List.filter_append]
 congr 1
 ·refine List.filter_congr λx hx=> ?_
  have:=h x hx
  simp only [List.mem_append,List.mem_singleton,not_or]
  rw [decide_eq_decide]
  exact ⟨λq=>q.1,λq=>⟨q,by exact λe9=>zi2 1513691666195679 rfl this e9⟩⟩
 ·by_cases q:g- 1∈l
  ·rw [if_pos q,List.filter_cons_of_neg (by simp [q])];rfl
  ·rw [if_neg q,List.filter_cons_of_pos (by simp only [List.mem_append,List.mem_singleton,not_or,decide_eq_true_eq];exact ⟨q,by exact λe9=>zi1 369827071 rfl e9⟩)];rfl
theorem Hc(h:∀x∈l,x<g):ends (l++ [g])=(ends l).filter (λx=>decide (x+1≠g))++ [g]:=by
 unfold ends
 rw [List.filter_append,List.filter_filter]
 congr 1
 ·refine List.filter_congr λx hx=> ?_
  simp only [List.mem_append,List.mem_singleton,not_or]
  rw [<-Bool.decide_and,decide_eq_decide]
  exact ⟨λq=>⟨q.2,q.1⟩,λq=>⟨q.2,q.1⟩⟩
 ·rw [List.filter_cons_of_pos]
  ·rfl
  ·simp only [List.mem_append,List.mem_singleton,not_or,decide_eq_true_eq]
   exact ⟨λq=>by have:=h _ q;exact zi1 369763551 rfl this,by exact λe9=>zi1 369763583 rfl e9⟩
structure RunInv(gs:List Int):Prop where
 be:(Ct gs).length=(ends gs).length
 zip:(Ct gs).zip (ends gs)=Ae gs
 ex:Ay (Ae gs)=gs
 le:∀p∈Ae gs,p.1<=p.2
 last:gs≠ []->∃b0 a e0 b,Ct gs=b0++ [a]/\ends gs=e0++ [b]/\b∈gs/\∀x∈gs,x<=b
theorem RunInv.of(eb:Ct gs=b)(ee:ends gs=e)(er:Ae gs=r)(h1:b.length=e.length)(h2:b.zip e=r)(h3:Ay r=gs)(h4:∀p∈r,p.1<=p.2)(h5:b=b0++ [a])(h6:e=e0++ [z])(h7:z∈gs)(h8:∀x∈gs,x<=z):RunInv gs:=by
 rw [<-eb,<-ee] at h1 h2
 exact ⟨h1,h2.trans er.symm,er▸h3,er▸h4,λV=>⟨b0,a,e0,z,eb.trans h5,ee.trans h6,h7,h8⟩⟩
theorem Lh(g:Int):rangeKs g (g+1- g).toNat= [g]:=by
 rw [show (g+1- g).toNat=1 by exact Nat.le_antisymm (lin [_] [_] 397044668911943968 rfl (iTo (zi1 11832863013 rfl))) (lin [_] [_] 397044668844485920 rfl (iTo (zi1 11832863013 rfl)))]
 simp [rangeKs]
theorem Th(hab:a<=b)(hgb:b+1=g):rangeKs a (g+1- a).toNat=rangeKs a (b+1- a).toNat++ [g]:=by
 have e1:(g+1- a).toNat=(b+1- a).toNat+1:=Ac (lin [_,_] [_,_,_] 104562903777959067720382212491567028894302496 rfl hgb (iTo (zi3 13397693897250739535423781 rfl hab hgb)) (iTo (zi2 1448103006382373 rfl hab))) (lin [_,_] [_,_,_] 104562902451327220364771458546911947495854368 rfl hgb (iTo (zi3 13397693897250739535423781 rfl hab hgb)) (iTo (zi2 1448103006382373 rfl hab)))
 unfold rangeKs
 rw [e1,List.range_succ,List.map_append]
 congr 1
 show [a+ ((b+1- a).toNat:Int)]= [g]
 congr 1
 exact Int.le_antisymm (lin [_] [_,_,_] 14048995529388068113893901226277 rfl hgb (iTo (zi2 1448103006382373 rfl hab))) (lin [_] [_,_,_] 54613814734329072796649626665253 rfl hgb (iTo (zi2 1448103006382373 rfl hab)))
theorem Kt{l:List (Int×Int)}{a b:Int}(h:∀p∈l,p.1<=p.2)(hab:a<=b):∀p∈l++ [(a,b)],p.1<=p.2:=λp hp=>(lA hp).elim (h p) λhp=>lS hp▸hab
theorem Km(h:l.length=k.length):(l++ [a]).length=(k++ [b]).length:=by rw [List.length_append,List.length_append,h];rfl
theorem Ik(h:l.length=k.length):(l++ [a]).zip (k++ [b])=l.zip k++ [(a,b)]:=by rw [List.zip_append h];rfl
theorem Tt(n:Nat):∀gs:List Int,gs.length=n->gs.Pairwise (· < ·)->RunInv gs:=by
 induction n with
 | zero=>exact λgs hl V=>List.eq_nil_of_length_eq_zero hl▸⟨rfl,rfl,rfl,λp hp=>no hp,λq=>absurd rfl q⟩
 | succ n ih=>
  intro gs hl hs
  rcases List.eq_nil_or_concat gs with e | ⟨l,g,e⟩
  ·rw [e] at hl;exact Nat.noConfusion hl
  rw [List.concat_eq_append] at e
  subst e
  rw [List.length_append,List.length_singleton] at hl
  have hsl:=(H0 hs).1
  have hlt:=(H0 hs).2
  have I:=ih l (Nat.succ.inj hl) hsl
  have hle:∀x∈l++ [g],x<=g:=λx hx=>(lA hx).elim (λhx=>Int.le_of_lt (hlt x hx)) λhx=>lS hx▸Int.le_refl _
  have hgm:g∈l++ [g]:=lR _ (.head _)
  by_cases hn:l= []
  ·subst hn
   exact .of (b:= [g]) (e:= [g]) (r:= [(g,g)]) (b0:= []) (e0:= []) (G3 hlt) (Hc hlt) (Et [] g) rfl rfl ((List.append_nil _).trans (Lh g)) (λp hp=>lS hp▸Int.le_refl _) rfl rfl hgm hle
  ·obtain ⟨b0,a,e0,b,hb,he,hbl,hbm⟩:=I.last hn
   have hlen:b0.length=e0.length:=by
    have:=I.be
    rw [hb,he,List.length_append,List.length_append] at this
    exact Nat.add_right_cancel this
   have hz:Ae l=b0.zip e0++ [(a,b)]:=by rw [<-I.zip,hb,he,Ik hlen]
   have hab:a<=b:=I.le (a,b) (hz▸lR _ (.head _))
   by_cases hg:g- 1∈l
   ·have hgb:b+1=g:=Int.le_antisymm (zi2 35500097294629 rfl (hlt _ hbl)) (zi2 48438200227201317 rfl (hbm _ hg))
    have hpe:(e0++ [b]).Pairwise (· < ·):=he▸List.Pairwise.filter _ hsl
    have hf:(ends l).filter (λx=>decide (x+1≠g))=e0:=by
     rw [he,List.filter_append,List.filter_eq_self.mpr λx hx=>decide_eq_true (show x+1≠g from λe9=>by have:=(H0 hpe).2 x hx;exact zi3 1627601445844124489622783 rfl hgb this e9),List.filter_cons_of_neg (by simp only [decide_eq_true_eq];exact λq=>q hgb)]
     exact List.append_nil _
    refine .of (b:=b0++ [a]) (e:=e0++ [g]) (r:=b0.zip e0++ [(a,g)]) ((G3 hlt).trans (by rw [if_pos hg,List.append_nil,hb])) ((Hc hlt).trans (by rw [hf])) ((Et l g).trans (H6 hz hgb)) (Km hlen) (Ik hlen) ?_ (Kt (λp hp=>I.le p (hz▸lL _ hp)) (Int.le_trans hab (Int.le_of_lt (hlt _ hbl)))) rfl rfl hgm hle
    have q:=I.ex
    rw [hz,Ef] at q
    rw [Ef,Th hab hgb,<-List.append_assoc,q]
   ·have hne:∀x∈l,x+1≠g:=λx hx q=>hg (q▸(Int.add_sub_cancel x 1).symm▸hx)
    have hf:(ends l).filter (λx=>decide (x+1≠g))=ends l:=List.filter_eq_self.mpr λx hx=>decide_eq_true (hne x ((List.mem_filter.mp hx).1))
    exact .of (b:=Ct l++ [g]) (e:=ends l++ [g]) (r:=Ae l++ [(g,g)]) ((G3 hlt).trans (by rw [if_neg hg])) ((Hc hlt).trans (by rw [hf])) ((Et l g).trans (H7 hz λq=>hne b hbl q)) (Km I.be) ((Ik I.be).trans (by rw [I.zip])) ((Ef _ _ _).trans (by rw [I.ex,Lh])) (Kt I.le (Int.le_refl _)) rfl rfl hgm hle
theorem Ow(a b:List (Int×Int)):Ay (a++b)=Ay a++Ay b:=by unfold Ay;rw [List.flatMap_append]
theorem Tu(hs:gs.Pairwise (· < ·))(hr:∀x∈gs,0<=x/\x<=65535):Gw gs:=by
 have I:=Tt gs.length gs rfl hs
 have i1:=I.be
 have i2:=I.zip
 have i3:=I.ex
 have i4:=I.le
 have split:∀(i:Nat) f l,(Ae gs)[i]?=some (f,l)->∃r,gs=Ay ((Ae gs).take i)++f::r:=by
  intro i f l hi
  have hlt:=(List.getElem?_eq_some_iff.mp hi).1
  have e:Ae gs=(Ae gs).take i++(f,l)::(Ae gs).drop (i+1):=by
   conv=>lhs;rw [<-List.take_append_drop i (Ae gs)]
   rw [List.drop_eq_getElem_cons hlt,(List.getElem?_eq_some_iff.mp hi).2]
  have hfl:=i4 (f,l) (List.mem_of_getElem? hi)
  have hfl':f<=l:=hfl
  refine ⟨(List.range (l- f).toNat).map (λk=>f+ (k+1:Nat))++Ay ((Ae gs).drop (i+1)),?_⟩
  conv=>lhs;rw [<-i3,e,Ow]
  congr 1
  show rangeKs f (l+1- f).toNat++Ay ((Ae gs).drop (i+1))=_
  rw [show (l+1- f).toNat=(l- f).toNat+1 by exact Nat.le_antisymm (lin [_,_] [_,_] 41438465432923196013558567141664 rfl (iTo (zi2 1448103006382373 rfl hfl)) (iTo (zi2 1414152268069 rfl hfl))) (lin [_,_] [_,_] 41437229910735549897657344348448 rfl (iTo (zi2 1448103006382373 rfl hfl)) (iTo (zi2 1414152268069 rfl hfl)))]
  unfold rangeKs
  rw [List.range_succ_eq_map,List.map_cons,List.map_map]
  show (f+0)::_++_=_
  rw [Int.add_zero]
  rfl
 refine ⟨i1,i2,λi f l hi=> ?_,i3,λi f l hi=> ?_⟩
 ·obtain ⟨r,e⟩:=split i f l hi
  have hlen:=Jr (ps:=(Ae gs).take i) λp hp=>i4 p (List.mem_of_mem_take hp)
  refine ⟨(Ay ((Ae gs).take i)).length,?_,hlen⟩
  have z:(Ay ((Ae gs).take i)++f::r)[(Ay ((Ae gs).take i)).length]?=some f:=by
   rw [List.getElem?_append_right (Nat.le_refl _),Nat.sub_self];rfl
  rw [<-e] at z
  exact z
 ·obtain ⟨r,e⟩:=split i f l hi
  rcases List.eq_nil_or_concat ((Ae gs).take i) with h0 | ⟨ps,⟨a,b⟩,h0⟩
  ·rw [h0]
   have:=hr f (by rw [e];exact lR _ (.head _))
   exact this.1
  ·rw [List.concat_eq_append] at h0
   rw [h0,Kj]
   have hab:=i4 (a,b) (List.mem_of_mem_take (by rw [h0];exact lR _ (.head _)))
   have hab':a<=b:=hab
   rw [h0,Ef] at e
   rw [e,List.pairwise_append] at hs
   have hb:b∈Ay ps++rangeKs a (b+1- a).toNat:=lR _ (by
    unfold rangeKs
    refine List.mem_map.mpr ⟨(b- a).toNat,List.mem_range.mpr (by exact lin [_,_] [_,_] 53256433379630279795313508641 rfl (iTo (zi2 1414152268069 rfl hab)) (iTo (zi2 1448103006382373 rfl hab))),by show a+ ((b- a).toNat:Int)=b;exact Int.le_antisymm (lin [_] [_,_] 1946374416802795813 rfl (iTo (zi2 1414152268069 rfl hab))) (lin [_] [_,_] 37686938860267372837 rfl (iTo (zi2 1414152268069 rfl hab)))⟩)
   have:=hs.2.2 b hb f (.head _)
   exact zi2 35500097294629 rfl this
theorem Gz{gs hs:List Int}(h1:gs.Pairwise (· < ·))(h2:hs.Pairwise (· < ·))(h:∀x,x∈gs ↔ x∈hs):gs=hs:=by
 induction gs generalizing hs with
 | nil=>
  cases hs with
  | nil=>rfl
  | cons y r=>exact absurd ((h y).mpr (.head _)) (λq=>nomatch q)
 | cons x r ih=>
  cases hs with
  | nil=>exact absurd ((h x).mp (.head _)) (λq=>nomatch q)
  | cons y t=>
   rw [List.pairwise_cons] at h1 h2
   have e:x=y:=by
    have a1:=(h x).mp (.head _)
    have a2:=(h y).mpr (.head _)
    rcases lC a1 with e | a1
    ·exact e
    rcases lC a2 with e | a2
    ·exact e.symm
    ·have b1:=h1.1 y a2
     have b2:=h2.1 x a1
     exact Int.le_antisymm (zi2 1449190993461509 rfl b1 b2) (zi2 36352054819586309 rfl b1 b2)
   subst e
   congr 1
   refine ih h1.2 h2.2 λz=>⟨λhz=> ?_,λhz=> ?_⟩
   ·rcases lC ((h z).mp (.tail _ hz)) with e | q
    ·have:=h1.1 z hz;omega
    ·exact q
   ·rcases lC ((h z).mpr (.tail _ hz)) with e | q
    ·have:=h2.1 z hz;omega
    ·exact q
end
section
open PyProof.Rows.LCg PyProof.Rows.LCt
inductive TabIs:List (Int×Value)->List (Int×Int)->Prop
 | nil:TabIs [] []
 | cons {kvs:List (Int×Value)} {tab:List (Int×Int)} (k v:Int) (t:Tok):TabIs kvs tab->TabIs ((k,.int v t)::kvs) ((k,v)::tab)
noncomputable def tabAt(tab:List (Int×Int))(k:Int):Option Int:=(tab.find? λp=>p.1=k).map (·.2)
theorem TabIs.some(h:TabIs kvs tab)(e:tabAt tab k=some v):∃t,valueAt kvs k=some (.int v t):=by
 induction h with
 | nil=>cases e
 | @cons kvs tab k' v' t _ ih=>
  unfold tabAt at e
  rw [List.find?_cons] at e
  unfold valueAt
  rw [List.find?_cons]
  by_cases q:k'=k
  ·simp only [q,decide_true] at e ⊢
   cases e
   exact ⟨t,rfl⟩
  ·simp only [q,decide_false] at e ⊢
   exact ih e
theorem TabIs.none(h:TabIs kvs tab)(e:tabAt tab k=none):valueAt kvs k=none:=by
 induction h with
 | nil=>rfl
 | @cons kvs tab k' v' t _ ih=>
  unfold tabAt at e
  rw [List.find?_cons] at e
  unfold valueAt
  rw [List.find?_cons]
  by_cases q:k'=k
  ·simp only [q,decide_true] at e;cases e
  ·simp only [q,decide_false] at e ⊢
   exact ih e
theorem Jt(gs:List Int)(f:Int->Option Int):(gs.filter λa=>decide ((f a).isSome=true)).map (λa=>(f a).getD 0)=gs.filterMap f:=by
 induction gs with
 | nil=>rfl
 | cons a r ih=>
  rw [List.filter_cons,List.filterMap_cons]
  cases h:f a with
  | none=>exact ih
  | some b=>
   show (List.map _ (a::_))=b::_
   rw [List.map_cons,ih,h];rfl
section
variable {C:Cd}{n:Nat}{w:World}{pos:Pos}{e1 e2:PySem.Expr}{S:Si C n w}{m:Loc}{l:Led}{d:Addr}{o:Obj}{kvs:List (Int×Value)}{tab:List (Int×Int)}{a b:Int}
theorem Bv.isInD(h1:Ev S m l e1 (isI a))(h2:Ev S m l e2 (· = .ref d))(hm:(d,o)∈l)(hd:o.IsDictOf (intKind PySem.Challenge.rw_nu0172_01.row.prog w) kvs)(lo:(d==sysModules)=false)(hT:TabIs kvs tab)(hp:Af e2=true:=by exact Eq.refl true):Bv S m l (.Compare e1 [.In] [e2] pos) ((tabAt tab a).isSome=true):=
 ⟨λh dr k Q A hq=>wpAny_isTrue_Compare1 (h1.run h dr k _ A λv1 h1 k1 ⟨t,p1⟩ A1=>h2.run h1 dr k1 _ A1 λv2 h2 k2 p2 A2=>by
  subst p1 p2
  have hD:Heap.DictOf (intKind PySem.Challenge.rw_nu0172_01.row.prog w) h2 d kvs:=Heap.dictOf_iff.mpr ⟨_,(A2.N1 _ hm).1,hd⟩
  refine wpAny_in_of (intKind_is _ w a t) lo hD.mapOf (wpAny_truthy_bool (hq _ h2 _ ?_ A2))
  cases e:tabAt tab a with
  | none=>rw [hT.none e];exact Iff.rfl
  | some b=>obtain ⟨u,hv⟩:=hT.some e;rw [hv];exact Iff.rfl) (C6 hp)⟩
theorem Ev.itemD(h1:Ev S m l e1 (· = .ref d))(h2:Ev S m l e2 (isI a))(hm:(d,o)∈l)(hd:o.IsDictOf (intKind PySem.Challenge.rw_nu0172_01.row.prog w) kvs)(hT:TabIs kvs tab)(e:tabAt tab a=some b)(ok:Af e2=true:=by exact Eq.refl true):Ev S m l (.Subscript e1 e2 pos) (isI b):=
 ⟨λh dr k Q A hq=>Subscript_ (h1.run h dr k _ A λv1 h1' k1 hv1 A1=>h2.run h1' dr k1 _ A1 λv2 h2 k2 hv2 A2=>by
  obtain ⟨t,hv2⟩:=hv2
  subst hv1 hv2
  have hD:Heap.DictOf (intKind PySem.Challenge.rw_nu0172_01.row.prog w) h2 d kvs:=Heap.dictOf_iff.mpr ⟨_,(A2.N1 _ hm).1,hd⟩
  obtain ⟨u,hv⟩:=hT.some e
  exact kba_turn (value':=PySem.Expr.Name (Str.ofString "_") ⟨0,0,0,0⟩) (λV=>rfl) (tail_any hD.typeIs slot_dict_getitem.lookup (wpAny_getItem_of (intKind_is _ w a t) hD.mapOf hv (hq _ h2 _ ⟨u,rfl⟩ A2)) (D7 ok)))⟩
end
theorem V1{w:World}{X dx T d:Addr}{tk0:Tok}{vs:List Value}{gs:List Int}{o:Obj}{kvs:List (Int×Value)}{tab:List (Int×Int)}(hi:IntsAre vs gs)(hl:gs.length<=60)(hd:o.IsDictOf (intKind PySem.Challenge.rw_nu0172_01.row.prog w) kvs)(lo:(d==sysModules)=false)(hT:TabIs kvs tab):
  TelX w 372 12 ⟨[.ref X,.ref d],[]⟩ ((d,o)::Al w X dx T tk0 vs)
   (λv new=>∃X dx T tk vs hs,v= .ref X/\new=Al w X dx T tk vs/\IntsAre vs hs/\hs.Pairwise (· < ·)/\(∀x,x∈hs ↔ x∈gs.filterMap (tabAt tab))):=by
 refine' Vd (j:=11) (y:=Str.ofString "table") (vy:= .ref d) [(Str.ofString "coverage",.ref X),(Str.ofString "table",.ref d)] [(Str.ofString "coverage",.ref X)] ?k6 ?k7 ?k9 ?kB ?kC ?kv ?kl ?_ ?c2 ?c3 ?c4
 case k6=>k_is
 case k7=>k_is
 case k9=>exact λV V=>BindsTo.of_eq rfl
 case kB=>exact rfl
 case kC=>exact λV=>rfl
 case kv=>exact rfl
 case kl=>exact λp hp=>by rw [List.mem_singleton.mp hp];rfl
 case c2=>exact rfl
 case c3=>exact rfl
 case c4=>exact rfl
 intro S K d9 m l₁ c oc hcl hc ho hro hK v1
 have hx:=CovIn.of λp hp=>hro p (.tail _ hp)
 have hT9:=hro _ (.head _)
 have kc:S.cl.lookup (Str.ofString "table")=some c:=by rw [hcl];rfl
 refine W.retX (Mine.X.f1 Hf (Mine.X.comp (CR.ofT (Cu kc) (Mine.X.evV (Ev.attr Bl (Ev.nameV v1) hx.a hx.b rfl rfl) ⟨rfl,CmT.filter (P:=λg=>(tabAt tab g).isSome=true) (f:=λg=>(tabAt tab g).getD 0) hx.c .tup hi (λS' a t V hI=>Bv.isInD (hI.nm _ _ _).toI (Ev.cell (hI.cl▸B9 kc rfl) hc ho) hT9 hd lo hT) (λS' a t V hp hI=>Ev.itemD (Ev.cell (hI.cl▸B9 kc rfl) hc ho) (hI.nm _ _ _).toI hT9 hd hT (Option.some_get hp▸rfl)) (nTr hl (nLe rfl)) λys hz D1 V=> ?_⟩))))
 rw [Jt] at hz
 exact CX.cov (.head _) hz (nTr (List.length_filterMap_le _ _) (nTr hl (nLe rfl))) λX9 dx9 T9 tk9 vs9 hs9 l9 i9 p9 m9 V V V V s9 c9 f9=>hK _ d9 _ _ ⟨X9,dx9,T9,tk9,vs9,hs9,rfl,rfl,i9,p9,m9⟩ (λp hp r hr=>f9 p hp r (.tail _ (hro r hr))) (λp hp=>c9.all p hp) λp hp=>s9 p (.tail _ hp)
end
section
structure LG(w:World)(A:Around)(L:Addr)(h₀:Heap):Prop where
 ex:∃(p:Program) (loose:List Str) (mean:ExcName->Option Value) (mg mb:Str->Option Value) (A₀:Around) (env:Env),A.frames=some [env]/\env.frame=some L/\env.scope.kind= .function/\A.handled=none/\A.depth+40<recursionLimit/\A.units+8*40<cLine/\Below A₀ h₀ [] h₀/\(hd.heap_39 w.params).In h₀/\Top p loose mean mg mb h₀
section
variable {C:Cd}{n:Nat}{w:World}{x name:Str}{px pos p2 p3 p4:Pos}{e e1 e2:PySem.Expr}{es:List PySem.Expr}{rest:List Stmt}{rs:List (List Stmt)}{S:Si C n w}{K:Flow->Shared->Prop}{d:Drawn}{m:Loc}{l ro r:Led}{a b:Int}{t:Tok}{v f:Value}{vs us:List Value}{κ:Value->Drawn->Led->Prop}{cN kd k:Nat}{D fa c:Addr}{ns:List Int}{o:Obj}{v0:Option Value}{Post:Value->Led->Prop}{PostD:Value->Led->Led->Prop}{q:Addr×Obj}
theorem CXR.telX(T:TelX w fa k ⟨vs,[]⟩ ro Post)(hL:LG w S.A S.L S.h₀)(hro:∀p∈ro,p∈l)(h:∀v d' new l',Post v new->(∀p∈l,p∈l')->(∀p∈new,p∈l')->κ v d' l')(hk:decide (k<=40)=true:=by exact Eq.refl true):CXR S d m l (.ref fa) vs κ:=
 ⟨λh9 k9 Q A hq=>by
  obtain ⟨p,loose,mean,mg,mb,A₀,env,hf,hfr,hke,hh,hd,hu,B,X,Tp⟩:=hL.ex
  have hk:=of_decide_eq_true hk
  refine T.use hf hfr hke hh (Nat.lt_of_le_of_lt (Nat.add_le_add_left hk _) hd) (Nat.lt_of_le_of_lt (Nat.add_le_add_left (Nat.mul_le_mul_left 8 hk) _) hu) B X Tp A.F A.N (λp hp=>lL _ (hro p hp)) λv new h' tk' dr' hP F N hne=> ?_
  obtain ⟨l',A',s1,s2⟩:=A.join F N hne
  exact hq _ _ _ _ _ (h v dr' new l' hP s1 s2) A'⟩
theorem CX.telD1(T:TelD w fa k ⟨vs,[]⟩ [q] ro PostD)(hp:Pick l q r)(hro:∀p∈ro,p∈r)(h:∀v d' mu' new,PostD v mu' new->mu'.map (·.1)= [q.1]/\Aw new/\κ v d' (mu'++(new++r)))(hk:decide (k<=n)=true:=by exact Eq.refl true):CX S d m l (.ref fa) vs κ:=
 ⟨λh9 k9 Q A hq=>by
  have D:=List.pairwise_cons.mp (C4 hp.perm.symm A.D)
  have hql:q∈l:=hp.sub _ (.head _)
  have hrl:∀p∈r,p∈l:=λp h=>hp.sub _ (.tail _ h)
  refine T.use (news:=r++S.own) (S.less (of_decide_eq_true hk)) A.F A.N (λp hp'=> ?_) (λp hp' q' hq'=> ?_) λv mu' new h' tk' dr' F N hlt hne hP=> ?_
  ·rcases lC hp' with e | hp'
   ·exact lL _ (e▸hql)
   ·exact (lA (show p∈ro++(r++S.own) from hp')).elim (λh=>lL _ (hrl p (hro p h))) λh=>(lA h).elim (λh=>lL _ (hrl p h)) (lR _)
  ·rw [List.mem_singleton.mp hq']
   exact (lA hp').elim (λh=>D.1 p (hro p h)) λh=>(lA h).elim (D.1 p) λh=>A.O p h q hql
  obtain ⟨e1,e2,z⟩:=h v dr' mu' new hP
  have hm:∀p∈mu',p.1=q.1:=λp hp=>by
   have:p.1∈mu'.map (·.1):=List.mem_map_of_mem hp
   rw [e1] at this;exact lS this
  refine hq v dr' _ h' tk' z ⟨F,λp hp=>N p ?_,Ff (Fh (l:= [q]) (l':=mu') e1 (List.pairwise_singleton _ _)) (Ff e2 D.2 λp hp r hr=>(hne p hp r (lL _ hr)).symm) (λp hp r hr=> ?_),λp hp r hr=> ?_⟩
  ·rcases lA hp with h | h
   ·rcases lA h with h | h
    ·exact lL _ h
    ·exact lR _ ((lA h).elim (lL _) λh=>lR _ (lR _ (lL _ h)))
   ·exact lR _ (lR _ (lR _ (lR _ h)))
  ·rw [hm p hp]
   rcases lA hr with h | h
   ·exact Ne.symm (Nat.ne_of_lt (hlt r h q (.head _)))
   ·exact D.1 r h
  ·rcases lA hr with h | h
   ·rw [hm r h];exact A.O p hp q hql
   ·rcases lA h with h | h
    ·exact (hne r h p (lR _ hp)).symm
    ·exact A.O p hp r (hrl r h)⟩
theorem WR.setCell(hc:S.cl.lookup x=some c)(he:X S d m l e λv d' l'=>∃o v0,(c,o)∈l'/\o.data= .cell v0/\∀o' r,o'.data= .cell (some v)->(∀p∈l',p≠(c,o)->p∈r)->WR S K d' m ((c,o')::r) rest rs)(ok:decide (C.cs.kind= .function/\C.cs.names.lookup x=some .cell)=true:=by exact Eq.refl true)(hs:Af e=true:=by exact Eq.refl true):WR S K d m l (.Assign [.Name x pos] e p2::rest) rs:=
 ⟨λh9 k A=>Az (Fy ((XR.any he).run h9 k _ A λv d' l' h' k' z A'=>by
  obtain ⟨o,v0,hm,ho,z⟩:=z
  obtain ⟨r,hp⟩:=As hm
  have z:=λo' hd=>z o' r hd λp hp' hne=>(lC (hp.perm.mem_iff.mpr hp')).elim (λe=>absurd e hne) id
  have ok:=of_decide_eq_true ok
  have hin:=A'.N1 _ (hp.sub _ (.head _))
  have hD:=List.pairwise_cons.mp (C4 hp.perm.symm A'.D)
  have hc':S.env.cells.lookup x=some c:=by
   unfold Si.env Cd.env
   cases C.fn<;>exact hc
  refine wpAny_storeName_cell (by rw [S.scope];exact ok.1) (S.kind▸ok.2) hc' ⟨o,hin.1,ho⟩ λh2 hv hs=> ?_
  obtain ⟨o',ho',hd'⟩:=hv
  have up:∀p∈r++S.own,p.1≠c:=λp hp'=>(lA hp').elim (hD.1 p) λh=>A'.O p h _ (hp.sub _ (.head _))
  exact (z o' hd').run h2 k' ⟨⟨A'.F.ns.sameBut hs (Ne.symm hin.2.1),λb ob e=>(hs.2 b (λq=>by rw [q,hin.2.2] at e;cases e)).trans (A'.F.keep b ob e),A'.F.above⟩,λp hp'=>(lC hp').elim (λe=>e▸⟨ho',hin.2⟩) λhp'=>⟨(hs.2 _ (up p hp')).trans (A'.N p ((lA hp').elim (λh=>lL _ (hp.sub _ (.tail _ h))) (lR _))).1,(A'.N p ((lA hp').elim (λh=>lL _ (hp.sub _ (.tail _ h))) (lR _))).2⟩,List.pairwise_cons.mpr hD,λp hp' q hq=>(lC hq).elim (λe=>by rw [e];exact A'.O p hp' (c,o) (hp.sub _ (.head _))) λhq=>A'.O p hp' q (hp.sub _ (.tail _ hq))⟩) (Cg hs))⟩
theorem X.listXI(h:X S d m l e1 λv1 d1 l1=>EvI S m l1 es ns/\ns.length<=1000/\∀D vs,IntsAre vs ns->(∀p∈l1,p.1<D)->κ (.ref D) d1 ((D,listOf (v1::vs).toArray 0)::l1))(ok:Au e1=true:=by exact Eq.refl true):X S d m l (.List (e1::es) pos) κ:=
 ⟨λh9 k Q A hq=>List_ (args_cons (h.run h9 k _ A λv1 d1 l1 h1 k1 z A1=>z.1.run A1 λvs h2 k2 hi A2=>newList_K (vs:=v1::vs) A2.F A2.N (λD h' F N hD=>hq _ _ _ _ _ (z.2.2 D vs hi λp hp=>hD p (lL _ hp)) (A2.new F N hD)) (by rw [List.length_cons,IntsAre.length hi,sizeLine_eq];exact nTr (Nat.succ_le_succ z.2.1) (nLe rfl))) (Ad ok))⟩
theorem Nh:Bi (Str.ofString "int") (.type "int"):=⟨λw=>by k_is,by rfl⟩
theorem Ev.toInt(h:Ev S m l e (isI a))(ok:okB C (Str.ofString "int") [e]=true:=by exact Eq.refl true):Ev S m l (.Call (.Name (Str.ofString "int") p2) [e] [] pos) (isI a):=
 Ev.ofX λd=>X.t1 Nh (X.evI h λt=>⟨λh k Q A hq=>PySem.call_int_int (hq _ _ _ _ _ ⟨⟨t,rfl⟩,rfl,λV h=>h⟩ A)⟩) ok
theorem X.upto(hd:Ev S m l (.Name x px) (· = .ref D))(hL:S.h₀.IsList D vs.toArray)(hi:IntsAre vs ns)(ha:0<=a)(hl:ns.length<=1000)(h:∀R ws,IntsAre ws (ns.take a.toNat)->(∀p∈l,p.1<R)->κ (.ref R) d ((R,listOf ws.toArray 0)::l)):X S d m l (.Subscript (.Name x px) (.Slice none (some (.Constant (.int a) kd p2)) none p3) pos) κ:=
 ⟨λh9 k Q A hq=>Subscript_ (hd.run h9 d k _ A λv h1 k1 hv A1=>by
  subst hv
  refine wpAny_Slice ?_
  show wpAny _ _ (pure _) _ _ _
  refine wpAny_pure ?_
  show wpAny _ _ (eval _ _) _ _ _
  refine wpAny_Constant_int ?_
  show wpAny _ _ (pure _) _ _ _
  refine wpAny_pure ?_
  exact kmk_slice_ints A1.F A1.N (hL.at λo e=>A1.F.keep _ _ e) IsPart.none (IsPart.int _ _) hi (kmk_upto hi ha) rfl (λR ws h' F N hlt hws V V=>hq _ _ _ _ _ (h R ws hws λp hp=>hlt p (lL _ hp)) (A1.new F N hlt)) (by with_unfolding_all rfl) (λV=>by with_unfolding_all rfl) (by rw [List.size_toArray,IntsAre.length hi,sizeLine_eq];exact nTr hl (nLe rfl)))⟩
theorem Jw:Fn (Str.ofString "_law_glyphs") (.ref 394):=⟨λw=>by k_is,λw=>by k_is⟩
theorem O3:Fn (Str.ofString "_law_mixed_up") (.ref 401):=⟨λw=>by k_is,λw=>by k_is⟩
end
structure Ce(l:Led)(c:Addr)(v:Option Value):Prop where
 ex:∃o,(c,o)∈l/\o.data= .cell v
noncomputable def Bq(o:Obj):Prop:=∀C seat t1 rst t2 n,o≠Bb C seat t1 rst t2 n
noncomputable abbrev Gr(l l':Led):Prop:=∀p∈l,Bq p.2->p∈l'
theorem Bn(h:IntsAre v g):Bq (listOf v.toArray c):=λC seat t1 rst t2 n e=>by
 have e1:Data.seq v.toArray c=Data.seq #[.ref C,.int seat t1,.int rst t2] n:=congrArg Obj.data e
 injection e1 with e2 _
 have e3:v= [.ref C,.int seat t1,.int rst t2]:=by have:=congrArg Array.toList e2;simpa using this
 subst e3
 exact nomatch h
theorem Ep:Bq (listOf [x,y].toArray c):=λC seat t1 rst t2 n e=>by
 have e1:Data.seq #[x,y] c=Data.seq #[.ref C,.int seat t1,.int rst t2] n:=congrArg Obj.data e
 injection e1 with e2 _
 have:=congrArg Array.size e2
 exact absurd (show (2:Nat)=3 from this) (by decide)
theorem Br(h:o.data= .cell v):Bq o:=λC seat t1 rst t2 n e=>by
 have e1:=(congrArg Obj.data e).symm.trans h
 cases e1
theorem Ce.gr(h:Ce l c v)(k:Gr l l'):Ce l' c v:=h.ex.elim λo z=>⟨o,k _ z.1 (Br z.2),z.2⟩
theorem Ce.to(h:Ce l c v)(k:∀p∈l,p.1=c->p∈l'):Ce l' c v:=h.ex.elim λo z=>⟨o,k _ z.1 rfl,z.2⟩
structure Pn(l:Led)(Pp:Addr)(b:Int):Prop where
 ex:∃(Cc:Addr) (cs:List Value) (ns:List Int) (nc nn:Nat) (seat rst:Int) (t1 t2:Tok),(Pp,Bb Cc seat t1 rst t2 nn)∈l/\(Cc,listOf cs.toArray nc)∈l/\IntsAre cs ns/\ns.length<=40/\0<=seat/\seat<=b/\0<=rst
theorem Pn.of{l:Led}{Pp Cc:Addr}{b seat rst:Int}{cs:List Value}{ns:List Int}{nc nn:Nat}{t1 t2:Tok}(a:(Pp,Bb Cc seat t1 rst t2 nn)∈l)(c:(Cc,listOf cs.toArray nc)∈l)(hi:IntsAre cs ns)(hl:ns.length<=40)(h1:0<=seat)(h2:seat<=b)(h3:0<=rst):Pn l Pp b:=⟨Cc,cs,ns,nc,nn,seat,rst,t1,t2,a,c,hi,hl,h1,h2,h3⟩
theorem Pn.on{l:Led}{Pp:Addr}{b:Int}(h:Pn l Pp b){P:Prop}(z:∀(Cc:Addr) (cs:List Value) (ns:List Int) (nc nn:Nat) (seat rst:Int) (t1 t2:Tok),(Pp,Bb Cc seat t1 rst t2 nn)∈l->(Cc,listOf cs.toArray nc)∈l->IntsAre cs ns->ns.length<=40->0<=seat->seat<=b->0<=rst->P):P:=by
 obtain ⟨Cc,cs,ns,nc,nn,seat,rst,t1,t2,a,c,hi,hl,h1,h2,h3⟩:=h.ex
 exact z Cc cs ns nc nn seat rst t1 t2 a c hi hl h1 h2 h3
theorem Pn.to{l l':Led}{Pp:Addr}{b:Int}(h:Pn l Pp b)(k:∀p∈l,(∀v,p.2.data≠ .cell v)->p∈l'):Pn l' Pp b:=by
 refine h.on λCc cs ns nc nn seat rst t1 t2 a b z3 z4 z5 z6 z7=> ?_
 exact .of (k _ a (λV=>ncS)) (k _ b (λV=>ncS)) z3 z4 z5 z6 z7
structure Gl(l:Led)(G:Addr)(v:List Value)(c:Nat)(g:List Int):Prop where
 m:(G,listOf v.toArray c)∈l
 hi:IntsAre v g
 asc:g.Pairwise (· < ·)
 lim:∀x∈g,0<=x/\x<=65535
 len:g.length<=48
theorem Gl.gr(h:Gl l G v c g)(k:Gr l l'):Gl l' G v c g:=⟨k _ h.m (Bn h.hi),h.hi,h.asc,h.lim,h.len⟩
theorem Gl.to(h:Gl l G v c g)(k:∀p∈l,(∀v,p.2.data≠ .cell v)->p∈l'):Gl l' G v c g:=⟨k _ h.m (λV=>ncS),h.hi,h.asc,h.lim,h.len⟩
section
variable {C:Cd}{n:Nat}{w:World}{S:Si C n w}{d:Drawn}{m:Loc}{l:Led}{κ:Value->Drawn->Led->Prop}{Pp:Addr}{b:Int}
theorem Pn.new{l r:Led}{Pp Cc:Addr}{cs:List Value}{ns:List Int}{nc nn:Nat}{seat rst:Int}{t1 t2:Tok}(hp:Pick l (Pp,Bb Cc seat t1 rst t2 nn) r):Gr l r:=λp hp' h=>(lC (hp.perm.mem_iff.mpr hp')).elim (λe=>absurd (congrArg (·.2) e) (h _ _ _ _ _ _)) id
theorem CX.glyphs(hP:Pn l Pp b)(hb:b<900000)(h:∀D v c g d' l',Gl l' D v c g->Pn l' Pp (b+30)->Gr l l'->κ (.ref D) d' l')(hk:decide (6<=n)=true:=by exact Eq.refl true):CX S d m l (.ref 394) [.ref Pp] κ:=by
 refine hP.on λCc cs ns nc nn seat rst t1 t2 a c hi hl h1 h2 h3=> ?_
 refine ⟨λh9 k9 Q A hq=> ?_⟩
 have hne:=A.ne a c
 obtain ⟨r,hp⟩:=As a
 have k:=Pn.new (cs:=cs) (ns:=ns) (nc:=nc) hp
 refine (CX.telD1 (κ:=κ) (U0 (nc:=nc) (λe=> ?_) hi h1 (Int.lt_of_le_of_lt h2 hb) h3 hl) hp (λp hp'=>lS hp'▸k _ c (Bn hi)) (λv d' mu' new hP=> ?_) hk).run h9 k9 Q A hq
 ·have:=Bg A.N1 _ c _ a e
  exact Bn hi _ _ _ _ _ _ (congrArg (·.2) this)
 ·obtain ⟨D,vs,gs,c',seat',rest',t1',t2',e1,e2,e3,i1,i2,i3,i4,i5,i6,i7⟩:=hP
  subst e1 e2 e3
  exact ⟨rfl,List.pairwise_singleton _ _,h D vs c' gs d' _ ⟨.tail _ (.head _),i1,i2,i3,i4⟩ (.of (.head _) (.tail _ (.tail _ (k _ c (Bn hi)))) hi hl (Int.le_trans h1 i5) (by exact zi3 38864663651802655802918686032165 rfl h2 i6) i7) λp hp' h=> .tail _ (.tail _ (k p hp' h))⟩
end
section
variable {n:Nat}{w:World}{fa:Addr}{cdv:Value}{st:Stmt}{rest:List Stmt}{K:Flow->Shared->Prop}{dr:Drawn}{u:Loc}{l:Led}{d:DefRec}{kwd:List (Str×PySem.Expr)}
theorem Qf(e:defOf vw PySem.Challenge.rw_nu0172_01.row.name=some (d,kwd)){S:Si (P4 d.name d.scope fa cdv) n w}(hst:d.body[0]?=some st){cp sc:Addr}{vs:List Value}{ns:List Int}(hcl:S.cl.lookup (Str.ofString "pen")=some cp)(hn:u (Str.ofString "script")=some (.ref sc))(hL:S.h₀.IsList sc vs.toArray)(hi:IntsAre vs ns)(hl:ns.length<=63)(hp:Ce l cp none)
  (h:∀Pp l',Pn l' Pp 0->Ce l' cp (some (.ref Pp))->(∀p∈l,p.1≠cp->p∈l')->WR S K dr u l' rest []):WR S K dr u l (st::rest) []:=by
 obtain ⟨rfl,rfl⟩:=Prod.mk.inj (sJ e)
 obtain rfl:=sJ (show some _=some st from hst)
 obtain ⟨op,hp,ho⟩:=hp.ex
 refine WR.setCell hcl (X.listXI (X.comp (CR.of Dm (X.upto (Ev.nameV hn) hL hi (by decide) (nTr hl (nLe rfl)) λR ws hws hR=>⟨rfl,Cm.mapI (f:=λa=>a) (.head _) .list hws (λS' a t V hI=>Ev.toInt (hI.nm _ _ _).toI) (nTr (List.length_take_le _ _) (nLe rfl)) λys hy D1 hD1=>⟨.cons Ev.int rfl (.cons Ev.int rfl .nil),nLe rfl,λP2 zs hzs hP=> ?_⟩⟩))))
 rw [List.map_id'] at hy
 refine ⟨op,none,.tail _ (.tail _ (.tail _ hp)),ho,λo' r ho' hr=>h P2 _ ?_ ⟨o',.head _,ho'⟩ λp hp hne=> .tail _ (hr p (.tail _ (.tail _ (.tail _ hp))) λe=>hne (congrArg (·.1) e))⟩
 have ne:∀ {D:Addr} {o2:Obj},(∀v,o2.data≠ .cell v)->(D,o2)≠(cp,op):=λh e=>h none ((congrArg (λq=>q.2.data) e).trans ho)
 obtain ⟨t1,t2,e3⟩:∃t1 t2,zs= [.int 0 t1,.int 0 t2]:=by
  cases hzs with
  | cons _ t1 h=>cases h with
   | cons _ t2 h=>cases h;exact ⟨t1,t2,rfl⟩
 subst e3
 exact .of (seat:=0) (rst:=0) (t1:=t1) (t2:=t2) (.tail _ (hr _ (.head _) (ne (λV=>ncS)))) (.tail _ (hr _ (.tail _ (.head _)) (ne (λV=>ncS)))) hy (List.length_take_le _ _) (by decide) (by decide) (by decide)
theorem Qg(e:defOf vw PySem.Challenge.rw_nu0172_01.row.name=some (d,kwd)){S:Si (P4 d.name d.scope fa cdv) 40 w}(hst:d.body[1]?=some st){cp cs Pp:Addr}(hcl:S.cl.lookup (Str.ofString "pen")=some cp)(hcs:S.cl.lookup (Str.ofString "sets")=some cs)(hP:Pn l Pp 0)(hcp:Ce l cp (some (.ref Pp)))(hs:Ce l cs none)
  (h:∀Sx G1 G2 v1 v2 c1 c2 g1 g2 cS d' l',Pn l' Pp 60->Gl l' G1 v1 c1 g1->Gl l' G2 v2 c2 g2->(Sx,listOf [Value.ref G1,Value.ref G2].toArray cS)∈l'->Ce l' cs (some (.ref Sx))->(∀p∈l,Bq p.2->p.1≠cs->p∈l')->WR S K d' u l' rest []):WR S K dr u l (st::rest) []:=by
 obtain ⟨rfl,rfl⟩:=Prod.mk.inj (sJ e)
 obtain rfl:=sJ (show some _=some st from hst)
 obtain ⟨op,hop,hod⟩:=hcp.ex
 refine WR.setCell hcs (X.list2 (X.f1 Jw (X.evV (Ev.cell hcl hop hod) (CX.glyphs hP (by decide) λG1 v1 c1 g1 d1 l1 hG1 hP1 k1=>X.f1 Jw (X.evV (Ev.cell hcl (k1 _ hop (Br hod)) hod) (CX.glyphs hP1 (by decide) λG2 v2 c2 g2 d2 l2 hG2 hP2 k2 Sx hSx=> ?_))))))
 obtain ⟨os,hos,hosd⟩:=hs.ex
 refine ⟨os,none,.tail _ (k2 _ (k1 _ hos (Br hosd)) (Br hosd)),hosd,λo' r ho' hr=> ?_⟩
 have k3:∀p∈(Sx,listOf [Value.ref G1,Value.ref G2].toArray 0)::l2,(∀v,p.2.data≠ .cell v)->p∈(cs,o')::r:=λp hp hn=> .tail _ (hr p hp λe=>hn none ((congrArg (λq=>q.2.data) e).trans hosd))
 exact h Sx G1 G2 v1 v2 c1 c2 g1 g2 0 d2 _ (hP2.to λp hp hn=>k3 p (.tail _ hp) hn) ((hG1.gr k2).to λp hp hn=>k3 p (.tail _ hp) hn) (hG2.to λp hp hn=>k3 p (.tail _ hp) hn) (k3 _ (.head _) (λV=>ncS)) ⟨o',.head _,ho'⟩ λp hp hn hne=> .tail _ (hr p (.tail _ (k2 _ (k1 _ hp hn) hn)) λe=>hne (congrArg (·.1) e))
end
structure Hd9(l:Led)(H:Addr)(g:List Int):Prop where
 ex:∃(v:List Value) (c:Nat) (hs:List Int),(H,listOf v.toArray c)∈l/\IntsAre v hs/\(∀x,x∈hs ↔ x∈g)/\hs.length<=96
theorem Hd9.gr(h:Hd9 l H g)(k:Gr l l'):Hd9 l' H g:=by
 obtain ⟨v,c,hs,a,b,z⟩:=h.ex
 exact ⟨v,c,hs,k _ a (Bn b),b,z⟩
structure Cv(w:World)(l:Led)(X:Addr)(g:List Int):Prop where
 ex:∃(dx T:Addr) (tk:Tok) (vs:List Value),CovIn w l X dx T tk vs/\IntsAre vs g
theorem Rw:Bq (instObj c dx):=λV V V V V V e=>by have:=congrArg Obj.cls e;cases this
theorem Rv:Bq (dictOf es n):=λV V V V V V e=>by have:=congrArg Obj.data e;cases this
theorem Rx:Bq (Ap vs):=λV V V V V V e=>absurd (congrArg Obj.cls e) (of_decide_eq_false (by with_unfolding_all rfl))
theorem Cv.gr{w:World}{l l':Led}{X:Addr}{g:List Int}(h:Cv w l X g)(k:Gr l l'):Cv w l' X g:=by
 obtain ⟨dx,T,tk,vs,a,b⟩:=h.ex
 exact ⟨dx,T,tk,vs,⟨k _ a.a Rw,k _ a.b Rv,k _ a.c Rx⟩,b⟩
section
variable {C:Cd}{n:Nat}{w:World}{S:Si C n w}{d:Drawn}{m:Loc}{l:Led}{κ:Value->Drawn->Led->Prop}{Pp G H:Addr}{b:Int}{v:List Value}{c:Nat}{g:List Int}
theorem CX.mixed(hP:Pn l Pp b)(hb:b<900000)(hG:Gl l G v c g)(h:∀H l',Hd9 l' H g->Pn l' Pp (b+100)->Gr l l'->κ (.ref H) d l')(hk:decide (6<=n)=true:=by exact Eq.refl true):CX S d m l (.ref 401) [.ref Pp,.ref G] κ:=by
 refine hP.on λCc cs ns nc nn seat rst t1 t2 a c9 hi hl h1 h2 h3=> ?_
 refine ⟨λh9 k9 Q A hq=> ?_⟩
 obtain ⟨r,hp⟩:=As a
 have k:=Pn.new (cs:=cs) (ns:=ns) (nc:=nc) hp
 have np:∀ {p:Addr×Obj},p∈l->Bq p.2->p.1≠Pp:=λhp hn e=>hn _ _ _ _ _ _ (congrArg (·.2) (Bg A.N1 _ hp _ a e))
 refine (CX.tel1 (κ:=κ) (Vp (nc:=nc) (cg:=c) (np c9 (Bn hi)) (np hG.m (Bn hG.hi)) hi hG.hi hG.len h1 (Int.lt_of_le_of_lt h2 hb) h3 hl) hp (SubL.cons (k _ c9 (Bn hi)) (SubL.cons (k _ hG.m (Bn hG.hi)) (List.forall_mem_nil _))) (λv mu' new hP V=> ?_) hk).run h9 k9 Q A hq
 obtain ⟨D,vs,hs,c',seat',rest',t1',t2',e1,e2,e3,i1,i2,i3,i4,i5,i6⟩:=hP
 subst e1 e2 e3
 exact ⟨rfl,List.pairwise_singleton _ _,h D _ ⟨vs,c',hs,.tail _ (.head _),i1,i2,i3⟩ (.of (.head _) (.tail _ (.tail _ (k _ c9 (Bn hi)))) hi hl (Int.le_trans h1 i4) (by exact zi3 127600205667778713907763072336165 rfl h2 i5) i6) λp hp' h=> .tail _ (.tail _ (k p hp' h))⟩
theorem CX.covOf(hH:Hd9 l H g)(hs:g.Pairwise (· < ·))(h:∀X l',Cv w l' X g->(∀p∈l,p∈l')->κ (.ref X) d l')(hk:decide (6<=n)=true:=by exact Eq.refl true):CX S d m l (.ref 312) [.ref H] κ:=by
 obtain ⟨v,c,hs9,a,hi,hm,hl⟩:=hH.ex
 exact CX.cov a hi (nTr hl (by decide)) (λX dx T tk vs hs1 l' i1 i2 i3 V V V V s1 cv V=>h X l' ⟨dx,T,tk,vs,cv,Gz hs i2 (λx=>(hm x).symm.trans (i3 x).symm)▸i1⟩ s1) hk
end
noncomputable def Two(R:Value->List Int->Prop)(ys:List Value)(i:Nat)(g1 g2:List Int):Prop:=ys.length=i/\∀(j:Nat) y g,ys[j]?=some y-> [g1,g2][j]?=some g->R y g
theorem Two.nil:Two R [] 0 g1 g2:=⟨rfl,λj y g h=>nn h⟩
theorem Two.snoc(h:Two R ys i g1 g2)(hr:∀y g,R y g->R' y g)(hg: [g1,g2][i]?=some g)(hy:R' y g):Two R' (ys++ [y]) (i+1) g1 g2:=by
 refine ⟨by rw [List.length_append,h.1];rfl,λj z k hj hk=> ?_⟩
 rcases Nat.lt_or_ge j ys.length with hl | hl
 ·exact hr _ _ (h.2 j z k ((List.getElem?_append_left hl).symm.trans hj) hk)
 ·rw [List.getElem?_append_right hl] at hj
  have hz:j- ys.length=0:=Nat.lt_one_iff.mp (List.getElem?_eq_some_iff.mp hj).1
  rw [hz] at hj
  have e:j=i:=(Ac (Nat.le_of_sub_eq_zero hz) hl).trans h.1
  subst e
  cases hj
  cases hg.symm.trans hk
  exact hy
noncomputable def Ry:PySem.Data->Bool
 | .cell _=>false
 | _=>true
theorem ncs(k:Ry d=true:=by exact Eq.refl true):d≠ .cell v:=λe=>by rw [e] at k;exact nbF k
theorem Kl(h:l.length=2):∃x y,l= [x,y]:=by
 rcases l with _ | ⟨x,_ | ⟨y,_ | ⟨z,l⟩⟩⟩
 ·exact Nat.noConfusion h
 ·exact Nat.noConfusion (Nat.succ.inj h)
 ·exact ⟨x,y,rfl⟩
 ·exact Nat.noConfusion (Nat.succ.inj (Nat.succ.inj h))
theorem Two.done(h:Two R ys 2 g1 g2):∃x y,ys= [x,y]/\R x g1/\R y g2:=by
 obtain ⟨x,y,e⟩:=Kl h.1
 subst e
 exact ⟨x,y,rfl,h.2 0 x g1 rfl rfl,h.2 1 y g2 rfl rfl⟩
section
variable {n:Nat}{w:World}{fa:Addr}{cdv:Value}{st:Stmt}{rest:List Stmt}{K:Flow->Shared->Prop}{dr:Drawn}{u:Loc}{l:Led}{d:DefRec}{kwd:List (Str×PySem.Expr)}
theorem Qj(e:defOf vw PySem.Challenge.rw_nu0172_01.row.name=some (d,kwd)){S:Si (P4 d.name d.scope fa cdv) 40 w}(hst:d.body[2]?=some st){cp cs Pp Sx G1 G2:Addr}{v1 v2:List Value}{c1 c2 cS:Nat}{g1 g2:List Int}(hcl:S.cl.lookup (Str.ofString "pen")=some cp)(hcs:S.cl.lookup (Str.ofString "sets")=some cs)(hP:Pn l Pp 60)(hcp:Ce l cp (some (.ref Pp)))(hs:Ce l cs (some (.ref Sx)))(hS:(Sx,listOf [Value.ref G1,Value.ref G2].toArray cS)∈l)(h1:Gl l G1 v1 c1 g1)(h2:Gl l G2 v2 c2 g2)
  (h:∀HH H1 H2 cH l',Pn l' Pp 260->Hd9 l' H1 g1->Hd9 l' H2 g2->(HH,listOf [Value.ref H1,Value.ref H2].toArray cH)∈l'->Gr l l'->WR S K dr (mN "handed" (.ref HH) u) l' rest []):WR S K dr u l (st::rest) []:=by
 obtain ⟨rfl,rfl⟩:=Prod.mk.inj (sJ e)
 obtain rfl:=sJ (show some _=some st from hst)
 obtain ⟨op,hop,hod⟩:=hcp.ex
 obtain ⟨os,hos,hosd⟩:=hs.ex
 refine WR.comp (CR.of (Cu hcl) (Mine.X.evV (Ev.cell hcs hos hosd) ⟨rfl,⟨_,_,_,λi ys l'=>Gr l l'/\Pn l' Pp (60+100* (i:Int))/\Two (λy g=>∃H,y= .ref H/\Hd9 l' H g) ys i g1 g2,Wv.seq hS .list,⟨λi ys l' z=>lL _ (z.1 _ hS Ep),λS' i v ys l' hv hI z=> ?turn⟩,⟨λp hp V=>hp,by simpa using hP,.nil⟩,nLe rfl,λys l' z D2 hD2=> ?done⟩⟩))
 case turn=>
  obtain ⟨k1,hP1,hT⟩:=z
  obtain ⟨G,vG,cG,g,e,hg,hG⟩:∃G vG cG g,v= .ref G/\ [g1,g2][i]?=some g/\Gl l G vG cG g:=by
   match i,hv with
   | 0,hv=>exact ⟨G1,v1,c1,g1,(sJ hv).symm,rfl,h1⟩
   | 1,hv=>exact ⟨G2,v2,c2,g2,(sJ hv).symm,rfl,h2⟩
   | _+2,hv=>exact nn hv
  subst e
  have hi2:i<2:=(List.getElem?_eq_some_iff.mp hv).1
  exact Mine.X.f2 O3 (Mine.X.evV (Ev.cell (hI.cl▸B9 hcl rfl) (k1 _ hop (Br hod)) hod) (Mine.X.evV (hI.nm _ _ _) (CX.mixed hP1 (by omega) (hG.gr k1) λH l2 hH hP2 k2=>⟨rfl,λp hp hn=>k2 p (k1 p hp hn) hn,(by rw [show 60+100* ((i+1:Nat):Int)=60+100* (i:Int)+100 by omega];exact hP2),hT.snoc (λy g ⟨H,a,b⟩=>⟨H,a,b.gr k2⟩) hg ⟨H,rfl,hH⟩⟩)))
 case done=>
  obtain ⟨k1,hP1,hT⟩:=z
  obtain ⟨x,y,e,⟨H1,ex,a1⟩,H2,ey,a2⟩:=hT.done
  subst e ex ey
  have kk:∀ {p},p∈l'->p∈(D2,PyProof.Rows.LCg.lst [Value.ref H1,Value.ref H2])::l':=λhp=> .tail _ hp
  exact h D2 H1 H2 2 _ (hP1.to λp hp V=>kk hp) (a1.gr λp hp V=>kk hp) (a2.gr λp hp V=>kk hp) (.head _) λp hp hn=>kk (k1 p hp hn)
theorem Qk(e:defOf vw PySem.Challenge.rw_nu0172_01.row.name=some (d,kwd)){S:Si (P4 d.name d.scope fa cdv) 40 w}(hst:d.body[3]?=some st){HH H1 H2:Addr}{cH:Nat}{g1 g2:List Int}(hn:u (Str.ofString "handed")=some (.ref HH))(hS:(HH,listOf [Value.ref H1,Value.ref H2].toArray cH)∈l)(h1:Hd9 l H1 g1)(h2:Hd9 l H2 g2)(s1:g1.Pairwise (· < ·))(s2:g2.Pairwise (· < ·))
  (h:∀CC X1 X2 cC l',Cv w l' X1 g1->Cv w l' X2 g2->(CC,listOf [Value.ref X1,Value.ref X2].toArray cC)∈l'->(∀p∈l,p∈l')->WR S K dr (mN "coverages" (.ref CC) u) l' rest []):WR S K dr u l (st::rest) []:=by
 obtain ⟨rfl,rfl⟩:=Prod.mk.inj (sJ e)
 obtain rfl:=sJ (show some _=some st from hst)
 refine WR.comp (CR.of Dm (Mine.X.evV (Ev.nameV hn) ⟨rfl,⟨_,_,_,λi ys l'=>(∀p∈l,p∈l')/\Two (λy g=>∃X,y= .ref X/\Cv w l' X g) ys i g1 g2,Wv.seq hS .list,⟨λi ys l' z=>lL _ (z.1 _ hS),λS' i v ys l' hv hI z=> ?turn⟩,⟨λp hp=>hp,.nil⟩,nLe rfl,λys l' z D2 hD2=> ?done⟩⟩))
 case turn=>
  obtain ⟨k1,hT⟩:=z
  obtain ⟨H,g,e,hg,hH,hsg⟩:∃H g,v= .ref H/\ [g1,g2][i]?=some g/\Hd9 l H g/\g.Pairwise (· < ·):=by
   match i,hv with
   | 0,hv=>exact ⟨H1,g1,(sJ hv).symm,rfl,h1,s1⟩
   | 1,hv=>exact ⟨H2,g2,(sJ hv).symm,rfl,h2,s2⟩
   | _+2,hv=>exact nn hv
  subst e
  exact Mine.X.f1 Hf (Mine.X.evV (hI.nm _ _ _) (CX.covOf (hH.gr λp hp V=>k1 p hp) hsg λX l2 hX k2=>⟨rfl,λp hp=>k2 p (k1 p hp),hT.snoc (λy g ⟨X,a,b⟩=>⟨X,a,b.gr λp hp V=>k2 p hp⟩) hg ⟨X,rfl,hX⟩⟩))
 case done=>
  obtain ⟨k1,hT⟩:=z
  obtain ⟨x,y,e,⟨X1,ex,a1⟩,X2,ey,a2⟩:=hT.done
  subst e ex ey
  exact h D2 X1 X2 2 _ (a1.gr λp hp V=> .tail _ hp) (a2.gr λp hp V=> .tail _ hp) (.head _) λp hp=> .tail _ (k1 p hp)
end
end
section
open PyProof.Rows.LCg PyProof.Rows.LCt
section
variable {prog:Program}{w:World}{A:Around}{s:Shared}{env:Env}{elts:List PySem.Expr}{kt:Nat}{tp:Pos}{body:List Stmt}{I:Addr}{fp wr:List Addr}{n:Nat}{Pt:Nat->Array Value->Prop}{St:Nat->Heap->Prop}{Mid:Nat->Addr->Heap->Prop}{R:Result->Shared->Prop}
theorem Oi(W:WalksT prog w A I fp wr n Pt St Mid)(K:Nat->Shared->Prop)(hK:∀i s,K i s->St i s.heap)
  (turn:∀i T vals s h tk,i<n->K i s->Pt i vals->h.IsTuple T vals->s.heap.objs.size<=T->T∉wr->St (i+1) h->(∀b o,b∉wr->s.heap.get? b=some o->h.get? b=some o)->
   wpAny (model prog w) A (assign (.Tuple elts kt tp) env (.ref T)) (λV s2=>wpR (model prog w) A (execs body env) (Dk K (λf s'=>R (.ok f) s') i) (λV V=>False) s2) (λV V=>False) {s with heap:=h,toks:=tk})
  (done:∀s h tk,K n s->(∀b o,b∉wr->s.heap.get? b=some o->h.get? b=some o)->R (.ok .next) {s with heap:=h,toks:=tk}):
  ∀k i s,i+k=n->K i s->Ax (model prog w) A (.forLoop (.Tuple elts kt tp) (.ref I) body [] env) R s:=by
 intro k
 induction k with
 | zero=>
  intro i s e hk
  have e':i=n:=Ac (zn2 46201267323168 rfl e) (zn2 11051187863840 rfl e)
  subst e'
  refine Bw ?_
  rw [Gi]
  show wpR _ _ ((forTurn (.Tuple elts kt tp) (.ref I) body [] env).onRaise (λx=>do noteFrame x env;theTreesLotGoes x)) _ _ s
  refine Cq (Ao (E:=λV V=>False) ?_ (λV V z=>z) λV V z=>z.elim)
  unfold forTurn
  refine Bd (Ah (wpAny_onRaise (W.done _ _ _ (hK _ _ hk) λh tk hkeep=>An ⟨rfl,rfl,Bw ?_⟩)))
  have hb:A.under (.block [] env)=A:=Around.under_of_weight rfl rfl
  rw [hb]
  show wpR _ _ (do return Fin.done (<- (execs [] env).onRaise (λx=>do noteFrame x env;theTreesLotGoes x))) _ _ _
  exact Am (Cq (Cy (An (done s h tk hk hkeep))))
 | succ k ih=>
  intro i s e hk
  refine Bw ?_
  rw [Gi]
  show wpR _ _ ((forTurn (.Tuple elts kt tp) (.ref I) body [] env).onRaise (λx=>do noteFrame x env;theTreesLotGoes x)) _ _ s
  refine Cq (Ao (E:=λV V=>False) ?_ (λV V z=>z) λV V z=>z.elim)
  unfold forTurn
  refine Bd (Ah (wpAny_onRaise (W.item i _ _ _ (by exact zn3 48506076749922593 rfl e) (hK _ _ hk) λT vals h tk hP hz hT hm hkeep=> ?_)))
  refine Ah (W.go _ _ _ i T _ _ _ hm λh' hst hk2=> ?_)
  have hTw:=W.apart _ _ _ hm
  have t:=turn i T vals s h' tk (by exact zn3 48506076749922593 rfl e) hk hP (hT.at λo e=>hk2 T o hTw e) hz hTw hst λb o hb e=>hk2 b o hb (hkeep b o hb e)
  refine Ah (wpAny_mono t (λV s2 z=>Am (Ao z (λf s3 y=> ?_) λV V y=>y)) λV V y=>y)
  cases f with
  | next=>exact An ⟨rfl,rfl,ih (i+1) s3 (by exact Ac (zn3 88604346308972075700512 rfl e) (zn3 13083412029643868995872 rfl e)) y⟩
  | cont=>exact An ⟨rfl,rfl,ih (i+1) s3 (by exact Ac (zn3 88604346308972075700512 rfl e) (zn3 13083412029643868995872 rfl e)) y⟩
  | brk=>exact An y
  | ret v=>exact An y
end
section
variable (prog:Program)(w:World)(A:Around)(env:Env)(elts:List PySem.Expr)(kt:Nat)(tp:Pos)(body:List Stmt)(Q:Flow->Shared->Prop)
noncomputable def Il(it:Value)(s:Shared):Prop:=
 ∃(I:Addr) (fp wr:List Addr) (n:Nat) (Pt:Nat->Array Value->Prop) (St:Nat->Heap->Prop) (Mid:Nat->Addr->Heap->Prop) (K:Nat->Shared->Prop),it= .ref I/\WalksT prog w A I fp wr n Pt St Mid/\(∀i s,K i s->St i s.heap)/\K 0 s/\
  (∀i T vals s h tk,i<n->K i s->Pt i vals->h.IsTuple T vals->s.heap.objs.size<=T->T∉wr->St (i+1) h->(∀b o,b∉wr->s.heap.get? b=some o->h.get? b=some o)->
   wpAny (model prog w) A (assign (.Tuple elts kt tp) env (.ref T)) (λV s2=>wpR (model prog w) A (execs body env) (Dk K Q i) (λV V=>False) s2) (λV V=>False) {s with heap:=h,toks:=tk})/\
  (∀s h tk,K n s->(∀b o,b∉wr->s.heap.get? b=some o->h.get? b=some o)->Q .next {s with heap:=h,toks:=tk})
end
section
variable {prog:Program}{w:World}{A:Around}{s:Shared}{env:Env}{elts:List PySem.Expr}{kt:Nat}{tp:Pos}{body:List Stmt}{Q:Flow->Shared->Prop}{E:Value->Shared->Prop}
theorem Sr(h:wpAny (model prog w) A (eval iter env) (λxv s₁=>wpAny (model prog w) A (pyIter xv) (Il prog w A env elts kt tp body Q) E s₁) E s)
  (hs:∀x,foldedSetIterable iter env x=pure x:=by intro _;with_unfolding_all rfl):wpR (model prog w) A (exec (.For (.Tuple elts kt tp) iter body [] pos) env) Q E s:=by
 rw [exec_For]
 refine Bd (Ah (wpAny_mono h (λx s₁ h₁=>Ah (wpAny_of_eq (hs x) (Bd (Ah (wpAny_holding (wpAny_mono h₁ (λit s₂ h₂=> ?_) λV V z=>z)))))) λV V z=>z))
 obtain ⟨I,fp,wr,n,Pt,St,Mid,K,rfl,W,hK,h0,turn,done⟩:=h₂
 unfold runOwn
 refine Cq (Ao (E:=λV V=>False) ?_ (λV V z=>z) λV V z=>z.elim)
 refine Mk rfl ?_
 rw [mark_none]
 exact Oi (R:=λr s'=>match r with | .ok f=>Q f s' | .error _=>False) W K hK turn done n 0 s₂ (Nat.zero_add n) h0
end
end
section
theorem all_cons{α:Type}{P:α->Prop}{q:α}{l:List α}(h:P q)(r:∀b,b∈l->P b):∀b,b∈q::l->P b:=λb hb=>(lC hb).elim (λe=>e▸h) (r b)
section
variable {cn:Str}{cs:Scope}{fa:Addr}{cc:Value}{n:Nat}{w:World}{x y:Str}{px py pos p2 p3 p4:Pos}{e e1 e2:PySem.Expr}{body rest:List Stmt}{rs:List (List Stmt)}{S:Si (P4 cn cs fa cc) n w}{K:Flow->Shared->Prop}{d:Drawn}{m:Loc}{l:Led}{xs ys:List Value}{l1 l2:Addr}{c1 c2 kd cnt:Nat}
structure ZK(S:Si (P4 cn cs fa cc) n w)(St:Nat->Heap->Prop)(l:Led)(J:Nat->Loc->Prop)(i:Nat)(s:Shared):Prop where
 ex:∃h k d m,s=⟨h,S.g,d,k,S.o⟩/\St i h/\At S h m l/\J i m
theorem At.keepOff{h h':Heap}{wr:List Addr}(A:At S h m l)(hk:∀b o,b∉wr->h.get? b=some o->h'.get? b=some o)(hL:∀b∈wr,S.L≠b/\S.h₀.get? b=none)(off:∀b∈wr,∀q∈l++S.own,q.1≠b):At S h' m l:=
 ⟨⟨A.F.ns.at' λo e=>hk _ o (λhm=>(hL _ hm).1 rfl) e,λb o e=>hk b o (λhm=>by rw [(hL b hm).2] at e;cases e) (A.F.keep b o e),A.F.above⟩,λp hp=>⟨hk _ _ (λhm=>off _ hm p hp rfl) (A.N p hp).1,(A.N p hp).2⟩,A.D,A.O⟩
theorem LpT{elts:List PySem.Expr}{kt:Nat}{tp:Pos}{I:Addr}{fp wr:List Addr}{cnt:Nat}{Pt:Nat->Array Value->Prop}{St:Nat->Heap->Prop}{Mid:Nat->Addr->Heap->Prop}{h:Heap}{k:Nat}(W:WalksT PySem.Challenge.rw_nu0172_01.row.prog w S.A I fp wr cnt Pt St Mid)(obj:∀i h,St i h->∀b∈fp,∃o,h.get? b=some o)
  (hfp:∀b∈fp,S.L≠b/\S.h₀.get? b=none)(hwr:∀b∈wr,∀q∈l++S.own,q.1≠b)(A:At S h m l)(hst:St 0 h)(J:Nat->Loc->Prop)(h0:J 0 m)
  (turn:∀(o9:Led) (K':Flow->Shared->Prop) (i:Nat) (T:Addr) (vals:Array Value) (u:Loc),i<cnt->Pt i vals->J i u->(∀l v d,Rt S K d l v->Rt (S.noE o9) K' d l v)->(∀u' l' d,J (i+1) u'->(∀p∈l,p∈l')->WR (S.noE o9) K' d u' l' [] [])->∀h d k,h.IsTuple T vals->At (S.noE o9) h u l->
   wpAny (mdl w) S.A (assign (.Tuple elts kt tp) S.env (.ref T)) (λV s2=>wpR (mdl w) S.A (execs body S.env) (KontR (S.noE o9) K' []) (λV V=>False) s2) (λV V=>False) ⟨h,S.g,d,k,S.o⟩)
  (done:∀u d,J cnt u->WR S K d u l rest rs):Il PySem.Challenge.rw_nu0172_01.row.prog w S.A S.env elts kt tp body (KontR S K (rest::rs)) (.ref I) ⟨h,S.g,d,k,S.o⟩:=by
 have hwL:∀b∈wr,S.L≠b/\S.h₀.get? b=none:=λb hb=>hfp b (W.sub b hb)
 refine ⟨I,fp,wr,cnt,Pt,St,Mid,ZK S St l J,rfl,W,λi s z=> ?_,⟨h,k,d,m,rfl,hst,A,h0⟩,λi T vals s h' tk hi z hP hT V V hst' hkeep=> ?_,λs h' tk z hkeep=> ?_⟩
 ·obtain ⟨h,k,d,m,e,hs,_⟩:=z.ex
  rw [e];exact hs
 ·obtain ⟨h,k,d,m,e,_,A1,hJ⟩:=z.ex
  subst e
  have A2:=A1.keepOff hkeep hwL hwr
  have N5:News S.h₀ S.L h' ((fp.filterMap λb=>(h'.get? b).map λo=>(b,o))++(l++S.own)):=λp hp=>by
   rcases lA hp with hp | hp
   ·obtain ⟨b,hb,e⟩:=List.mem_filterMap.mp hp
    obtain ⟨o,e2,e3⟩:=Option.map_eq_some_iff.mp e
    subst e3
    exact ⟨e2,(hfp b hb).1.symm,(hfp b hb).2⟩
   ·exact A2.N p hp
  obtain ⟨o9,a1,a2,a3⟩:=Lw N5 (ro:=l) λp hp=>lR _ (lL _ hp)
  refine turn o9 (Dk (ZK S St l J) (KontR S K (rest::rs)) i) i T vals m hi hP hJ (λl v d r=>⟨λh3 k3 m3 A3=>KontR.out (S:=S) (K:=K) (rs:=rest::rs) (λh=>nomatch h) (r.run h3 k3 m3 A3.out)⟩) (λu' l' d2 hJ2 hs=>⟨λh3 k3 A4=>Cy ?_⟩) h' d tk hT ⟨A2.F,λp hp=> ?_,A2.D,λp hp q hq=>(lA hp).elim (λh=>A2.O p h q hq) λh=>a2 p h q hq⟩
  ·refine (⟨h3,k3,d2,u',rfl,W.frame _ _ _ hst' λb hb o e=> ?_,A4.out.less hs A2.D,hJ2⟩:ZK S St l J (i+1) ⟨h3,S.g,d2,k3,S.o⟩)
   refine (A4.N (b,o) ?_).1
   exact (lA (a3 (b,o) (lL _ (List.mem_filterMap.mpr ⟨b,hb,by rw [e];rfl⟩)))).elim (λh=>lL _ (hs _ h)) λh=>lR _ (lR _ h)
  ·rcases lA hp with h | h
   ·exact A2.N p (lL _ h)
   ·exact (lA h).elim (λh=>A2.N p (lR _ h)) λh=>N5 p (a1 p h)
 ·obtain ⟨h,k,d,m,e,_,A1,hJ⟩:=z.ex
  subst e
  exact (done m d hJ).run h' tk (A1.keepOff hkeep hwL hwr)
theorem WR.forZip(he1:Ev S m l e1 (· = .ref l1))(he2:Ev S m l e2 (· = .ref l2))(m1:(l1,listOf xs.toArray c1)∈l)(m2:(l2,listOf ys.toArray c2)∈l)(n1:xs.length=cnt)(n2:ys.length=cnt)(J:Nat->Loc->Prop)(h0:J 0 m)
  (turn:∀(o9:Led) (K':Flow->Shared->Prop) (i:Nat) (v1 v2:Value) (u:Loc),xs[i]?=some v1->ys[i]?=some v2->J i u->(∀l v d,Rt S K d l v->Rt (S.noE o9) K' d l v)->(∀u' l' d,J (i+1) u'->(∀p∈l,p∈l')->WR (S.noE o9) K' d u' l' [] [])->∀d,WR (S.noE o9) K' d (mN y v2 (mN x v1 u)) l body [])
  (done:∀u d,J cnt u->WR S K d u l rest rs)(hx:locOk (P4 cn cs fa cc) x=true:=by exact Eq.refl true)(hy:locOk (P4 cn cs fa cc) y=true:=by exact Eq.refl true)(ok:okB (P4 cn cs fa cc) (Str.ofString "zip") [e1,e2]=true:=by exact Eq.refl true):WR S K d m l (.For (.Tuple [.Name x px,.Name y py] kd p2) (.Call (.Name (Str.ofString "zip") p3) [e1,e2] [] p4) body [] pos::rest) rs:=
 ⟨λh9 k9 A9=>Az (Sr (Call_ ((Ev.bi G6 (Bs ok)).run h9 d k9 _ A9 λv h2' k2 hv A2=>by
  subst hv
  refine PyProof.Rows.callWith_type1 (args_cons (he1.run h2' d k2 _ A2 λva h3 k3 e3 A3=>args_cons (he2.run h3 d k3 _ A3 λvb h4 k4 e4 A4=>args_nil ?_) (Ad (all1 (all2 (Aj ok))))) (Ad (all1 (Aj ok)))) (Ad (all1 (Aj ok))) (Bz (all2 (Aj ok)))
  subst e3 e4
  obtain ⟨_,q1⟩:=As m1
  obtain ⟨_,q2⟩:=As m2
  refine Ij A4.F A4.N (q1.app S.own) (q2.app S.own) λz h5 F5 N5 Z=> ?_
  obtain ⟨TI,TO,i1,i2,D,d1,d2,hst,hz,hb,hT⟩:=Z
  refine wpAny_pyIter_zip hz ?_
  have A5:At S h5 m l:=⟨F5,N5,A4.D,A4.O⟩
  have new:∀c,S.L<c->S.L≠c/\S.h₀.get? c=none:=λc hc=>⟨Nat.ne_of_lt hc,Heap.get?_none_of_le (Nat.le_of_lt (Nat.lt_of_le_of_lt F5.above hc))⟩
  have inl:∀p∈l,S.L≠p.1/\S.h₀.get? p.1=none:=λp hp=>⟨(A5.N1 p hp).2.1.symm,(A5.N1 p hp).2.2⟩
  refine LpT (WalksT.zip2 S.hh z TI TO i1 i2 l1 l2 D xs.toArray ys.toArray) (λi h st b hb=> ?obj) (λb hb9=> ?fp) (λb hm q hq=>Nat.ne_of_lt ((hb b hm).2 q hq)) A5 ?st J h0 (λo9 K' i T vals u hi hP hJ hr hn h6 d6 k6 hT6 A6=> ?turn) λu d hJ=>done u d ?dn
  case obj=>
   obtain ⟨s1,s2,⟨_,_,s3⟩,⟨_,s4,_⟩,⟨_,s5,_⟩,⟨_,s6,_⟩,⟨_,s7,_⟩⟩:=st
   revert b
   exact all_cons ⟨_,s1⟩ (all_cons ⟨_,s2⟩ (all_cons ⟨_,s3⟩ (all_cons ⟨_,s4⟩ (all_cons ⟨_,s5⟩ (all_cons ⟨_,s6⟩ (all_cons ⟨_,s7⟩ λV=>no))))))
  case fp=>
   revert b
   exact all_cons (new _ (hb _ (.head _)).1) (all_cons (new _ hT) (all_cons (new _ (hb _ (.tail _ (.head _))).1) (all_cons (new _ (hb _ (.tail _ (.tail _ (.head _)))).1) (all_cons (new _ (hb _ (.tail _ (.tail _ (.tail _ (.head _))))).1) (all_cons (inl _ m1) (all_cons (inl _ m2) λV=>no))))))
  case st=>exact ⟨hz,hst.1,hst.2.1,hst.2.2.1,hst.2.2.2.1,hst.2.2.2.2.1,hst.2.2.2.2.2.1⟩
  case turn=>
   obtain ⟨v1,v2,hv1,hv2,e⟩:=hP
   subst e
   have ht:=turn o9 K' i v1 v2 u ((List.getElem?_toArray (xs:=xs)).symm.trans hv1) ((List.getElem?_toArray (xs:=ys)).symm.trans hv2) hJ hr hn d6
   exact unpackN_ (items:= #[v1,v2]) A6.F A6.N hT6 S.hh rfl rfl λh2 F2 N2=>assignInOrder_cons (PyProof.Rows.assign_Name (Si.store (S:=S.noE o9) ⟨F2,N2,A6.D,A6.O⟩ hx λh3 k3 A3=>assignInOrder_cons (PyProof.Rows.assign_Name (Si.store (S:=S.noE o9) A3 hy λh4 k4 A4=>wpAny_pure (ht.run h4 k4 A4)))))
  case dn=>rwa [List.size_toArray,List.size_toArray,n1,n2,Nat.min_self] at hJ) Bm) λV=>J0)⟩
end
theorem IndexIs.unique(hs:gs.Pairwise (· < ·))(h:IndexIs gs g r)(k:IndexIs gs g t):r=t:=by
 rcases h with ⟨i,rfl,hi⟩ | ⟨rfl,hi⟩
 ·rcases k with ⟨j,rfl,hj⟩ | ⟨_,hj⟩
  ·rcases Nat.lt_trichotomy i j with q | rfl | q
   ·exact absurd (D0 hs hi hj q) (Int.lt_irrefl _)
   ·rfl
   ·exact absurd (D0 hs hj hi q) (Int.lt_irrefl _)
  ·exact absurd (List.mem_of_getElem? hi) hj
 ·rcases k with ⟨j,rfl,hj⟩ | ⟨rfl,_⟩
  ·exact absurd (List.mem_of_getElem? hj) hi
  ·rfl
theorem IndexIs.nonneg(h:IndexIs gs g r):decide (g∈gs)=decide (0<=r):=by
 rcases h with ⟨i,rfl,hi⟩ | ⟨rfl,hi⟩
 ·rw [decide_eq_true (List.mem_of_getElem? hi),decide_eq_true (Int.natCast_nonneg i)]
 ·rw [decide_eq_false hi,decide_eq_false (by decide)]
theorem CovIn.sub{w:World}{l l':Led}{X dx T:Addr}{tk:Tok}{vs:List Value}(h:CovIn w l X dx T tk vs)(k:∀p∈l,p∈l'):CovIn w l' X dx T tk vs:=⟨k _ h.a,k _ h.b,k _ h.c⟩
theorem Pd:Fn (Str.ofString "_law_written") (.ref 418):=⟨λw=>by k_is,λw=>by k_is⟩
theorem O7:Fn (Str.ofString "_law_rows") (.ref 423):=⟨λw=>by k_is,λw=>by k_is⟩
section
variable {C:Cd}{n:Nat}{w:World}{x:Str}{px pos p2:Pos}{e e1 e2:PySem.Expr}{S:Si C n w}{d:Drawn}{m:Loc}{l:Led}{κb:Bool->Drawn->Led->Prop}{κ:Value->Drawn->Led->Prop}{a b:Int}{t u:Tok}{c:Bool}{kd:Nat}
theorem BR.not(h:XR S d m l e λv d' l'=>v= .bool true/\κb false d' l')(ok:Fv e=true:=by exact Eq.refl true):BR S d m l (.UnaryOp .Not e pos) κb:=
 ⟨λh9 k Q A hq=>Su (Sw (h.run h9 k _ A λv d' l' h1 k1 z A1=>by
  obtain ⟨e,z⟩:=z
  subst e
  exact wpAny_truthy_bool (hq _ _ _ _ _ z A1)) (Hp ok))⟩
theorem CM.int(h:a=b):CM S d m l .NotEq (.int a t) (.int b u) false:=
 ⟨λh9 k Q A hq=>PyProof.Rows.ne_int (by rw [h,bne_self_eq_false];exact hq _ _ A)⟩
theorem CM.bool:CM S d m l .NotEq (.bool c) (.bool c) false:=
 ⟨λh9 k Q A hq=>PyProof.Rows.ne_bool (by rw [bne_self_eq_false];exact hq _ _ A)⟩
theorem X.cIndex(hx:Ev S m l (.Name x px) (· = .ref X0))(hc:CovIn w l X0 dx T tk vs)(hi:IntsAre vs gs)(hs:gs.Pairwise (· < ·))(hl:gs.length<=120)(h1:Ev S m l e1 (isI g))(h:∀r t l',(∀p∈l,p∈l')->IndexIs gs g r->κ (.int r t) d l')(ok:Au e1=true:=by exact Eq.refl true)(hp:(p2.endLine==pos.line)=true:=by exact Eq.refl true)(hk:decide (6<=n)=true:=by exact Eq.refl true):X S d m l (.Call (.Attribute (.Name x px) (Str.ofString "index") p2) [e1] [] pos) κ:=
 Mine.X.meth1 mth_index hx hc.a hc.b rfl (Mine.X.evI h1 λt=>CX.index hc hi hs hl h hk) ok hp
theorem Ev.has(hx:Ev S m l (.Name x px) (· = .ref X0))(hc:CovIn w l X0 dx T tk vs)(hi:IntsAre vs gs)(hs:gs.Pairwise (· < ·))(hl:gs.length<=120)(h1:Ev S m l e1 (isI g))(ok:Au e1=true:=by exact Eq.refl true)(hp:(p2.endLine==pos.line)=true:=by exact Eq.refl true)(hk:decide (8<=n)=true:=by exact Eq.refl true):Ev S m l (.Call (.Attribute (.Name x px) (Str.ofString "has") p2) [e1] [] pos) (· = .bool (decide (g∈gs))):=
 Ev.ofX λd=>Mine.X.meth1 Kx hx hc.a hc.b rfl (Mine.X.evI h1 λt=>CX.pure (Ma hi hs hl) hc.all (λv mu' new ⟨r,e,_,_,hr⟩=>e.trans (congrArg Value.bool hr.nonneg.symm)) hk) ok hp
theorem Ev.ge(h1:Ev S m l e1 (isI a))(h2:Ev S m l e2 (isI b))(hm:Af e2=true:=by exact Eq.refl true):Ev S m l (.Compare e1 [.GtE] [e2] pos) (· = .bool (decide (b<=a))):=
 ⟨λh9 d k Q A hq=>wpAny_Compare1 (h1.run h9 d k _ A λv1 h1 k1 ⟨t,ev⟩ A1=>h2.run h1 d k1 _ A1 λv2 h2 k2 ⟨t2,ev2⟩ A2=>by
  subst ev ev2
  exact ge_int (hq _ _ _ rfl A2)) (C6 hm)⟩
end
section
variable {w:World}{fa:Addr}{cdv:Value}{st:Stmt}{rest:List Stmt}{K:Flow->Shared->Prop}{dr:Drawn}{u:Loc}{l:Led}{d:DefRec}{kwd:List (Str×PySem.Expr)}
theorem Qm(e:defOf vw PySem.Challenge.rw_nu0172_01.row.name=some (d,kwd)){S:Si (P4 d.name d.scope fa cdv) 40 w}{target iter:PySem.Expr}{body orelse:List Stmt}{pos:Pos}(hst:d.body[4]?=some (.For target iter body orelse pos))(hG:LG w S.A S.L S.h₀){X G:Addr}{g:List Int}{v:List Value}{c:Nat}(hX:Cv w l X g)(hg:Gl l G v c g)(hn1:u (Str.ofString "coverage")=some (.ref X))(hn2:u (Str.ofString "glyphs")=some (.ref G))
  (h:∀u' l' d',(∀y,y≠Str.ofString "due"->y≠Str.ofString "glyph"->u' y=u y)->(∀p∈l,p∈l')->WR S K d' u' l' [] []):WR S K dr u l body []:=by
 obtain ⟨rfl,rfl⟩:=Prod.mk.inj (sJ e)
 cases sJ (show some _=some (Stmt.For target iter body orelse pos) from hst)
 obtain ⟨dx,T,tk,vs,hc,hi⟩:=hX.ex
 have hl5:g.length<=50:=nTr hg.len (by decide)
 have hvl:=IntsAre.length hg.hi
 have hl3:v.length<=1000:=by rw [hvl];exact nTr hl5 (by decide)
 have hro:∀p∈(G,listOf v.toArray c)::Al w X dx T tk vs,p∈l:=SubL.cons hg.m hc.all
 refine WR.ifNot (BR.or (BR.cmp (c:=false) (XR.any (Mine.X.told (Mine.X.evV (Ev.nameV hn1) ⟨X,dx,T,tk,vs,rfl,hc,λl2 k2=>XR.any (Mine.X.t1 By (Mine.X.evV (Ev.nameV hn2) (CX.tuple (k2 _ hg.m) hl3 λT8 V=>⟨CM.tup (.tail _ (k2 _ hc.c)) (.head _) hi hg.hi,rfl,BR.or (BR.not (XR.f2 Pd (Mine.X.evV (Ev.nameV hn1) (Mine.X.evV (Ev.nameV hn2) (CXR.telX (Vh hi hg.hi hl5 hg.asc hg.lim (Tu hg.asc hg.lim)) hG (λp hp=> .tail _ (k2 p (hro p hp))) λv9 d' new l3 hP k3 V=>⟨hP.1,rfl,BR.or (BR.not (XR.f2 O7 (Mine.X.evV (Ev.nameV hn1) (Mine.X.evV (Ev.nameV hn2) (CXR.telX (Vg hi hg.hi hl5 hg.asc hg.lim) hG (λp hp=>k3 p (.tail _ (k2 p (hro p hp)))) λv8 d8 new8 l4 hP8 k4 V=>⟨hP8.1,rfl,BR.orNil ⟨rfl,WR.nil ?loop⟩⟩)))))⟩)))))⟩)))⟩)))))
 have s4:∀p∈l,p∈l4:=λp hp=>k4 p (k3 p (.tail _ (k2 p hp)))
 clear k2 k3 k4 hP hP8
 refine WR.forX (Mine.X.addL (Mine.X.evV (Ev.nameV hn2) (Mine.X.listI (.cons Ev.int rfl (.cons Ev.int rfl (.cons Ev.int rfl (.cons Ev.int rfl (.cons Ev.int rfl .nil))))) (by decide) λB u1 hu1 V=>⟨G,B,v,u1,c,0,rfl,rfl,.tail _ (s4 _ hg.m),.head _,?sz,λD3 c3 V=>ForV.seq (λi G'=>∀(u':Loc) (lx:Led),(∀y,y≠Str.ofString "due"->y≠Str.ofString "glyph"->u' y=u y)->(∀p∈(D3,listOf (v++u1).toArray c3)::(B,listOf u1.toArray 0)::l4,p∈lx)->G' u' lx) (λi G' h u' lx b1 b2=>h _ _ λG9 h9=>h9 u' lx b1 b2) .list (λi u' lx V b2=>b2 _ (.head _)) (λG' h=>h _ _ (λV V V=>rfl) λp hp=>hp) ?turn (λu' lx b1 b2 d'=>h u' lx d' b1 λp hp=>b2 p (.tail _ (.tail _ (s4 p hp))))⟩)))
 case sz=>
  have h5:=IntsAre.length hu1
  rw [hvl,show u1.length=5 from h5];exact Nat.add_le_add_right (nTr hl5 (by decide:50<=995)) 5
 intro o9 K' i vv hv hr hn u' lx b1 b2 d'
 obtain ⟨a,ta,e9,_⟩:=IntsAre.at (ints_app hg.hi hu1) i vv hv
 subst e9
 have sx:∀p∈l,p∈lx:=λp hp=>b2 p (.tail _ (.tail _ (s4 p hp)))
 have m1:=(b1 (Str.ofString "coverage") (by decide) (by decide)).trans hn1
 have m2:=(b1 (Str.ofString "glyphs") (by decide) (by decide)).trans hn2
 have hcx:CovIn w lx X dx T tk vs:=⟨sx _ hc.a,sx _ hc.b,sx _ hc.c⟩
 have hl1:g.length<=120:=nTr hl5 (by decide)
 refine WR.assignX (Mine.X.ev (Ev.ite (P:=λv=>∃r,isI r v/\IndexIs g a r) (Bv.isIn (Ev.nameI rfl) (Ev.nameV m2) (sx _ hg.m) hg.hi) (λhp=> ?yes) λhp=>Ev.intN.mono λv hv=>⟨_,hv,.inr ⟨rfl,hp⟩⟩) λv9 hv9=> ?_)
 case yes=>
  obtain ⟨j,hj,ej⟩:=List.getElem_of_mem hp
  exact Ev.mono (P1:=isI (j:Int)) (Ev.index (Ev.nameV m2) (sx _ hg.m) hg.hi (hg.asc.imp λh=>Int.ne_of_lt h) (nTr hl5 (by decide)) (by rw [List.getElem?_eq_getElem hj,ej]) (Ev.nameI rfl)) λv hv=>⟨_,hv,.inl ⟨j,rfl,by rw [List.getElem?_eq_getElem hj,ej]⟩⟩
 obtain ⟨r,⟨tr,e9⟩,hr9⟩:=hv9
 subst e9
 refine WR.ifNot (BR.or (BR.cmp (c:=false) (XR.any (Mine.X.cIndex (Ev.nameV m1) hcx hi hg.asc hl1 (Ev.nameI rfl) λr2 t2 l5 k5 hr2=>XR.evV (Ev.nameV rfl) ⟨CM.int (hr2.unique hg.asc hr9),rfl,BR.or (BR.cmp (c:=false) (XR.evV (Ev.has (Ev.nameV m1) (hcx.sub k5) hi hg.asc hl1 (Ev.nameI rfl)) (XR.evV (Ev.ge (Ev.nameI rfl) Ev.int) ⟨hr9.nonneg▸CM.bool,rfl,BR.orNil ⟨rfl,WR.nil (hn (mN (Str.ofString "due") (.int r tr) (mN (Str.ofString "glyph") (.int a ta) u')) _ (λy h1 h2=>(if_neg h1).trans ((if_neg h2).trans (b1 y h1 h2))) (λp hp=>k5 p (b2 p hp)) _)⟩⟩)))⟩))))
theorem Ql(e:defOf vw PySem.Challenge.rw_nu0172_01.row.name=some (d,kwd)){S:Si (P4 d.name d.scope fa cdv) 40 w}(hst:d.body[4]?=some st)(hG:LG w S.A S.L S.h₀){CC cs Sx X1 X2 G1 G2:Addr}{v1 v2:List Value}{c1 c2 cS cC:Nat}{g1 g2:List Int}(hn:u (Str.ofString "coverages")=some (.ref CC))(hC:(CC,listOf [Value.ref X1,Value.ref X2].toArray cC)∈l)(hcs:S.cl.lookup (Str.ofString "sets")=some cs)(hs:Ce l cs (some (.ref Sx)))(hS:(Sx,listOf [Value.ref G1,Value.ref G2].toArray cS)∈l)(x1:Cv w l X1 g1)(x2:Cv w l X2 g2)(h1:Gl l G1 v1 c1 g1)(h2:Gl l G2 v2 c2 g2)
  (h:∀u' d',u' (Str.ofString "coverages")=some (.ref CC)->WR S K d' u' l rest []):WR S K dr u l (st::rest) []:=by
 obtain ⟨rfl,rfl⟩:=Prod.mk.inj (sJ e)
 obtain rfl:=sJ (show some _=some st from hst)
 obtain ⟨os,hos,hosd⟩:=hs.ex
 refine WR.forZip (Ev.nameV hn) (Ev.cell hcs hos hosd) hC hS rfl rfl (λV u'=>u' (Str.ofString "coverages")=some (.ref CC)) hn (λo9 K' i y1 y2 u' hy1 hy2 hJ hr hn9 d'=> ?_) λu' d' hJ=>h u' d' hJ
 obtain ⟨X,G,v,c,g,e1,e2,hX,hg⟩:∃X G v c g,y1= .ref X/\y2= .ref G/\Cv w l X g/\Gl l G v c g:=by
  match i,hy1,hy2 with
  | 0,hy1,hy2=>exact ⟨X1,G1,v1,c1,g1,(sJ hy1).symm,(sJ hy2).symm,x1,h1⟩
  | 1,hy1,hy2=>exact ⟨X2,G2,v2,c2,g2,(sJ hy1).symm,(sJ hy2).symm,x2,h2⟩
  | _+2,hy1,_=>exact nn hy1
 subst e1 e2
 exact Qm e (S:=S.noE o9) rfl hG hX hg rfl rfl λu2 l2 d2 hu hs=>hn9 u2 l2 d2 ((hu _ (by decide) (by decide)).trans hJ) hs
end
end
section
theorem O2:Fn (Str.ofString "joined_coverage") (.ref 362):=⟨λw=>by k_is,λw=>by k_is⟩
theorem O9:Fn (Str.ofString "shared_coverage") (.ref 367):=⟨λw=>by k_is,λw=>by k_is⟩
theorem Pc:Fn (Str.ofString "turned_coverage") (.ref 372):=⟨λw=>by k_is,λw=>by k_is⟩
section
variable {C:Cd}{n:Nat}{w:World}{x y:Str}{px py pos p2 p3:Pos}{e e1 e2:PySem.Expr}{rest:List Stmt}{rs:List (List Stmt)}{S:Si C n w}{K:Flow->Shared->Prop}{d:Drawn}{m:Loc}{l:Led}{v1 v2:Value}{c kd:Nat}{D:Addr}{vs us:List Value}{ns:List Int}{κb:Bool->Drawn->Led->Prop}
theorem WR.unpackL2(he:Ev S m l e (· = .ref D))(hm:(D,listOf [v1,v2].toArray c)∈l)(h:WR S K d (mN y v2 (mN x v1 m)) l rest rs)(hx:locOk C x=true:=by exact Eq.refl true)(hy:locOk C y=true:=by exact Eq.refl true)
  (hs:∀S:Si C n w,swapsWithSole [.Tuple [.Name x px,.Name y py] kd p2] e pos.line S.env=pure false:=by intro _;rfl)(hw:∀S:Si C n w,swappedStores [.Tuple [.Name x px,.Name y py] kd p2] e S.env=pure none:=by intro _;rfl):WR S K d m l (.Assign [.Tuple [.Name x px,.Name y py] kd p2] e pos::rest) rs:=
 ⟨λh9 k A=>Az (Av (Assign_Tuple (he.run h9 d k _ A λv h1 k1 hv A1=>by
  subst hv
  exact kun_list (items:= #[v1,v2]) A1.F A1.N ⟨_,(A1.N1 _ hm).1,rfl,_,rfl⟩ S.hh rfl rfl λh2 F2 N2=>assignInOrder_cons (PyProof.Rows.assign_Name (Si.store ⟨F2,N2,A1.D,A1.O⟩ hx λh3 k3 A3=>assignInOrder_cons (PyProof.Rows.assign_Name (Si.store A3 hy λh4 k4 A4=>wpAny_pure (h.run h4 k4 A4)))))) (hs S) (hw S)))⟩
end
section
variable {w:World}{fa:Addr}{cdv:Value}{st:Stmt}{rest:List Stmt}{K:Flow->Shared->Prop}{dr:Drawn}{u:Loc}{l:Led}{d:DefRec}{kwd:List (Str×PySem.Expr)}
theorem Qn(e:defOf vw PySem.Challenge.rw_nu0172_01.row.name=some (d,kwd)){S:Si (P4 d.name d.scope fa cdv) 40 w}(hst:d.body[5]?=some st){CC X1 X2:Addr}{cC:Nat}(hn:u (Str.ofString "coverages")=some (.ref CC))(hC:(CC,listOf [Value.ref X1,Value.ref X2].toArray cC)∈l)
  (h:WR S K dr (mN "other" (.ref X2) (mN "one" (.ref X1) u)) l rest []):WR S K dr u l (st::rest) []:=by
 obtain ⟨rfl,rfl⟩:=Prod.mk.inj (sJ e)
 obtain rfl:=sJ (show some _=some st from hst)
 exact WR.unpackL2 (Ev.nameV hn) hC h
theorem Qo(e:defOf vw PySem.Challenge.rw_nu0172_01.row.name=some (d,kwd)){S:Si (P4 d.name d.scope fa cdv) 40 w}(hst:d.body[6]?=some st){cs Sx X1 X2 G1 G2:Addr}{v1 v2:List Value}{c1 c2 cS:Nat}{g1 g2:List Int}(n1:u (Str.ofString "one")=some (.ref X1))(n2:u (Str.ofString "other")=some (.ref X2))(hcs:S.cl.lookup (Str.ofString "sets")=some cs)(hs:Ce l cs (some (.ref Sx)))(hS:(Sx,listOf [Value.ref G1,Value.ref G2].toArray cS)∈l)(x1:Cv w l X1 g1)(x2:Cv w l X2 g2)(h1:Gl l G1 v1 c1 g1)(h2:Gl l G2 v2 c2 g2)
  (h:∀l' d',(∀p∈l,p∈l')->WR S K d' u l' rest []):WR S K dr u l (st::rest) []:=by
 obtain ⟨rfl,rfl⟩:=Prod.mk.inj (sJ e)
 obtain rfl:=sJ (show some _=some st from hst)
 obtain ⟨os,hos,hosd⟩:=hs.ex
 obtain ⟨dx,T,tk,vs,cx,ix⟩:=x1.ex
 obtain ⟨dy,U,tk2,us,cy,iy⟩:=x2.ex
 have l1:g1.length<=60:=nTr h1.len (by decide)
 have l2:g2.length<=60:=nTr h2.len (by decide)
 have e1:=IntsAre.length h1.hi
 have e2:=IntsAre.length h2.hi
 refine WR.ifNot (BR.cmp (c:=false) (XR.any (Mine.X.told (Mine.X.f2 O2 (Mine.X.evV (Ev.nameV n1) (Mine.X.evV (Ev.nameV n2) (CX.tel0 (Vn ix iy l1 l2) (λp hp=>(lA hp).elim (cx.all p) (cy.all p)) λv mu' new l3 hP k3 s3=> ?j)))))))
 case j=>
 obtain ⟨X3,dz,T3,tk3,us3,g3,ev,_,en,i3,a3,m3⟩:=hP
 subst ev en
 refine ⟨X3,dz,T3,tk3,us3,rfl,.of λp hp=>(s3 p hp).1,λl4 k4=>XR.any (Mine.X.t1 By (Mine.X.sortedSet (Mine.X.addL (Mine.X.evV (Ev.itemN (j:=0) (Ev.cell hcs (k4 _ (k3 _ hos)) hosd) Ev.int (k4 _ (k3 _ hS)) rfl rfl) (Mine.X.evV (Ev.itemN (j:=1) (Ev.cell hcs (k4 _ (k3 _ hos)) hosd) Ev.int (k4 _ (k3 _ hS)) rfl rfl) ⟨G1,G2,v1,v2,c1,c2,rfl,rfl,k4 _ (k3 _ h1.m),k4 _ (k3 _ h2.m),by exact zn4 142179650249690729922519075444403795794761463386400 rfl l1 l2 e1 e2,λD5 c5 V=>⟨D5,_,_,_,rfl,.head _,ints_app h1.hi h2.hi,by rw [List.length_append];exact zn2 78737938258778937589437348938010913 rfl l1 l2,λd6 D6 vs6 gs6 c6 V i6 a6 m6 len6=>CX.tuple (.head _) (by rw [IntsAre.length i6];rw [List.length_append] at len6;exact zn3 91468283046087938790497368866838516610007328 rfl l1 l2 len6) λT7 V=>⟨CM.tup (.tail _ (.tail _ (.tail _ (k4 _ (s3 _ (.tail _ (.tail _ (.head _)))).1)))) (.head _) i3 (Gz a6 a3 (λx=>(m6 x).trans (List.mem_append.trans (m3 x).symm))▸i6),rfl,WR.nil (h _ _ λp hp=> .tail _ (.tail _ (.tail _ (k4 _ (k3 _ hp)))))⟩⟩⟩)))))⟩
theorem Qp(e:defOf vw PySem.Challenge.rw_nu0172_01.row.name=some (d,kwd)){S:Si (P4 d.name d.scope fa cdv) 40 w}(hst:d.body[7]?=some st){cs Sx X1 X2 G1 G2:Addr}{v1 v2:List Value}{c1 c2 cS:Nat}{g1 g2:List Int}(n1:u (Str.ofString "one")=some (.ref X1))(n2:u (Str.ofString "other")=some (.ref X2))(hcs:S.cl.lookup (Str.ofString "sets")=some cs)(hs:Ce l cs (some (.ref Sx)))(hS:(Sx,listOf [Value.ref G1,Value.ref G2].toArray cS)∈l)(x1:Cv w l X1 g1)(x2:Cv w l X2 g2)(h1:Gl l G1 v1 c1 g1)(h2:Gl l G2 v2 c2 g2)
  (h:∀l' d',(∀p∈l,p∈l')->WR S K d' u l' rest []):WR S K dr u l (st::rest) []:=by
 obtain ⟨rfl,rfl⟩:=Prod.mk.inj (sJ e)
 obtain rfl:=sJ (show some _=some st from hst)
 obtain ⟨os,hos,hosd⟩:=hs.ex
 obtain ⟨dx,T,tk,vs,cx,ix⟩:=x1.ex
 obtain ⟨dy,U,tk2,us,cy,iy⟩:=x2.ex
 have l1:g1.length<=60:=nTr h1.len (by decide)
 have l2:g2.length<=60:=nTr h2.len (by decide)
 refine WR.ifNot (BR.cmp (c:=false) (XR.any (Mine.X.told (Mine.X.f2 O9 (Mine.X.evV (Ev.nameV n1) (Mine.X.evV (Ev.nameV n2) (CX.telD0 (Vy ix iy h2.asc l1 l2) (λp hp=>(lA hp).elim (cx.all p) (cy.all p)) λv d3 mu' new l3 hP k3 s3=> ?j)))))))
 case j=>
 obtain ⟨X3,dz,T3,tk3,us3,ev,_,en,i3⟩:=hP
 subst ev en
 refine ⟨X3,dz,T3,tk3,us3,rfl,.of s3,λl4 k4=>XR.any (Mine.X.t1 By (Mine.X.comp (CR.ofT (Cu hcs) (Mine.X.evV (Ev.itemN (j:=0) (Ev.cell hcs (k4 _ (k3 _ hos)) hosd) Ev.int (k4 _ (k3 _ hS)) rfl rfl) ⟨rfl,CmT.filter (P:=λg=>g∈g2) (f:=λa=>a) (k4 _ (k3 _ h1.m)) .list h1.hi (λS' a t V hI=>Bv.isIn (hI.nm _ _ _).toI (Ev.itemN (j:=1) (Ev.cell (hI.cl▸B9 hcs rfl) (k4 _ (k3 _ hos)) hosd) Ev.int (k4 _ (k3 _ hS)) rfl rfl) (k4 _ (k3 _ h2.m)) h2.hi) (λS' a t V V hI=>(hI.nm _ _ _).toI) (nTr l1 (by decide)) λys hy D5 V=> ?k⟩))))⟩
 case k=>
 rw [List.map_id'] at hy
 exact CX.tuple (.head _) (by rw [IntsAre.length hy];exact nTr (List.length_filter_le _ _) (nTr l1 (by decide))) λT7 V=>⟨CM.tup (.tail _ (.tail _ (k4 _ (s3 _ (.tail _ (.tail _ (.head _))))))) (.head _) i3 hy,rfl,WR.nil (h _ _ λp hp=> .tail _ (.tail _ (k4 _ (k3 _ hp))))⟩
end
structure Tb(w:World)(l:Led)(Td:Addr)(k:Nat):Prop where
 ex:∃(o:Obj) (kvs:List (Int×Value)) (tab:List (Int×Int)),(Td,o)∈l/\IDict w o kvs/\TabIs kvs tab/\kvs.length<=k
theorem Pn.but(h:Pn l Pp b)(ho:IDict w o kvs)(k:∀p∈l,p≠(Td,o)->p∈l'):Pn l' Pp b:=by
 refine h.on λCc cs ns nc nn seat rst t1 t2 a b z3 z4 z5 z6 z7=> ?_
 have hc:o.cls= .type "dict":=ho.is.choose_spec.choose_spec.1.1
 have ne:∀ {q:Addr×Obj},q.2.cls= .type "list"->q≠(Td,o):=λh e=>by
  rw [e,hc] at h
  exact absurd h (of_decide_eq_false (by with_unfolding_all rfl))
 exact .of (k _ a (ne rfl)) (k _ b (ne rfl)) z3 z4 z5 z6 z7
section
variable {C:Cd}{n:Nat}{w:World}{x:Str}{px pos p2 p3:Pos}{e e1 e2:PySem.Expr}{es:List PySem.Expr}{rest:List Stmt}{rs:List (List Stmt)}{S:Si C n w}{K:Flow->Shared->Prop}{d:Drawn}{m:Loc}{l:Led}{Td Pp cp:Addr}{k:Int}{κ:Value->Drawn->Led->Prop}{b many:Int}{t:Tok}{ns:List Int}{body orelse:List Stmt}
theorem WR.setDict(he:X S d m l e λv d1 l1=>(∃dv,PyProof.V.Flat v dv)/\Ev S m l1 e1 (· = .ref Td)/\Ev S m l1 e2 (isI k)/\∃o kvs,(Td,o)∈l1/\IDict w o kvs/\kvs.length<=1000/\∀o' r,IDict w o' (stored kvs k v)->(∀p∈l1,p≠(Td,o)->p∈r)->WR S K d1 m ((Td,o')::r) rest rs)(ok:Af e=true:=by exact Eq.refl true):WR S K d m l (.Assign [.Subscript e1 e2 pos] e p2::rest) rs:=
 ⟨λh9 k9 A=>Az (Av (wpAny_Assign_Subscript (he.run h9 k9 _ A λv d1 l1 h1 k1 z A1=>by
  obtain ⟨⟨dv,hv⟩,hd,hk,o,kvs,hm,hI,hl,z⟩:=z
  refine hd.run h1 d1 k1 _ A1 λv1 h2 k2 hv1 A2=>hk.run h2 d1 k2 _ A2 λv2 h3 k3 ⟨u,hv2⟩ A3=> ?_
  subst hv1 hv2
  obtain ⟨r,hp⟩:=As hm
  have A4:At S h3 m ((Td,o)::r):=A3.less (λp hp'=>hp.perm.mem_iff.mp hp') (C4 hp.perm.symm A3.D)
  obtain ⟨D,hf⟩:=hI.fl
  exact setItem_K (knd:=intKind PySem.Challenge.rw_nu0172_01.row.prog w) (enc:=PyData.int) (k:=k) PyProof.V.same_int (intKind_is _ _ _ _) hv A4.F A4.N (A4.updF .head) hI.is hf (λh' o' F' N' a b=>(z o' r ⟨a,_,b⟩ λp hp' hne=>(lC (hp.perm.mem_iff.mpr hp')).elim (λe=>absurd e hne) id).run h' _ (A4.upd .head F' N')) (by rw [PyProof.V.FlatPairs.length hf,sizeLine_eq];exact nTr hl (nLe rfl))) (Cg ok)))⟩
theorem WR.iteX(hb:XB S d m l e λp d' l'=>(p->WR S K d' m l' body (rest::rs))/\(¬p->WR S K d' m l' orelse (rest::rs))):WR S K d m l (.If e body orelse pos::rest) rs:=
 ⟨λh k A=>Az (rIf (Av (hb.run h k _ A λb p d' l' h' k' hi z A'=>by
  cases b with
  | true=>exact (z.1 (hi.mp rfl)).run h' k' A'
  | false=>exact (z.2 λhp=>nbF (hi.mpr hp)).run h' k' A')))⟩
theorem CX.pdraw(hP:Pn l Pp b)(hb:b<900000)(hm:0<many/\many<=1000)(h:∀x t l',0<=x->x<many->Pn l' Pp (b+1)->Gr l l'->κ (.int x t) d l')(hk:decide (2<=n)=true:=by exact Eq.refl true):CX S d m l (.ref 387) [.ref Pp,.int many t] κ:=by
 refine hP.on λCc cs ns nc nn seat rst t1 t2 a c9 hi hl h1 h2 h3=> ?_
 refine ⟨λh9 k9 Q A hq=> ?_⟩
 obtain ⟨r,hp⟩:=As a
 have k:=Pn.new (cs:=cs) (ns:=ns) (nc:=nc) hp
 refine (CX.tel1 (κ:=κ) (L9 (λe=>Bn hi _ _ _ _ _ _ (congrArg (·.2) (Bg A.N1 _ c9 _ a e))) hi h1 (Int.lt_of_le_of_lt h2 (Int.lt_trans hb (by decide))) h3 hm.1 hm.2 hl) hp (λp hp'=>lS hp'▸k _ c9 (Bn hi)) (λv mu' new hP V=> ?_) hk).run h9 k9 Q A hq
 obtain ⟨x,t',seat',rest',t1',t2',e1,e2,e3,i1,i2,i3,i4,i5⟩:=hP
 subst e1 e2 e3
 exact ⟨rfl,.nil,h x t' _ i1 i2 (.of (.head _) (.tail _ (k _ c9 (Bn hi))) hi hl (Int.le_trans h1 i3) (by exact zi3 418667633423283060867365 rfl h2 i4) i5) λp hp' h=> .tail _ (k p hp' h)⟩
theorem X.pickI(hE:EvI S m l es ns)(hl:ns.length<=1000)(h2:∀D vs,IntsAre vs ns->X S d m ((D,listOf vs.toArray 0)::l) e2 λv d' l'=>∃k:Nat,isI k v/\k<ns.length/\(D,listOf vs.toArray 0)∈l'/\∀x t,x∈ns->κ (.int x t) d' l')(ok:Af e2=true:=by exact Eq.refl true):X S d m l (.Subscript (.List es p3) e2 pos) κ:=
 ⟨λh k9 Q A hq=>Subscript_ ((X.listI (κ:=λv d1 l1=>X S d1 m l1 e2 λu d' l'=>∃(D:Addr) (vs:List Value) (k:Nat),v= .ref D/\IntsAre vs ns/\isI k u/\k<ns.length/\(D,listOf vs.toArray 0)∈l'/\∀x t,x∈ns->κ (.int x t) d' l') hE hl λD vs hi V=>(h2 D vs hi).mono λu d' l' ⟨k,z⟩=>⟨D,vs,k,rfl,hi,z⟩).run h k9 _ A λv d1 l1 h1 k1 zX A1=>zX.run h1 k1 _ A1 λu d' l' h2 k2 z A2=>by
  obtain ⟨D,vs,k,hv,hi,⟨t,hu⟩,hk,hm,z⟩:=z
  subst hv hu
  obtain ⟨y,hy⟩:∃y,vs[k]?=some y:=⟨_,List.getElem?_eq_getElem (by rw [IntsAre.length hi];exact hk)⟩
  obtain ⟨x,t',e,hx⟩:=IntsAre.at hi k y hy
  subst e
  exact kba_turn (value':=PySem.Expr.Name (Str.ofString "_") ⟨0,0,0,0⟩) (λV=>rfl) (kim_list A2.N1 hm rfl rfl (Int.natCast_nonneg _) (by exact lin [_,_] [_] 1267651443460043874051907818784578854 rfl hl hk p63) hy (hq _ _ _ _ _ (z x t' (List.mem_of_getElem? hx)) A2) (D7 ok) λV=>rfl))⟩
end
end
section
theorem Us{kvs:List (Int×Value)}{k:Int}{v:Value}{n:Nat}(h:kvs.length<=n):(stored kvs k v).length<=n+1:=nTr (stored_length_le _ _ _) (Nat.succ_le_succ h)
theorem Uv(h:TabIs kvs tab)(k x:Int)(t:Tok):∃tab',TabIs (stored kvs k (.int x t)) tab':=by
 have vals:∀ {l:List (Int×Value)},(∀p∈l,∃n t,p.2= .int n t)->∃tab,TabIs l tab:=λ {l} h=>by
  induction l with
  | nil=>exact ⟨[],.nil⟩
  | cons p r ih=>
   obtain ⟨n,t,e⟩:=h p (.head _)
   obtain ⟨tab,ht⟩:=ih λq hq=>h q (.tail _ hq)
   obtain ⟨a,b⟩:=p
   cases e
   exact ⟨_,.cons a n t ht⟩
 have all:∀p∈kvs,∃n t,p.2= .int n t:=by
  induction h with
  | nil=>exact λV h=>no h
  | cons a n t _ ih=>exact λp hp=>(lC hp).elim (λe=>⟨n,t,by rw [e]⟩) (ih p)
 refine vals λp hp=> ?_
 unfold stored at hp
 split at hp
 ·obtain ⟨q,hq,e⟩:=List.mem_map.mp hp
  subst e
  split
  ·exact ⟨x,t,rfl⟩
  ·exact all q hq
 ·exact (lA hp).elim (all p) λh=>⟨x,t,by rw [List.mem_singleton.mp h]⟩
theorem Pn.mono(h:Pn l P b)(hb:b<=c):Pn l P c:=by
 refine h.on λCc cs ns nc nn seat rst t1 t2 a1 a2 a3 a4 a5 a6 a7=> ?_
 exact .of a1 a2 a3 a4 a5 (Int.le_trans a6 hb) a7
noncomputable abbrev Bt(c:Addr)(p:Addr×Obj):Prop:=p.1≠c\/∀v,p.2.data≠ .cell v
theorem IDict.np(h:IDict w o kvs):Bq o:=λC seat t1 rst t2 n e=>by
 have hc:o.cls= .type "dict":=h.is.choose_spec.choose_spec.1.1
 rw [e] at hc
 exact absurd hc (of_decide_eq_false (by with_unfolding_all rfl))
theorem Tb.gr(h:Tb w l Td k)(g:Gr l l')(hk:k<=j):Tb w l' Td j:=by
 obtain ⟨o,kvs,tab,a1,a2,a3,a4⟩:=h.ex
 exact ⟨o,kvs,tab,g _ a1 a2.np,a2,a3,nTr a4 hk⟩
section
variable {w:World}{fa:Addr}{cdv:Value}{st:Stmt}{rest:List Stmt}{K:Flow->Shared->Prop}{dr:Drawn}{u:Loc}{l:Led}{d:DefRec}{kwd:List (Str×PySem.Expr)}
theorem Qq(e:defOf vw PySem.Challenge.rw_nu0172_01.row.name=some (d,kwd)){S:Si (P4 d.name d.scope fa cdv) 40 w}(hst:d.body[8]?=some st){ct:Addr}(hcl:S.cl.lookup (Str.ofString "table")=some ct)(hc:Ce l ct none)
  (h:∀Td l',Tb w l' Td 0->(Td==sysModules)=false->Ce l' ct (some (.ref Td))->(∀p∈l,p.1≠Td)->(∀p∈l,Bt ct p->p∈l')->WR S K dr u l' rest []):WR S K dr u l (st::rest) []:=by
 obtain ⟨rfl,rfl⟩:=Prod.mk.inj (sJ e)
 obtain rfl:=sJ (show some _=some st from hst)
 obtain ⟨ot,hot,hotd⟩:=hc.ex
 exact WR.setCell hcl (X.dict0 λTd o hlt hsys h0=>⟨ot,none,.tail _ hot,hotd,λo' r ho' hr=>h Td _ ⟨o,[],[],.tail _ (hr _ (.head _) λe=>absurd (congrArg (·.1) e) (Nat.ne_of_gt (hlt _ hot))),h0,.nil,Nat.le_refl _⟩ hsys ⟨o',.head _,ho'⟩ (λp hp=>Nat.ne_of_lt (hlt p hp)) λp hp hne=> .tail _ (hr p (.tail _ hp) λe=>hne.elim (λhne=>hne (congrArg (·.1) e)) λhne=>hne _ ((congrArg (λq=>q.2.data) e).trans hotd))⟩)
theorem Qr(e:defOf vw PySem.Challenge.rw_nu0172_01.row.name=some (d,kwd)){S:Si (P4 d.name d.scope fa cdv) 40 w}(hst:d.body[9]?=some st){cp cs ct Pp Sx G1 G2 Td:Addr}{v2:List Value}{c2 cS:Nat}{g2:List Int}{l0:Led}(hcp:S.cl.lookup (Str.ofString "pen")=some cp)(hcs:S.cl.lookup (Str.ofString "sets")=some cs)(hct:S.cl.lookup (Str.ofString "table")=some ct)(h0:∀p∈l0,p∈l/\p.1≠Td)(kp:Ce l0 cp (some (.ref Pp)))(ks:Ce l0 cs (some (.ref Sx)))(kt:Ce l ct (some (.ref Td)))(hcT:ct≠Td)(hS:(Sx,listOf [Value.ref G1,Value.ref G2].toArray cS)∈l0)(h2:Gl l0 G2 v2 c2 g2)(hP:Pn l Pp 260)(hT:Tb w l Td 0)
  (h:∀u' l' d',(∀y,y≠Str.ofString "glyph"->u' y=u y)->(∀p∈l0,Bq p.2->p∈l')->Ce l' ct (some (.ref Td))->Tb w l' Td 100->WR S K d' u' l' rest []):WR S K dr u l (st::rest) []:=by
 obtain ⟨rfl,rfl⟩:=Prod.mk.inj (sJ e)
 obtain rfl:=sJ (show some _=some st from hst)
 obtain ⟨os,hos,hosd⟩:=ks.ex
 obtain ⟨op,hop,hopd⟩:=kp.ex
 have hvl:=IntsAre.length h2.hi
 refine WR.forX (Mine.X.evV (Ev.itemN (j:=1) (Ev.cell hcs (h0 _ hos).1 hosd) Ev.int (h0 _ hS).1 rfl rfl) (ForV.seq (λi G'=>∀(u':Loc) (lx:Led),(∀y,y≠Str.ofString "glyph"->u' y=u y)->(∀p∈l0,Bq p.2->p∈lx)->Ce lx ct (some (.ref Td))->Pn lx Pp (260+2* (i:Int))->Tb w lx Td i->G' u' lx) (λi G' h u' lx b1 b2 b3 b4 b5=>h _ _ λG9 h9=>h9 u' lx b1 b2 b3 b4 b5) .list (λi u' lx V b2 V V V=>b2 _ h2.m (Bn h2.hi)) (λG' h=>h _ _ (λV V=>rfl) (λp hp V=>(h0 p hp).1) kt (by simpa using hP) hT) ?turn λu' lx b1 b2 b3 b4 b5 d'=>h u' lx d' b1 b2 b3 ?fin))
 case fin=>
  obtain ⟨o,kvs,tab,a1,a2,a3,a4⟩:=b5.ex
  exact ⟨o,kvs,tab,a1,a2,a3,nTr a4 (by rw [hvl];exact nTr h2.len (by decide))⟩
 intro o9 K' i vv hv hr hn u' lx b1 b2 b3 b4 b5 d'
 have hi48:i<48:=Nat.lt_of_lt_of_le (List.getElem?_eq_some_iff.mp hv).1 (by rw [hvl];exact h2.len)
 obtain ⟨a,ta,e9,_⟩:=IntsAre.at h2.hi i vv hv
 subst e9
 refine WR.iteX (XB.gtC (Mine.X.f2 Hg (Mine.X.evV (Ev.cell hcp (b2 _ hop (Br hopd)) hopd) (Mine.X.evI Ev.int λtm=>CX.pdraw b4 (by exact zn1 61679513620172994699067833110822 rfl hi48) (by decide) λx tx l1 x0 x1 hP1 k1=>⟨x,⟨tx,rfl⟩,λhx=> ?yes,λhx=>WR.nil (hn (mN (Str.ofString "glyph") (.int a ta) u') l1 (λy hy=>(if_neg hy).trans (b1 y hy)) (λp hp hq=>k1 p (b2 p hp hq) hq) (b3.gr k1) ?p1 ?t1 _)⟩))))
 case p1=>exact hP1.mono (by exact zn1 457763526646814383862970671997538597 rfl)
 case t1=>exact b5.gr k1 (Nat.le_succ i)
 case yes=>
  have b2':∀p∈l0,Bq p.2->p∈l1:=λp hp hq=>k1 p (b2 p hp hq) hq
  refine WR.setDict (Td:=Td) (k:=a) (Mine.X.pickI (ns:= [9,7,a]) (.cons Ev.int rfl (.cons Ev.int rfl (.cons (Ev.nameI rfl) rfl .nil))) (nLe rfl) λD vs hvs=>Mine.X.f2 Hg (Mine.X.evV (Ev.cell hcp (.tail _ (b2' _ hop (Br hopd))) hopd) (Mine.X.evI Ev.int λtm=>CX.pdraw (hP1.to λp hp V=> .tail _ hp) (by exact zn1 63159821947057158425037934215975206 rfl hi48) (by decide) λx2 tx2 l2 y0 y1 hP2 k2=>⟨x2.toNat,⟨tx2,by rw [Int.toNat_of_nonneg y0]⟩,?lt,k2 _ (.head _) (Bn hvs),λx t V=> ?_⟩)))
  case lt=>show x2.toNat<3;exact lin [_] [_] 26220500772880673 rfl y1 (iTo (zi1 11044661541 rfl y0))
  obtain ⟨oc,hoc,hocd⟩:=b3.ex
  obtain ⟨o,kvs,tab,a1,a2,a3,a4⟩:=b5.ex
  have kk:∀ {p},p∈lx->Bq p.2->p∈l2:=λhp hq=>k2 _ (.tail _ (k1 _ hp hq)) hq
  refine ⟨⟨_,.int _ _⟩,Ev.cell hct (kk hoc (Br hocd)) hocd,Ev.nameI rfl,o,kvs,kk a1 a2.np,a2,nTr a4 (by exact zn1 56097154718436589856 rfl hi48),λo' r hI' hr=>WR.nil (hn (mN (Str.ofString "glyph") (.int a ta) u') _ (λy hy=>(if_neg hy).trans (b1 y hy)) (λp hp hq=> .tail _ (hr p (kk (b2 p hp hq) hq) λe=>(h0 p hp).2 (congrArg (·.1) e))) ⟨oc,.tail _ (hr _ (kk hoc (Br hocd)) λe=>hcT (congrArg (·.1) e)),hocd⟩ (((hP2.but a2 hr).to λp hp V=> .tail _ hp).mono (by exact zn1 468749851286337929454984127265003688229 rfl)) ?_ _)⟩
  obtain ⟨tab',ht'⟩:=Uv a3 a x t
  exact ⟨o',_,tab',.head _,hI',ht',Us a4⟩
end
end
section
theorem Sy
  (h:wpR M A (eval o env) (λov s₁=>wpAny M A (getMethod ov name pl) (λfx s₂=>wpR M A (callWith pos fx.1 fx.2 (backTo pos (starEach args env)) []) Q E s₂) E s₁) E s)
  (he:eval (.Call (.Attribute o name apos) args [] pos) env=(do
   let ov<-eval o env
   standAt apos.atName
   let (f,first) <-holding [ov] (getMethod ov name pl)
   callWith pos f first (backTo pos (starEach args env)) [])):wpR M A (eval (.Call (.Attribute o name apos) args [] pos) env) Q E s:=by
 rw [he]
 exact Am (Ao h (λov s₁ h₁=>Bd (Ah (wpAny_holding (wpAny_mono h₁ (λfx s₂ h₂=>h₂) λV V x=>x)))) λV V x=>x)
section
variable {C:Cd}{n:Nat}{w:World}{pos p2 p3:Pos}{e e1 e2:PySem.Expr}{S:Si C n w}{d:Drawn}{m:Loc}{l:Led}{κ:Value->Drawn->Led->Prop}{op:CmpOp}{a b:Int}{t u:Tok}{D D2:Addr}{cN cM:Nat}{vs us:List Value}
theorem XR.told(hx:XR S d m l e λv d' l'=>∃(X0 dx T:Addr) (tk0:Tok) (vs:List Value),v= .ref X0/\CovIn w l' X0 dx T tk0 vs/\∀l'',(∀p∈l',p∈l'')->κ (.ref T) d' l'')(e0:∀env:Env,eval (.Call (.Attribute e (Str.ofString "told") p2) [] [] pos) env=(do
   let ov<-eval e env
   standAt p2.atName
   methodCall e (Str.ofString "told") p2 pos env ov 0 (backTo pos (starEach [] env)) []):=by intro _;rfl) (hp:(p2.endLine==pos.line)=true:=by exact Eq.refl true) (hk:decide (4<=n)=true:=by exact Eq.refl true):XR S d m l (.Call (.Attribute e (Str.ofString "told") p2) [] [] pos) κ:=
 ⟨λh k Q A hq=>Sy (hx.run h k _ A λo d1 l1 h1 k1 z A1=>by
  obtain ⟨X0,dx,T,tk0,vs,ho,hc,z⟩:=z
  subst ho
  exact method_inst A1.F S.gd (InstAt.of_news A1.N1 hc.a hc.b) (mth_told.pg w) (mth_told.fi w) (mth_told.fn w) rfl (Av (callWith_K0 A1.gd (mth_told.keep w) ((CX.tel0 (κ:=κ) (Mb (vs:=vs) (tk0:=tk0) (dx:=dx)) hc.all (λv mu' new l' hP hs V=>by
   obtain ⟨e1,_,_⟩:=hP
   exact e1▸z l' hs) hk).run h1 k1 Q A1 hq)))) (Hv (e0 _) hp)⟩
theorem X.and2(h:X S d m l e1 λv d' l'=>v= .bool true/\X S d' m l' e2 κ):X S d m l (.BoolOp .And [e1,e2] pos) κ:=
 ⟨λh9 k Q A hq=>BoolOp_and (h.run h9 k _ A λv d' l' h' k' z A'=>by
  obtain ⟨e,z⟩:=z
  subst e
  exact wpAny_truthy_bool (BoolOp_one (z.run h' k' Q A' hq)))⟩
theorem X.cmp(h:X S d m l e1 λv1 d1 l1=>X S d1 m l1 e2 λv2 d2 l2=>CM S d2 m l2 op v1 v2 c/\κ (.bool c) d2 l2)(hm:behindInMarks op e2=false:=by exact Eq.refl false):X S d m l (.Compare e1 [op] [e2] pos) κ:=
 ⟨λh9 k Q A hq=>wpAny_Compare1 (h.run h9 k _ A λv1 d1 l1 h1 k1 z A1=>z.run h1 k1 _ A1 λv2 d2 l2 h2 k2 z A2=>z.1.run h2 k2 _ A2 λh3 k3 A3=>hq _ _ _ h3 k3 z.2 A3) hm⟩
theorem CM.intEq(h:a=b):CM S d m l .Eq (.int a t) (.int b u) true:=
 ⟨λh9 k Q A hq=>PyProof.Rows.eq_int (by rw [h,beq_self_eq_true];exact hq _ _ A)⟩
theorem X.xIndex(hx:X S d m l e λv d' l'=>∃(X0 dx T:Addr) (tk:Tok) (vs:List Value) (gs:List Int),v= .ref X0/\CovIn w l' X0 dx T tk vs/\IntsAre vs gs/\gs.Pairwise (· < ·)/\gs.length<=120/\Ev S m l' e1 (isI g)/\∀r t l'',(∀p∈l',p∈l'')->IndexIs gs g r->κ (.int r t) d' l'')(ok:Au e1=true:=by exact Eq.refl true)(e0:∀env:Env,eval (.Call (.Attribute e (Str.ofString "index") p2) [e1] [] pos) env=(do
   let ov<-eval e env
   standAt p2.atName
   methodCall e (Str.ofString "index") p2 pos env ov 1 (backTo pos (starEach [e1] env)) []):=by intro _;rfl) (hp:(p2.endLine==pos.line)=true:=by exact Eq.refl true) (hk:decide (6<=n)=true:=by exact Eq.refl true):X S d m l (.Call (.Attribute e (Str.ofString "index") p2) [e1] [] pos) κ:=
 ⟨λh k Q A hq=>MethodCall_ (hx.run h k _ A λo d1 l1 h1 k1 z A1=>by
  obtain ⟨X0,dx,T,tk,vs,gs,ho,hc,hi,hs,hl,ha,z⟩:=z
  subst ho
  exact method_inst A1.F S.gd (InstAt.of_news A1.N1 hc.a hc.b) (mth_index.pg w) (mth_index.fi w) (mth_index.fn w) rfl (callWith_K A1.gd (mth_index.keep w) (args_cons (ha.run h1 d1 k1 _ A1 λv1 h2 k2 ⟨t,hv⟩ A2=>args_nil ⟨A2.gd,by
   subst hv
   exact (CX.index hc hi hs hl z hk).run h2 k2 Q A2 hq⟩) (Ad ok)) (Ad ok) rfl)) (Dv (e0 _) ok hp)⟩
theorem Jj(h:IntsAre vs gs):DatAll l vs (gs.map Dat.int):=by
 induction h with
 | nil=>exact .nil
 | cons n t _ ih=>exact .cons (.int n t) ih
noncomputable def TupI(l:Led)(v:Value)(g:List Int):Prop:=∃T vs,v= .ref T/\(T,Ap vs)∈l/\IntsAre vs g
theorem Mc(hx:TupI l x g1)(hy:TupI l y g2):DatAll l [x,y] ([g1,g2].map λgs=> .tuple (gs.map Dat.int)):=by
 obtain ⟨T,v,e,h,hi⟩:=hx
 obtain ⟨U,v2,e2,h2,hi2⟩:=hy
 subst e e2
 exact .cons (.tuple h (Jj hi)) (.cons (.tuple h2 (Jj hi2)) .nil)
theorem CM.tups(ha:(D,listOf [x,y].toArray cN)∈l)(hb:(D2,listOf [z,v].toArray cM)∈l)(h1:TupI l x g1)(h2:TupI l y g2)(h3:TupI l z g1)(h4:TupI l v g2)(hn:decide (8<=n)=true:=by exact Eq.refl true):CM S d m l .Eq (.ref D) (.ref D2) true:=by
 obtain ⟨_,pa⟩:=As ha
 obtain ⟨_,pb⟩:=As hb
 exact ⟨λh9 k Q A hq=>V4 A.N1 pa pb (Mc h1 h2) (Mc h3 h4) (λV h=>h) (λV h=>h) rfl (S.units hn) (hq _ _ A)⟩
theorem TupI.sub(h:TupI l v g)(k:∀p∈l,p∈l'):TupI l' v g:=by
 obtain ⟨T,vs,e,a,b⟩:=h
 exact ⟨T,vs,e,k _ a,b⟩
theorem Py(h:IndexIs [2,9] 9 r):r=1:=h.unique (by decide) (.inl ⟨1,rfl,rfl⟩)
end
section
variable {w:World}{fa:Addr}{cdv:Value}{st:Stmt}{rest:List Stmt}{K:Flow->Shared->Prop}{dr:Drawn}{u:Loc}{l:Led}{d:DefRec}{kwd:List (Str×PySem.Expr)}
theorem Qh(e:defOf vw PySem.Challenge.rw_nu0172_01.row.name=some (d,kwd)){S:Si (P4 d.name d.scope fa cdv) 40 w}(hst:d.body[10]?=some st)(hG:LG w S.A S.L S.h₀){cs ct Sx X1 G1 G2 Td:Addr}{v1:List Value}{c1 cS:Nat}{g1:List Int}(n1:u (Str.ofString "one")=some (.ref X1))(hcs:S.cl.lookup (Str.ofString "sets")=some cs)(hct:S.cl.lookup (Str.ofString "table")=some ct)(hs:Ce l cs (some (.ref Sx)))(kt:Ce l ct (some (.ref Td)))(hS:(Sx,listOf [Value.ref G1,Value.ref G2].toArray cS)∈l)(x1:Cv w l X1 g1)(h1:Gl l G1 v1 c1 g1)(hT:Tb w l Td 100)(hsys:(Td==sysModules)=false)
  (h:∀l' d',(∀p∈l,p∈l')->WR S K d' u l' rest []):WR S K dr u l (st::rest) []:=by
 obtain ⟨rfl,rfl⟩:=Prod.mk.inj (sJ e)
 obtain rfl:=sJ (show some _=some st from hst)
 obtain ⟨os,hos,hosd⟩:=hs.ex
 obtain ⟨ot,hot,hotd⟩:=kt.ex
 obtain ⟨dx,T,tk,vs,cx,ix⟩:=x1.ex
 obtain ⟨o,kvs,tab,a1,a2,a3,a4⟩:=hT.ex
 have l1:g1.length<=60:=nTr h1.len (by decide)
 refine WR.ifNot (BR.cmp (c:=false) (Mine.XR.told (Mine.XR.f2 Pc (Mine.X.evV (Ev.nameV n1) (Mine.X.evV (Ev.cell hct hot hotd) (CXR.telX (V1 ix l1 a2.is hsys a3) hG (SubL.cons a1 cx.all) λv d3 new l3 hP k3 s3=> ?j))))))
 case j=>
 obtain ⟨X3,dz,T3,tk3,us3,g3,ev,en,i3,p3,m3⟩:=hP
 subst ev en
 refine ⟨X3,dz,T3,tk3,us3,rfl,.of s3,λl4 k4=>XR.any (Mine.X.t1 By (Mine.X.sortedSet (Mine.X.comp (CR.ofT (Cu hct) (Mine.X.evV (Ev.itemN (j:=0) (Ev.cell hcs (k4 _ (k3 _ hos)) hosd) Ev.int (k4 _ (k3 _ hS)) rfl rfl) ⟨rfl,CmT.filter (P:=λg=>(tabAt tab g).isSome=true) (f:=λg=>(tabAt tab g).getD 0) (k4 _ (k3 _ h1.m)) .list h1.hi (λS' a t V hI=>Bv.isInD (hI.nm _ _ _).toI (Ev.cell (hI.cl▸B9 hct rfl) (k4 _ (k3 _ hot)) hotd) (k4 _ (k3 _ a1)) a2.is hsys a3) (λS' a t V hp hI=>Ev.itemD (Ev.cell (hI.cl▸B9 hct rfl) (k4 _ (k3 _ hot)) hotd) (hI.nm _ _ _).toI (k4 _ (k3 _ a1)) a2.is a3 (Option.some_get hp▸rfl)) (nTr l1 (by decide)) λys hy D5 V=> ?k⟩)))))⟩
 case k=>
 rw [Jt] at hy
 have hl:=nTr (List.length_filterMap_le (tabAt tab) g1) l1
 exact ⟨D5,_,_,_,rfl,.head _,hy,Nat.lt_of_le_of_lt hl (by decide),λd6 D6 vs6 gs6 c6 V i6 a6 m6 len6=>CX.tuple (.head _) (by rw [IntsAre.length i6];exact nTr (nTr len6 hl) (by decide)) λT7 V=>⟨CM.tup (.tail _ (.tail _ (.tail _ (k4 _ (s3 _ (.tail _ (.tail _ (.head _)))))))) (.head _) i3 (Gz a6 p3 (λx=>(m6 x).trans (m3 x).symm)▸i6),rfl,WR.nil (h _ _ λp hp=> .tail _ (.tail _ (.tail _ (k4 _ (k3 _ hp)))))⟩⟩
end
end
section
section
variable {w:World}{fa:Addr}{cdv:Value}{st:Stmt}{rest:List Stmt}{K:Flow->Shared->Prop}{dr:Drawn}{u:Loc}{l:Led}{d:DefRec}{kwd:List (Str×PySem.Expr)}
theorem V7{y1 y2:Value}{ys:List Value}(hl:ys.length=2)(h:∀(i:Nat) y,ys[i]?=some y-> [y1,y2][i]?=some y):ys= [y1,y2]:=by
 obtain ⟨a,b,e⟩:=Kl hl
 subst e
 cases h 0 a rfl
 cases h 1 b rfl
 rfl
theorem Qi(e:defOf vw PySem.Challenge.rw_nu0172_01.row.name=some (d,kwd)){S:Si (P4 d.name d.scope fa cdv) 40 w}(hst:d.body[11]?=some st){CC cs Sx X1 X2 G1 G2:Addr}{v1 v2:List Value}{c1 c2 cS cC:Nat}{g1 g2:List Int}(hn:u (Str.ofString "coverages")=some (.ref CC))(hC:(CC,listOf [Value.ref X1,Value.ref X2].toArray cC)∈l)(hcs:S.cl.lookup (Str.ofString "sets")=some cs)(hs:Ce l cs (some (.ref Sx)))(hS:(Sx,listOf [Value.ref G1,Value.ref G2].toArray cS)∈l)(x1:Cv w l X1 g1)(x2:Cv w l X2 g2)(h1:Gl l G1 v1 c1 g1)(h2:Gl l G2 v2 c2 g2)
  (h:∀l',(∀p∈l,p∈l')->Rt S K dr l' (.bool true)):WR S K dr u l (st::rest) []:=by
 obtain ⟨rfl,rfl⟩:=Prod.mk.inj (sJ e)
 obtain rfl:=sJ (show some _=some st from hst)
 obtain ⟨os,hos,hosd⟩:=hs.ex
 obtain ⟨dx,T,tk,vs,cx,ix⟩:=x1.ex
 obtain ⟨dy,U,tk2,us,cy,iy⟩:=x2.ex
 refine WR.retX (Mine.X.and2 (Mine.X.cmp (c:=true) (Mine.X.comp (CR.of Dm (Mine.X.evV (Ev.nameV hn) ⟨rfl,Cm.map (R:=λi y=> [Value.ref T,Value.ref U][i]?=some y) hC .list (λS' i v hv hI=>Ev.ofX λd'=>Mine.X.told (Mine.X.evV (hI.nm _ _ _) ?t)) (nLe rfl) λys hl hy D1 n1=> ?k⟩)))))
 case t=>
  match i,hv with
  | 0,hv=>exact ⟨X1,dx,T,tk,vs,(sJ hv).symm,cx,λl2 k2=>⟨rfl,rfl,k2⟩⟩
  | 1,hv=>exact ⟨X2,dy,U,tk2,us,(sJ hv).symm,cy,λl2 k2=>⟨rfl,rfl,k2⟩⟩
  | _+2,hv=>exact nn hv
 have ey:=V7 hl hy
 subst ey
 refine Mine.X.comp (CR.of Dm (Mine.X.evV (Ev.cell hcs (.tail _ hos) hosd) ⟨rfl,⟨_,_,_,λi ys l'=>(∀p∈(D1,PyProof.Rows.LCg.lst [Value.ref T,Value.ref U])::l,p∈l')/\Two (TupI l') ys i g1 g2,Wv.seq (.tail _ hS) .list,⟨λi ys l' z=>lL _ (z.1 _ (.tail _ hS)),λS' i v ys l' hv hI z=> ?turn⟩,⟨λp hp=>hp,.nil⟩,nLe rfl,λys l' z D2 hD2=> ?done⟩⟩))
 case turn=>
  obtain ⟨k1,hT⟩:=z
  obtain ⟨G,vG,cG,g,e,hg,hG⟩:∃G vG cG g,v= .ref G/\ [g1,g2][i]?=some g/\Gl l G vG cG g:=by
   match i,hv with
   | 0,hv=>exact ⟨G1,v1,c1,g1,(sJ hv).symm,rfl,h1⟩
   | 1,hv=>exact ⟨G2,v2,c2,g2,(sJ hv).symm,rfl,h2⟩
   | _+2,hv=>exact nn hv
  subst e
  exact Mine.X.t1 By (Mine.X.evV (hI.nm _ _ _) (CX.tuple (k1 _ (.tail _ hG.m)) (by rw [IntsAre.length hG.hi];exact nTr hG.len (by decide)) λT9 V=>⟨rfl,λp hp=> .tail _ (k1 p hp),hT.snoc (λy g h=>h.sub λp hp=> .tail _ hp) hg ⟨T9,vG,rfl,.head _,hG.hi⟩⟩))
 case done=>
  obtain ⟨k1,hT⟩:=z
  obtain ⟨x,y,e,hx,hy⟩:=hT.done
  subst e
  have k2:∀p∈l,p∈(D2,PyProof.Rows.LCg.lst [x,y])::l':=λp hp=> .tail _ (k1 p (.tail _ hp))
  refine ⟨CM.tups (cN:=2) (cM:=2) (.tail _ (k1 _ (.head _))) (.head _) ⟨T,vs,rfl,k2 _ cx.c,ix⟩ ⟨U,us,rfl,k2 _ cy.c,iy⟩ (hx.sub λp hp=> .tail _ hp) (hy.sub λp hp=> .tail _ hp),rfl,Mine.X.cmp (c:=true) (Mine.X.xIndex (Mine.X.f1 Ei (Mine.X.tup2 Ev.int Ev.int λT3 w1 w2 ⟨t1,e1⟩ ⟨t2,e2⟩ _=>CX.cls En Ej λX3 dx3 o3 ⟨tk3,e3⟩ _ _=>⟨X3,dx3,T3,tk3,_,[2,9],rfl,⟨.head _,e3▸ .tail _ (.head _),.tail _ (.tail _ (.head _))⟩,by subst e1 e2;exact .cons _ _ (.cons _ _ .nil),by decide,by decide,Ev.int,λr t l5 k5 hr=>Mine.X.evI Ev.int λt6=>⟨CM.intEq (Py hr),h l5 λp hp=>k5 p (.tail _ (.tail _ (.tail _ (k2 p hp))))⟩⟩)))⟩
end
end
section
section
variable {w:World}{fa:Addr}{cdv:Value}{K:Flow->Shared->Prop}{dr:Drawn}{u:Loc}{l:Led}{d:DefRec}{kwd:List (Str×PySem.Expr)}
theorem Qs(e:defOf vw PySem.Challenge.rw_nu0172_01.row.name=some (d,kwd)){S:Si (P4 d.name d.scope fa cdv) 40 w}{cp cs ct sc:Addr}{vs:List Value}{ns:List Int}(hcp:S.cl.lookup (Str.ofString "pen")=some cp)(hcs:S.cl.lookup (Str.ofString "sets")=some cs)(h12:cp≠cs)(h13:cp≠ct)(h23:cs≠ct)(hn:u (Str.ofString "script")=some (.ref sc))(hL:S.h₀.IsList sc vs.toArray)(hi:IntsAre vs ns)(hl:ns.length<=63)(kp:Ce l cp none)(ks:Ce l cs none)(kt:Ce l ct none){s0 s1 s2 s3:Stmt}{rest:List Stmt}(e0:d.body[0]?=some s0)(e1:d.body[1]?=some s1)(e2:d.body[2]?=some s2)(e3:d.body[3]?=some s3)
  (h:∀Pp Sx G1 G2 v1 v2 c1 c2 g1 g2 cS CC X1 X2 cC d' u' l',Pn l' Pp 260->Gl l' G1 v1 c1 g1->Gl l' G2 v2 c2 g2->(Sx,listOf [Value.ref G1,Value.ref G2].toArray cS)∈l'->Ce l' cp (some (.ref Pp))->Ce l' cs (some (.ref Sx))->Ce l' ct none->Cv w l' X1 g1->Cv w l' X2 g2->(CC,listOf [Value.ref X1,Value.ref X2].toArray cC)∈l'->u' (Str.ofString "coverages")=some (.ref CC)->WR S K d' u' l' rest []):WR S K dr u l (s0::s1::s2::s3::rest) []:=
 Qf e e0 hcp hn hL hi hl kp λPp l1 P1 kp1 t1=>
  Qg e e1 hcp hcs P1 kp1 (ks.to λp hp q=>t1 p hp λe=>h12 (e.symm.trans q)) λSx G1 G2 v1 v2 c1 c2 g1 g2 cS d2 l2 P2 hG1 hG2 mS ks2 t2=>
  Qj e e2 hcp hcs P2 (kp1.ex.elim λo z=>⟨o,t2 _ z.1 (Br z.2) h12,z.2⟩) ks2 mS hG1 hG2 λHH H1 H2 cH l3 P3 b1 b2 mH t3=>
  Qk e e3 rfl mH b1 b2 hG1.asc hG2.asc λCC X1 X2 cC l4 x1 x2 mC t4=>
  have g4:Gr l2 l4:=λp hp hq=>t4 p (t3 p hp hq)
  h Pp Sx G1 G2 v1 v2 c1 c2 g1 g2 cS CC X1 X2 cC d2 _ l4 (P3.to λp hp V=>t4 p hp) (hG1.gr g4) (hG2.gr g4) (g4 _ mS Ep) (kp1.ex.elim λo z=>⟨o,g4 _ (t2 _ z.1 (Br z.2) h12) (Br z.2),z.2⟩) (ks2.gr g4) (kt.ex.elim λo z=>⟨o,g4 _ (t2 _ (t1 _ z.1 h13.symm) (Br z.2) h23.symm) (Br z.2),z.2⟩) x1 x2 mC rfl
theorem Qt(e:defOf vw PySem.Challenge.rw_nu0172_01.row.name=some (d,kwd)){S:Si (P4 d.name d.scope fa cdv) 40 w}(hG:LG w S.A S.L S.h₀){cp cs ct:Addr}(hcp:S.cl.lookup (Str.ofString "pen")=some cp)(hcs:S.cl.lookup (Str.ofString "sets")=some cs)(hct:S.cl.lookup (Str.ofString "table")=some ct)(h13:cp≠ct)(h23:cs≠ct){Pp Sx G1 G2 CC X1 X2:Addr}{v1 v2:List Value}{c1 c2 cS cC:Nat}{g1 g2:List Int}{s4 s5 s6 s7 s8 s9 s10 s11:Stmt}(e4:d.body[4]?=some s4)(e5:d.body[5]?=some s5)(e6:d.body[6]?=some s6)(e7:d.body[7]?=some s7)(e8:d.body[8]?=some s8)(e9:d.body[9]?=some s9)(e10:d.body[10]?=some s10)(e11:d.body[11]?=some s11)
  (P:Pn l Pp 260)(hG1:Gl l G1 v1 c1 g1)(hG2:Gl l G2 v2 c2 g2)(mS:(Sx,listOf [Value.ref G1,Value.ref G2].toArray cS)∈l)(kp:Ce l cp (some (.ref Pp)))(ks:Ce l cs (some (.ref Sx)))(kt:Ce l ct none)(x1:Cv w l X1 g1)(x2:Cv w l X2 g2)(mC:(CC,listOf [Value.ref X1,Value.ref X2].toArray cC)∈l)(hu:u (Str.ofString "coverages")=some (.ref CC))(h:∀d l,Rt S K d l (.bool true)):WR S K dr u l [s4,s5,s6,s7,s8,s9,s10,s11] []:=by
 refine Ql e e4 hG hu mC hcs ks mS x1 x2 hG1 hG2 λu4 d4 hu4=>Qn e e5 hu4 mC (Qo e e6 rfl rfl hcs ks mS x1 x2 hG1 hG2 λl6 d6 t6=> ?_)
 have g6:Gr l l6:=λp hp V=>t6 p hp
 refine Qp e e7 rfl rfl hcs (ks.gr g6) (t6 _ mS) (x1.gr g6) (x2.gr g6) (hG1.gr g6) (hG2.gr g6) λl7 d7 t7=> ?_
 have t7:∀p∈l,p∈l7:=λp hp=>t7 p (t6 p hp)
 clear t6 g6
 refine Qq e e8 hct (kt.gr λp hp V=>t7 p hp) λTd l8 hT hsys kt8 n8 t8=> ?_
 have hcell:∀ {c:Addr} {v:Option Value},c≠ct->Ce l c v->∃o,(c,o)∈l/\Bt ct (c,o)/\o.data= .cell v:=λhne k=>k.ex.elim λo z=>⟨o,z.1,.inl hne,z.2⟩
 let l0:Led:=l.filter λp=> @decide (Bt ct p) (Classical.propDecidable _)
 have m0:∀ {p},p∈l->Bt ct p->p∈l0:=λhp hb=>List.mem_filter.mpr ⟨hp,@decide_eq_true _ (Classical.propDecidable _) hb⟩
 have h0:∀p∈l0,p∈l8/\p.1≠Td:=λp hp=>by
  obtain ⟨hp,hb⟩:=List.mem_filter.mp hp
  exact ⟨t8 p (t7 p hp) (@of_decide_eq_true _ (Classical.propDecidable _) hb),n8 p (t7 p hp)⟩
 have ce0:∀ {c:Addr} {v:Value},c≠ct->Ce l c (some v)->Ce l0 c (some v):=λhne k=>k.ex.elim λo z=>⟨o,m0 z.1 (.inl hne),z.2⟩
 have gl0:∀ {G v c g},Gl l G v c g->Gl l0 G v c g:=λk=>k.to λp hp q=>m0 hp (.inr q)
 have cv0:∀ {X g},Cv w l X g->Cv w l0 X g:=λk=>by
  obtain ⟨dx,T,tk,vs,a,b⟩:=k.ex
  exact ⟨dx,T,tk,vs,⟨m0 a.a (.inr λV=>ncs),m0 a.b (.inr λV=>ncs),m0 a.c (.inr λV=>ncs)⟩,b⟩
 have mS0:=m0 mS (.inr λV=>ncs)
 have mC0:=m0 mC (.inr λV=>ncs)
 have ks0:=ce0 h23 ks
 have P8:Pn l8 Pp 260:=P.to λp hp q=>t8 p (t7 p hp) (.inr q)
 refine Qr e e9 hcp hcs hct h0 (ce0 h13 kp) ks0 kt8 (kt8.ex.elim λo z=> ?ne) mS0 (gl0 hG2) P8 hT λu9 l9 d9 hu9 t9 kt9 hT9=> ?_
 case ne=>exact (kt.ex.elim λo z=>n8 _ (t7 _ z.1))
 have n1:u9 (Str.ofString "one")=some (.ref X1):=hu9 _ (by decide)
 refine Qh e e10 hG n1 hcs hct (ks0.gr t9) kt9 (t9 _ mS0 Ep) ((cv0 x1).gr t9) ((gl0 hG1).gr t9) hT9 hsys λl10 d10 t10=> ?_
 have g10:Gr l0 l10:=λp hp q=>t10 p (t9 p hp q)
 exact Qi e e11 ((hu9 _ (by decide)).trans hu4) (g10 _ mC0 Ep) hcs (ks0.gr g10) (g10 _ mS0 Ep) ((cv0 x1).gr g10) ((cv0 x2).gr g10) ((gl0 hG1).gr g10) ((gl0 hG2).gr g10) λl' V=>h _ l'
theorem CellsAre.get(Y:CellsAre cm cs cells)(h:(n,c)∈cs):∃o,(c,o)∈cells/\o.data= .cell (cm n):=by
 induction Y with
 | nil=>exact no h
 | cons ho _ ih=>
  rcases lC h with e | h
  ·cases e;exact ⟨_,.head _,ho⟩
  ·obtain ⟨o,a,b⟩:=ih h
   exact ⟨o,.tail _ a,b⟩
theorem getD_some{b:List Stmt}{x:Stmt}{i:Nat}(h:i<b.length):b[i]?=some (b.getD i x):=by rw [List.getD_eq_getElem?_getD,List.getElem?_eq_getElem h];rfl
theorem Qu(e:defOf vw PySem.Challenge.rw_nu0172_01.row.name=some (d,kwd)):(∀a,cellsFrom a d.scope.names []= [(Str.ofString "table",a+1+1),(Str.ofString "sets",a+1),(Str.ofString "pen",a)])/\
  (∀L fa Sc,(bindL (envOfC d.name d.scope L fa cdv).kindOf [(Str.ofString "script",.ref Sc)] λV=>none) (Str.ofString "script")=some (.ref Sc))/\(∀L fa Sc,let f:=bindC (envOfC d.name d.scope L fa cdv).kindOf [(Str.ofString "script",.ref Sc)] λV=>none
   f (Str.ofString "pen")=none/\f (Str.ofString "sets")=none/\f (Str.ofString "table")=none)/\∃st:Nat->Stmt,(∀i,i<12->d.body[i]?=some (st i))/\d.body= [st 0,st 1,st 2,st 3,st 4,st 5,st 6,st 7,st 8,st 9,st 10,st 11]:=by
 obtain ⟨rfl,rfl⟩:=Prod.mk.inj (sJ e)
 exact ⟨λV=>rfl,λV V V=>rfl,λV V V=>⟨rfl,rfl,rfl⟩,λi=>List.getD _ i (.Pass ⟨0,0,0,0⟩),λi h=>getD_some h,rfl⟩
theorem law_room:(Around.deeper callerA env).depth+40<recursionLimit/\(Around.deeper callerA env).units+8*40<cLine:=by
 simp only [depth_deeper,Around.deeper_units];decide
theorem law_body(e:defOf vw PySem.Challenge.rw_nu0172_01.row.name=some (d,kwd)):Ip d:=by
 intro w fa Sc cdv s₁ h₁ tk p loose mean mg mb vs ns cells L XX TT hS hI hlen F N Y
 have Z:=Qu (cdv:=cdv) e
 have hc:=Z.1
 have hb:=Z.2.2.1 L fa Sc
 have hk:=(Ki e).1
 have B:=below_caller s₁.heap
 have G:LG w (Around.deeper callerA (envOfC d.name d.scope L fa cdv)) L s₁.heap:=⟨p,loose,mean,mg,mb,callerA,envOfC d.name d.scope L fa cdv,rfl,rfl,hk,rfl,law_room.1,law_room.2,B,XX,TT⟩
 let S:Si (P4 d.name d.scope fa cdv) 40 w:= {A:=Around.deeper callerA (envOfC d.name d.scope L fa cdv),L:=L,lc:=L,cl:=cellsFrom (L+1) d.scope.names [],h₀:=s₁.heap,g:=s₁.gens,o:=s₁.os,E:=λV V=>False,own:= [],H:=Here.of B XX TT rfl rfl rfl hk law_room.1 law_room.2,hE:=λV=>He}
 rw [hc] at Y
 have n12:L+1≠L+1+1:=Nat.ne_of_lt (Nat.lt_succ_self _)
 have n23:L+1+1≠L+1+1+1:=Nat.ne_of_lt (Nat.lt_succ_self _)
 have n13:L+1≠L+1+1+1:=Nat.ne_of_lt (Nat.lt_succ_of_lt (Nat.lt_succ_self _))
 have lk:∀ {x a},(cellsFrom (L+1) d.scope.names []).lookup x=a->S.cl.lookup x=a:=λh=>h
 have kp:=lk (x:=Str.ofString "pen") (a:=some (L+1)) (by rw [hc];rfl)
 have ks:=lk (x:=Str.ofString "sets") (a:=some (L+1+1)) (by rw [hc];rfl)
 have kt:=lk (x:=Str.ofString "table") (a:=some (L+1+1+1)) (by rw [hc];rfl)
 refine Z.2.2.2.elim λst z=>(Bx _ (Bg N)).elim λl y=> ?_
 have ce:∀ {n:Str} {c:Addr},(n,c)∈_->bindC (envOfC d.name d.scope L fa cdv).kindOf [(Str.ofString "script",.ref Sc)] (λV=>none) n=none->Ce l c none:=λhm hn=>⟨(CellsAre.get Y hm).imp λo x=>⟨(y.2 _).mpr x.1,x.2.trans (congrArg _ hn)⟩⟩
 have E:=λi h=>z.1 i (of_decide_eq_true h)
 rw [z.2]
 refine (Qs (S:=S) (K:=λfl s'=>Go s₁ (match fl with | .ret v=>v | _=> .none) s') e kp ks n12 n13 n23 (Z.2.1 L fa Sc) hS hI hlen (ce (.tail _ (.tail _ (.head _))) hb.1) (ce (.tail _ (.head _)) hb.2.1) (ce (.head _) hb.2.2) (E 0 rfl) (E 1 rfl) (E 2 rfl) (E 3 rfl) λPp Sx G1 G2 v1 v2 c1 c2 g1 g2 cS CC X1 X2 cC d' u' l' a1 a2 a3 a4 a5 a6 a7 a8 a9 b1 b2=>
  Qt e G kp ks kt n13 n23 (E 4 rfl) (E 5 rfl) (E 6 rfl) (E 7 rfl) (E 8 rfl) (E 9 rfl) (E 10 rfl) (E 11 rfl) a1 a2 a3 a4 a5 a6 a7 a8 a9 b1 b2 λd l=>⟨λh k m A=>⟨_,_,_,rfl,rfl,A.F.keep⟩⟩).run h₁ tk ⟨F,λp hp=>N p ((y.2 p).mp (List.append_nil l▸hp)),y.1,λp hp=>no hp⟩
end
end
end Mine
theorem PySem.Challenge.cw_nu0172_01_holds : PySem.Challenge.rw_nu0172_01.Holds :=
 Mine.law_holds λV V e=>Mine.law_body e
