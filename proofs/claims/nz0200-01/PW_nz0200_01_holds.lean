import PyProof.Rows.All
import Wide.All
import OpenK.AllK
import Wide.FinOn
import PySem.Challenge.RW_nz0200_01
open PySem PySem.W PyProof.Rows PySem.Spec PySem.Calls
set_option Elab.async false
set_option maxRecDepth 100000
set_option maxHeartbeats 8000000
set_option linter.unusedVariables false
set_option linter.unusedSectionVars false
set_option compiler.extract_closed false
namespace Mine
theorem caught {K:Params→Frag}{as:List Addr}{e:∀ P,as=(K P).map (·.1)}{H:Prop}(k:Hook) (h:k=kHook K as e) (f:∀ as e (k:Hook),k=kHook K as e→False):H:=(f as e k h).elim
theorem well (f:False):PySem.Challenge.rw_nz0200_01.wellSaid=true:=f.elim
section
local macro_rules | `(tactic| o_head $t)=>`(tactic| exact caught $t rfl (by assumption))
noncomputable def tops:(K:Params→Frag) ×' (False→(∀ as e (k:Hook),k=kHook K as e→False)→PySem.Challenge.rw_nz0200_01.Holds):=by
 refine ⟨?_,fun f g=>?_⟩
 rotate_left
 ·refine holds_law (well f) fun said=>?_
  k_head
end
inductive A3 (a b c:Prop):Prop | mk:a→b→c→A3 a b c
inductive A4 (a b c d:Prop):Prop | mk:a→b→c→d→A4 a b c d
inductive A5 (a b c d e:Prop):Prop | mk:a→b→c→d→e→A5 a b c d e
inductive A6 (a b c d e f:Prop):Prop | mk:a→b→c→d→e→f→A6 a b c d e f
inductive A7 (a b c d e f g:Prop):Prop | mk:a→b→c→d→e→f→g→A7 a b c d e f g
inductive A8 (a b c d e f g h:Prop):Prop | mk:a→b→c→d→e→f→g→h→A8 a b c d e f g h
inductive A9 (a b c d e f g h i:Prop):Prop | mk:a→b→c→d→e→f→g→h→i→A9 a b c d e f g h i
inductive A10 (a b c d e f g h i j:Prop):Prop | mk:a→b→c→d→e→f→g→h→i→j→A10 a b c d e f g h i j
inductive A11 (a b c d e f g h i j k:Prop):Prop | mk:a→b→c→d→e→f→g→h→i→j→k→A11 a b c d e f g h i j k
inductive A12 (a b c d e f g h i j k l:Prop):Prop | mk:a→b→c→d→e→f→g→h→i→j→k→l→A12 a b c d e f g h i j k l
inductive X2 {α β:Type}(P:α→β→Prop):Prop | mk (a:α) (b:β) (h:P a b):X2 P
inductive X3 {α β γ:Type}(P:α→β→γ→Prop):Prop | mk (a:α) (b:β) (c:γ) (h:P a b c):X3 P
inductive X4 {α β γ δ:Type}(P:α→β→γ→δ→Prop):Prop | mk (a:α) (b:β) (c:γ) (d:δ) (h:P a b c d):X4 P
inductive X5 {α β γ δ ε:Type}(P:α→β→γ→δ→ε→Prop):Prop | mk (a:α) (b:β) (c:γ) (d:δ) (e:ε) (h:P a b c d e):X5 P
inductive X6 {α β γ δ ε ζ:Type}(P:α→β→γ→δ→ε→ζ→Prop):Prop | mk (a:α) (b:β) (c:γ) (d:δ) (e:ε) (f:ζ) (h:P a b c d e f):X6 P
theorem zk {p:Prop}(h:¬p→False):p:=Classical.byContradiction h
theorem idP {p:Prop}(h:p):p:=h
@[elab_as_elim] theorem rwl {α:Sort _}{a b:α}{P:α→Prop}(h:a=b) (k:P b):P a:=h ▸ k
@[elab_as_elim] theorem rwr {α:Sort _}{a b:α}{P:α→Prop}(h:a=b) (k:P a):P b:=h ▸ k
theorem nb {P:Prop}(h:false=true):P:=by cases h
theorem nt {P:Prop}(h:true=false):P:=by cases h
theorem eo {P:Prop}{α ε:Type}{x:α}{y:ε}(h:Except.error y=Except.ok x):P:=nomatch h
theorem oe {P:Prop}{α ε:Type}{x:α}{y:ε}(h:Except.ok x=Except.error y):P:=nomatch h
theorem ns {P:Prop}{α:Type}{x:α}(h:some x=none):P:=by cases h
theorem nn {P:Prop}{α:Type}{x:α}(h:none=some x):P:=by cases h
inductive AO where
 | inst (C:Addr) (fs:List (Str × Value))
 | seq (tup:Bool) (xs:List Value)
 | raw (P:Obj→Prop)
 | frm (m:Str→Option Value)
 | exc (C:Addr) (fs:List (Str × Value)) (tb:Option Value)
noncomputable def AO.tg:Option AO→Nat
 | none=>0
 | some (.inst C _)=>C+5
 | some (.seq _ _)=>1
 | some (.raw _)=>2
 | some (.frm _)=>3
 | some (.exc _ _ _)=>4
theorem na {x y:Option AO}{P:Prop}(h:x=y) (k:Nat.beq (AO.tg x) (AO.tg y)=false):P:=by
 subst h
 rw [Nat.beq_refl] at k
 exact nt k
noncomputable abbrev Map:=Addr→Option AO
noncomputable abbrev Loc:=Str→Option Value
noncomputable def Map.or (σ τ:Map):Map:=fun a=>(σ a).or (τ a)
noncomputable def Map.set (σ:Map) (a:Addr) (o:AO):Map:=fun b=>if b=a then some o else σ b
noncomputable def Disj (σ τ:Map):Prop:=∀ a,σ a=none∨τ a=none
noncomputable def Ent (e:DictEntry) (f:Str × Value):Prop:=(∃ t,e.key = .str f.1 t)∧e.val=f.2
noncomputable def Ents:List DictEntry→List (Str × Value)→Prop
 | [],[]=>True
 | e :: es,f :: fs=>Ent e f∧Ents es fs
 | _,_=>False
noncomputable def FrmObj (o:Obj) (m:Loc):Prop:=∃ es ep,o.data = .dict es ep∧StrKeys es∧∀ name,nsFind es name=m name
noncomputable def ExcDict (M:Addr→Obj→Prop):Option Addr→List (Str × Value)→Prop
 | none,fs=>fs=[]
 | some d,fs=>∃ es n,M d (dictOf es n)∧Ents es fs
noncomputable def ExcTb (M:Addr→Obj→Prop) (a:Addr) (vs:Array Value):Option Value→Prop
 | none=>vs[1]? = some .none
 | some fl=>∃ T oT ts,vs[1]? = some (.ref T)∧T≠a∧M T oT∧oT.data = .fields ts∧ts[3]? = some fl
noncomputable def ExcRep (M:Addr→Obj→Prop) (a C:Addr) (fs:List (Str × Value)) (tb:Option Value):Prop:=
 ∃ o vs,M a o∧o.cls = .ref C∧o.data = .fields vs∧vs.size=6∧ExcDict M o.dict fs∧ExcTb M a vs tb
theorem ExcRep.mono {M M':Addr→Obj→Prop}{a C:Addr}{fs:List (Str × Value)}{tb:Option Value}(h:ExcRep M a C fs tb) (k:∀ d o,M d o→M' d o):ExcRep M' a C fs tb:=by
 refine zk fun zz=>?_
 obtain ⟨o,vs,h1,h2,h3,h4,h5,h6⟩:=h
 refine zz ?_;clear zz
 refine ⟨o,vs,k _ _ h1,h2,h3,h4,?_,?_⟩
 ·cases q:o.dict with
  | none=>rw [q] at h5;exact h5
  | some d=>rw [q] at h5;obtain ⟨es,n,g1,g2⟩:=h5;exact ⟨es,n,k _ _ g1,g2⟩
 ·cases tb with
  | none=>exact h6
  | some fl=>obtain ⟨T,oT,ts,g1,g2,g3,g4⟩:=h6;exact ⟨T,oT,ts,g1,g2,k _ _ g3,g4⟩
inductive InstR (news:List (Addr × Obj)) (own:Addr→Option Addr) (a:Addr) (C:Addr) (fs:List (Str × Value)):Prop
 | mk (h:own a=some a) (d:Addr) (es:List DictEntry) (n:Nat) (h1:(a,instObj C d)∈news) (h2:(d,dictOf es n)∈news) (h3:own d=some a) (h4:Ents es fs):InstR news own a C fs
inductive RawR (news:List (Addr × Obj)) (own:Addr→Option Addr) (a:Addr) (P:Obj→Prop):Prop
 | mk (h:own a=some a) (o:Obj) (h1:(a,o)∈news) (h2:P o):RawR news own a P
noncomputable def AORep (news:List (Addr × Obj)) (own:Addr→Option Addr) (a:Addr):AO→Prop
 | .inst C fs=>InstR news own a C fs
 | .seq tup xs=>own a=(if tup then none else some a)∧∃ n,(a,({ cls:=.type (if tup then "tuple" else "list"),data:=.seq xs.toArray n }:Obj))∈news
 | .raw P=>RawR news own a P
 | .frm m=>RawR news own a (fun o=>FrmObj o m)
 | .exc C fs tb=>own a=some a∧ExcRep (fun d o=>(d,o)∈news∧own d=some a) a C fs tb
noncomputable def Rep (news:List (Addr × Obj)) (own:Addr→Option Addr) (ρ:Map):Prop:=∀ a ao,ρ a=some ao→AORep news own a ao
structure Gd (K:Frag) where
 p:Program
 loose:List Str
 mg:Str→Option Value
 mb:Str→Option Value
 g:Heap
 fix:Shared
 ok:Prop
 X:ok→K.In g
 T:ok→TopRead p loose mg mb g
local macro_rules | `(tactic| omega)=>`(tactic| first | lia | omega +splitNatSub)
local macro_rules | `(tactic| cases $e:ident)=>`(tactic| first | exact nn $e | exact ns $e | exact nb $e | exact nt $e | exact na $e rfl | exact eo $e | exact oe $e | cases ($e))
noncomputable def prog:Program:=PySem.Challenge.rw_nz0200_01.row.prog
structure Dat where
 w:World
 G:Gd (tops.heap_1 w.params)
noncomputable def Law (w:World) (G:Gd (tops.heap_1 w.params)):Prop:=G.ok→∀ (fa:Addr) (cv:Value) (SC0:Addr) (ys:List Value) (ns:List Int) (h₁:Heap) (tk:Nat),
 G.g.IsList SC0 ys.toArray→IntsAre ys ns→ns.length≤63 →
 ∀ (name qual:Str) (params:Arguments) (body:List Stmt) (scope:Scope) (dV kV doc pm cdv ct oc:Value) (an od:Option Addr) (osl:Array (Option Value)),
 (tops.heap_1 w.params).lookup 781=some ⟨oc,od,.func (fnOf name qual params body scope dV kV doc pm an cdv ct),osl⟩→scope.kind = .function →
 Fr G.g G.g.objs.size h₁ (fun x=>[(("script" : Str),Value.ref SC0)].reverse.lookup x)→∀ (Q:Flow→Shared→Prop) (E:Value→Shared→Prop),
 (∀ h' tk',(∀ b o,G.g.get? b=some o→h'.get? b=some o)→Q (.ret (.bool true)) ⟨h',G.fix.gens,G.fix.drawn,tk',G.fix.os⟩) →
 wpAny (model prog w) (callerA.deeper (envOf qual scope G.g.objs.size fa cv)) (execs body (envOf qual scope G.g.objs.size fa cv)) Q E ⟨h₁,G.fix.gens,G.fix.drawn,tk,G.fix.os⟩
theorem dat_is:Nonempty Dat:=⟨⟨aWorld 1,⟨prog,[],fun _=>none,fun _=>none,default,⟨default,#[],{},0,default⟩,False,False.elim,False.elim⟩⟩⟩
noncomputable def dat:Dat:=@Classical.epsilon Dat dat_is (fun D=>¬ Law D.w D.G)
theorem law_all (h:Law dat.w dat.G) (w:World) (G:Gd (tops.heap_1 w.params)):Law w G:=Classical.byContradiction fun n=>@Classical.epsilon_spec Dat (fun D=>¬ Law D.w D.G) ⟨⟨w,G⟩,n⟩ h
noncomputable def w:World:=dat.w
noncomputable def G:Gd (tops.heap_1 w.params):=dat.G
theorem law_here (h:Law w G):∀ (w:World) (G:Gd (tops.heap_1 w.params)),Law w G:=law_all h
structure Cx where
 dp:Nat
 un:Nat
 gd:Option (List Code)
 hd:Option Value
 qn:Str
 cs:Scope
 fn:Option Addr
 ccd:Value
 cl:List (Str × Addr)
 L:Addr
 fL:Addr
 fr:List Env
 hk:cs.kind = .function
noncomputable abbrev Cx.env (c:Cx):Env:={ scope:=c.cs,locals:=c.L,globals:=mainGlobals,cells:=c.cl,qual:=c.qn,func:=c.fn,code:=c.ccd,frame:=some c.fL,builtins:=builtinsNs }
noncomputable abbrev Cx.A (c:Cx):Around:={ handled:=c.hd,depth:=c.dp,frames:=some c.fr,guards:=c.gd,units:=c.un }
noncomputable abbrev OutOk {K:Frag} (G:Gd K) (c:Cx) (ρ:Map)   : Prop:=G.ok∧∀ env∈c.fr,env.scope.kind = .function∧∃ L',env.frame=some L'∧G.g.objs.size≤L'∧(L'=c.L∨∃ m,ρ L'=some (.frm m))
structure Led {K:Frag}(G:Gd K) (c:Cx) (m:Loc) (ρ:Map) (h:Heap) (news:List (Addr × Obj)) (own:Addr→Option Addr):Prop where
 F:Fr G.g c.L h m
 N:News G.g c.L h news
 nd:(news.map (·.1)).Nodup
 R:Rep news own ρ
 O:OutOk G c ρ
inductive St {K:Frag}(G:Gd K) (c:Cx) (m:Loc) (ρ:Map) (s:Shared):Prop
 | mk (h:Heap) (tk:Nat) (news:List (Addr × Obj)) (own:Addr→Option Addr) (e:s=⟨h,G.fix.gens,G.fix.drawn,tk,G.fix.os⟩) (l:Led G c m ρ h news own):St G c m ρ s
inductive Po {α:Type}{K:Frag}(G:Gd K) (c:Cx) (τ:Map) (Q:α→Loc→Map→Prop) (v:α) (s':Shared):Prop
 | mk (m':Loc) (σ':Map) (hd:Disj σ' τ) (hs:St G c m' (σ'.or τ) s') (q:Q v m' σ'):Po G c τ Q v s'
@[elab_as_elim] theorem St.on {K:Frag}{G:Gd K}{c:Cx}{m:Loc}{ρ:Map}{P:Shared→Prop}{s:Shared}(h:St G c m ρ s)
 (k:∀ h tk news own,St G c m ρ ⟨h,G.fix.gens,G.fix.drawn,tk,G.fix.os⟩→Led G c m ρ h news own→P ⟨h,G.fix.gens,G.fix.drawn,tk,G.fix.os⟩):P s:=by
 obtain ⟨h,tk,news,own,rfl,l⟩:=h
 exact k h tk news own ⟨h,tk,news,own,rfl,l⟩ l
theorem eps {α:Type}(P:α→Prop) {n:Nonempty α}(k:P (@Classical.epsilon α n fun x=>¬ P x)) (x:α):P x:=Classical.byContradiction fun h=>@Classical.epsilon_spec α (fun x=>¬ P x) ⟨x,h⟩ k
noncomputable def dCx:Cx:=⟨0,0,none,none,"",{ kind:=.function,names:=[],isGenerator:=false,isCoroutine:=false },none,.none,[],0,0,[],rfl⟩
structure Fly where
 up:Cx→Value→Str→Map→Shared→Prop
section
variable {α β:Type}
inductive XH (Y:Fly) (c:Cx) (τ:Map) (X:Str→Map→Prop) (e:Value) (s:Shared):Prop
 | mk (d:Str) (σ':Map) (hd:Disj σ' τ) (h:Y.up c e d (σ'.or τ) s) (x:X d σ'):XH Y c τ X e s
theorem Po.on {c:Cx}{K:Frag}{G:Gd K}{τ:Map}{Q:α→Loc→Map→Prop}{v:α}{s':Shared}{p:Prop}(h:Po G c τ Q v s') (k:∀ m' σ',Disj σ' τ→St G c m' (σ'.or τ) s'→Q v m' σ'→p):p:=by
 obtain ⟨m',σ',a,b,q⟩:=h
 exact k m' σ' a b q
theorem XH.on {Y:Fly}{c:Cx}{X:Str→Map→Prop}{τ:Map}{e:Value}{s:Shared}{p:Prop}(h:XH Y c τ X e s) (k:∀ d σ',Disj σ' τ→Y.up c e d (σ'.or τ) s→X d σ'→p):p:=by
 obtain ⟨d,σ',a,b,q⟩:=h
 exact k d σ' a b q
theorem XH.no {Y:Fly}{c:Cx}{τ:Map}{e:Value}{s:Shared}{p:Prop}(h:XH Y c τ (fun _ _=>False) e s):p:=h.on fun _ _ _ _ z=>z.elim
structure POK (prog:Program) (w:World) {K:Frag}(G:Gd K) (Y:Fly) (c:Cx) (t:Sem α) (m:Loc) (σ:Map) (Q:α→Loc→Map→Prop) (X:Str→Map→Prop):Prop where
 go:∀ τ s,Disj σ τ→St G c m (σ.or τ) s→wpAny (model prog w) c.A t (Po G c τ Q) (XH Y c τ X) s
variable {Y:Fly}{c:Cx}{X:Str→Map→Prop}{m:Loc}{σ τ:Map}
theorem POK.of {t:Sem α}{Q:α→Loc→Map→Prop}(h:∀ τ s,Disj σ τ→St G c m (σ.or τ) s→wpAny (model prog w) c.A t (Po G c τ Q) (XH Y c τ X) s) :
 POK prog w G Y c t m σ Q X:=⟨h⟩
theorem POK.goAs {t:Sem α}{Q':β→Loc→Map→Prop}{g:α→β}(h:POK prog w G Y c t m σ (fun v=>Q' (g v)) X) (τ:Map) (s:Shared) (hd:Disj σ τ) (hs:St G c m (σ.or τ) s) :
 wpAny (model prog w) c.A t (fun v s'=>Po G c τ Q' (g v) s') (XH Y c τ X) s:=wpAny_mono (h.go τ s hd hs) (fun v s' z=>z.on fun m' σ' a b q=>⟨m',σ',a,b,q⟩) fun _ _ x=>x
theorem POK.wp {t:Sem α}{Q:α→Loc→Map→Prop}(h:POK prog w G Y c t m σ Q X) {s:Shared}(hd:Disj σ τ) (hs:St G c m (σ.or τ) s) {Q':α→Shared→Prop}
 (k:∀ v s' m' σ',Disj σ' τ→St G c m' (σ'.or τ) s'→Q v m' σ'→Q' v s'):wpAny (model prog w) c.A t Q' (XH Y c τ X) s:=
 wpAny_mono (h.go τ s hd hs) (fun v s' z=>z.on fun m' σ' a b q=>k v s' m' σ' a b q) fun _ _ x=>x
theorem POK.wpAs {t:Sem α}{m':Loc}{σ':Map}(h:POK prog w G Y c t m σ (fun _ m₂ σ₂=>m₂=m'∧σ₂=σ') (fun _ _=>False)) {s:Shared}(hd:Disj σ τ) (hs:St G c m (σ.or τ) s) {Q':α→Shared→Prop}{E:Value→Shared→Prop}
 (k:∀ v s',Disj σ' τ→St G c m' (σ'.or τ) s'→Q' v s'):wpAny (model prog w) c.A t Q' E s:=
 wpAny_mono (h.go τ s hd hs) (fun v s' z=>z.on fun m₂ σ₂ a b q=>k v s' (q.2 ▸ a) (q.1 ▸ q.2 ▸ b)) fun _ _ z=>z.no
theorem POK.wpIs {t:Sem α}{x:α}{m':Loc}{σ':Map}(h:POK prog w G Y c t m σ (fun v m₂ σ₂=>v=x∧m₂=m'∧σ₂=σ') (fun _ _=>False)) {s:Shared}(hd:Disj σ τ) (hs:St G c m (σ.or τ) s) {Q':α→Shared→Prop}{E:Value→Shared→Prop}
 (k:∀ s',Disj σ' τ→St G c m' (σ'.or τ) s'→Q' x s'):wpAny (model prog w) c.A t Q' E s:=
 wpAny_mono (h.go τ s hd hs) (fun v s' z=>z.on fun m₂ σ₂ a b q=>q.1 ▸ k s' (q.2.2 ▸ a) (q.2.1 ▸ q.2.2 ▸ b)) fun _ _ z=>z.no
theorem POK.gen {t:Sem α}{Q:α→Loc→Map→Prop}(h:∀ Q':α→Loc→Map→Prop,(∀ v m' σ',Q v m' σ'→Q' v m' σ')→POK prog w G Y c t m σ Q' X):POK prog w G Y c t m σ Q X:=h Q fun _ _ _ x=>x
theorem POK.pure {a:α}{Q:α→Loc→Map→Prop}(h:Q a m σ):POK prog w G Y c (pure a) m σ Q X:=.of fun _ _ hd hs=>wpAny_pure ⟨m,σ,hd,hs,h⟩
theorem POK.mono {t:Sem α}{Q Q':α→Loc→Map→Prop}{X':Str→Map→Prop}(h:POK prog w G Y c t m σ Q X) (hQ:∀ v m' σ',Q v m' σ'→Q' v m' σ') (hX:∀ d σ',X d σ'→X' d σ'):POK prog w G Y c t m σ Q' X':=
 .of fun τ s hd hs=>wpAny_mono (h.go τ s hd hs) (fun v s' z=>z.on fun m' σ' a b q=>⟨m',σ',a,b,hQ _ _ _ q⟩) fun e s' z=>z.on fun d σ' a b q=>⟨d,σ',a,b,hX _ _ q⟩
end
section
variable {c:Cx}{m:Loc}{ρ σ τ:Map}{h h':Heap}{news:List (Addr × Obj)}{own:Addr→Option Addr}
theorem mem_same {news:List (Addr × Obj)}(nd:(news.map (·.1)).Nodup) {a:Addr}{o o':Obj}(h1:(a,o)∈news) (h2:(a,o')∈news):o=o':=by
 induction news with
 | nil=>cases h1
 | cons q r ih=>
  simp only [List.map_cons,List.nodup_cons] at nd
  rcases List.mem_cons.mp h1 with e1 | e1 <;> rcases List.mem_cons.mp h2 with e2 | e2
  ·rw [← e1] at e2;exact (Prod.mk.inj e2).2.symm
  ·exact absurd (List.mem_map_of_mem e2) (by rw [← e1] at nd;exact nd.1)
  ·exact absurd (List.mem_map_of_mem e1) (by rw [← e2] at nd;exact nd.1)
  ·exact ih nd.2 e1 e2
noncomputable def putO (d:Addr) (o':Obj) (news:List (Addr × Obj)):List (Addr × Obj):=news.map fun q=>if q.1=d then (d,o') else q
theorem putO_keys (d:Addr) (o':Obj) (news:List (Addr × Obj)):(putO d o' news).map (·.1)=news.map (·.1):=by
 unfold putO
 rw [List.map_map]
 refine List.map_congr_left fun q _=>?_
 by_cases e:q.1=d <;> simp [e]
theorem jx {d b:Addr}{o o':Obj}{news:List (Addr × Obj)}(h:(b,o)∈news) (hne:b≠d):(b,o)∈putO d o' news:=
 List.mem_map.mpr ⟨(b,o),h,by simp [hne]⟩
theorem z8 {d:Addr}{o o':Obj}{news:List (Addr × Obj)}(h:(d,o)∈news):(d,o')∈putO d o' news:=
 List.mem_map.mpr ⟨(d,o),h,by simp⟩
theorem putO_id {d:Addr}{o':Obj}:∀ {news:List (Addr × Obj)},(∀ q∈news,q.1≠d)→putO d o' news=news
 | [],_=>rfl
 | q :: r,h=>by
  have h1:=h q (.head _)
  show (if q.1=d then (d,o') else q) :: putO d o' r=q :: r
  rw [if_neg h1,putO_id fun x hx=>h x (.tail _ hx)]
theorem upd_of {d:Addr}{o o':Obj}{news:List (Addr × Obj)}(nd:(news.map (·.1)).Nodup) (h:(d,o)∈news):Upd d o o' news (putO d o' news):=by
 induction news with
 | nil=>exact absurd h List.not_mem_nil
 | cons q r ih=>
  have nd:=List.nodup_cons.mp nd
  by_cases e:q.1=d
  ·have hr:∀ x∈r,x.1≠d:=fun x hx z=>nd.1 (List.mem_map.mpr ⟨x,hx,z.trans e.symm⟩)
   have hq:(d,o)=q:=(List.mem_cons.mp h).resolve_right fun e1=>absurd rfl (hr _ e1)
   subst hq
   show Upd d o o' ((d,o) :: r) ((if (d,o).1=d then (d,o') else (d,o)) :: putO d o' r)
   rw [if_pos rfl,putO_id hr]
   exact .head hr
  ·show Upd d o o' (q :: r) ((if q.1=d then (d,o') else q) :: putO d o' r)
   rw [if_neg e]
   exact .tail e (ih nd.2 ((List.mem_cons.mp h).resolve_left fun e1=>e (by rw [← e1])))
theorem AORep.keep {d a:Addr}{o':Obj}{ao:AO}(h:AORep news own a ao) (hd:own d≠some a) (hd2:own d≠none):AORep (putO d o' news) own a ao:=by
 cases ao with
 | inst C fs=>
  refine zk fun zz=>?_
  obtain ⟨h1,e,es,n,h2,h3,h4,h5⟩:=h
  refine zz ?_;clear zz
  exact ⟨h1,e,es,n,jx h2 (fun z=>hd (z ▸ h1)),jx h3 (fun z=>hd (z ▸ h4)),h4,h5⟩
 | seq tup xs=>
  refine zk fun zz=>?_
  obtain ⟨h1,n,h2⟩:=h
  refine zz ?_;clear zz
  refine ⟨h1,n,jx h2 fun z=>?_⟩
  subst z
  cases tup
  ·exact hd h1
  ·exact hd2 h1
 | raw P=>
  refine zk fun zz=>?_
  obtain ⟨h1,o,h2,h3⟩:=h
  refine zz ?_;clear zz
  exact ⟨h1,o,jx h2 (fun z=>hd (z ▸ h1)),h3⟩
 | frm P=>
  refine zk fun zz=>?_
  obtain ⟨h1,o,h2,h3⟩:=h
  refine zz ?_;clear zz
  exact ⟨h1,o,jx h2 (fun z=>hd (z ▸ h1)),h3⟩
 | exc C fs tb=>exact ⟨h.1,h.2.mono fun x o ⟨h1,h2⟩=>⟨jx h1 (fun z=>hd (z ▸ h2)),h2⟩⟩
theorem Rep.put {d a:Addr}{o':Obj}{ao:AO}(R:Rep news own ρ) (hd:own d=some a) (hn:AORep (putO d o' news) own a ao):Rep (putO d o' news) own (ρ.set a ao):=by
 intro b bo hb
 unfold Map.set at hb
 by_cases e:b=a
 ·rw [if_pos e] at hb
  first | exact nb hb | exact nt hb | cases hb
  exact e ▸ hn
 ·rw [if_neg e] at hb
  exact (R b bo hb).keep (fun z=>e (Option.some.inj (z.symm.trans hd))) (by rw [hd];exact fun z=>nomatch z)
theorem AORep.more {a d:Addr}{o:Obj}{ao:AO}{x:Option Addr}(h:AORep news own a ao) (hd:∀ q∈news,q.1≠d):AORep ((d,o) :: news) (fun b=>if b=d then x else own b) a ao:=by
 have k:∀ {b:Addr} {o:Obj},(b,o)∈news→(if b=d then x else own b)=own b:=fun hb=>if_neg (hd _ hb)
 cases ao with
 | inst C fs=>
  refine zk fun zz=>?_
  obtain ⟨h1,e,es,n,h2,h3,h4,h5⟩:=h
  refine zz ?_;clear zz
  exact ⟨(k h2).trans h1,e,es,n,.tail _ h2,.tail _ h3,(k h3).trans h4,h5⟩
 | seq tup xs=>
  refine zk fun zz=>?_
  obtain ⟨h1,n,h2⟩:=h
  refine zz ?_;clear zz
  exact ⟨(k h2).trans h1,n,.tail _ h2⟩
 | raw P=>
  refine zk fun zz=>?_
  obtain ⟨h1,o,h2,h3⟩:=h
  refine zz ?_;clear zz
  exact ⟨(k h2).trans h1,o,.tail _ h2,h3⟩
 | frm P=>
  refine zk fun zz=>?_
  obtain ⟨h1,o,h2,h3⟩:=h
  refine zz ?_;clear zz
  exact ⟨(k h2).trans h1,o,.tail _ h2,h3⟩
 | exc C fs tb=>
  refine zk fun zz=>?_
  obtain ⟨h1,h2⟩:=h
  obtain ⟨o,vs,⟨g1,g2⟩,_⟩:=id h2
  refine zz ?_;clear zz
  exact ⟨(k g1).trans h1,h2.mono fun x o ⟨h1,h2⟩=>⟨.tail _ h1,(k h1).trans h2⟩⟩
theorem AORep.at {a:Addr}{ao:AO}(h:AORep news own a ao):∃ o,(a,o)∈news:=by
 cases ao with
 | inst C fs=>obtain ⟨h1,e,es,n,h2,_⟩:=h;exact ⟨_,h2⟩
 | seq tup xs=>obtain ⟨h1,n,h2⟩:=h;exact ⟨_,h2⟩
 | raw P=>obtain ⟨h1,o,h2,_⟩:=h;exact ⟨_,h2⟩
 | frm P=>obtain ⟨h1,o,h2,_⟩:=h;exact ⟨_,h2⟩
 | exc C fs tb=>obtain ⟨_,o,vs,⟨h1,_⟩,_⟩:=h;exact ⟨_,h1⟩
theorem Rep.new {d:Addr}{o:Obj}{ao:AO}{x:Option Addr}(R:Rep news own ρ) (hd:∀ q∈news,q.1≠d) (hn:AORep ((d,o) :: news) (fun b=>if b=d then x else own b) d ao) :
 ρ d=none∧Rep ((d,o) :: news) (fun b=>if b=d then x else own b) (ρ.set d ao):=by
 have h0:ρ d=none:=by
  cases q:ρ d with
  | none=>rfl
  | some ao'=>obtain ⟨o',h'⟩:=(R d ao' q).at;exact absurd rfl (hd _ h')
 refine ⟨h0,fun b bo hb=>?_⟩
 unfold Map.set at hb
 by_cases e:b=d
 ·rw [if_pos e] at hb
  first | exact nb hb | exact nt hb | cases hb
  exact e ▸ hn
 ·rw [if_neg e] at hb
  exact (R b bo hb).more hd
theorem jW {d:Addr}{o:Obj}(nd:(news.map (·.1)).Nodup) (hd:∀ q∈news,q.1≠d):(((d,o) :: news).map (·.1)).Nodup:=by
 rw [List.map_cons,List.nodup_cons]
 exact ⟨fun hm=>by obtain ⟨q,hq,e⟩:=List.mem_map.mp hm;exact hd q hq e,nd⟩
theorem Map.set_or {a:Addr}{ao:AO}:(σ.set a ao).or τ=(σ.or τ).set a ao:=by
 funext b
 unfold Map.or Map.set
 by_cases e:b=a <;> simp [e]
theorem Disj.set {a:Addr}{ao:AO}(h:Disj σ τ) (ha:τ a=none):Disj (σ.set a ao) τ:=fun b=>by
 unfold Map.set
 by_cases e:b=a
 ·subst e;exact .inr ha
 ·rw [if_neg e];exact h b
theorem Disj.none_of {a:Addr}{ao:AO}(h:Disj σ τ) (ha:σ a=some ao):τ a=none:=(h a).resolve_left (by rw [ha];exact fun z=>nomatch z)
theorem Map.or_none {a:Addr}(h:(σ.or τ) a=none):σ a=none∧τ a=none:=by
 unfold Map.or at h
 cases q:σ a with
 | none=>rw [q] at h;exact ⟨rfl,by simpa using h⟩
 | some x=>rw [q] at h;simp at h
theorem Map.or_some {a:Addr}{ao:AO}(h:σ a=some ao):(σ.or τ) a=some ao:=by unfold Map.or;rw [h];rfl
theorem Map.or_eq {a:Addr}(h:σ a=none):(σ.or τ) a=τ a:=by unfold Map.or;rw [h];rfl
theorem Map.set_self {a:Addr}{ao:AO}:σ.set a ao a=some ao:=if_pos rfl
theorem Map.set_ne {a b:Addr}{ao:AO}(h:b≠a):σ.set a ao b=σ b:=if_neg h
end
noncomputable def nix (e:PySem.Expr) (k:Nat):Bool:=!(Nat.beq e.ctorIdx k)
@[reducible] noncomputable def SArg (e:PySem.Expr):Prop:=true=nix e 22
noncomputable def sArgs (l:List PySem.Expr):Bool:=l.all fun e=>nix e 22
@[reducible] noncomputable def SArgs (l:List PySem.Expr):Prop:=true=sArgs l
@[reducible] noncomputable def SSub (e:PySem.Expr):Prop:=true=nix e 26
@[reducible] noncomputable def SVal (e:PySem.Expr):Prop:=true=(nix e 8 && nix e 9 && nix e 10)
@[reducible] noncomputable def SOp (op:CmpOp) (r:PySem.Expr):Prop:=false=behindInMarks op r
@[reducible] noncomputable def STest (e:PySem.Expr):Prop:=true=(nix e 3 && nix e 0 && nix e 5 && nix e 15)
@[reducible] noncomputable def SFun (e:PySem.Expr):Prop:=true=nix e 20
@[reducible] noncomputable def SObj (e:PySem.Expr):Prop:=true=nix e 16
inductive EF (e:PySem.Expr) (env:Env):Prop
 | mk (arg:SArg e→∀ rest:List PySem.Expr,starEach (e :: rest) env=(false,eval e env) :: starEach rest env)
  (sub:SSub e→∀ o i,subscripted e false o i=operate [o,i] (getItem o i))
  (val:SVal e→∀ t l,swapsWith e t l env=pure false)
  (at_:∀ o a p l,swapsWith e (some (.Attribute o a p)) l env=pure false)
  (sb:∀ o i p l,swapsWith e (some (.Subscript o i p)) l env=pure false)
  (tst:STest e→∀ whole,PySem.isTrue e env whole=(do let v ← whole;standAt e.pos;holding [v] (truthy v)))
  (fn:SFun e→∀ args pos,eval (.Call e args [] pos) env=(do callWith pos (← eval e env) [] (backTo pos (starEach args env)) (backToKw pos (keywordEach [] env))))
  (obj:SObj e→∀ attr pos,eval (.Attribute e attr pos) env=(do
   let o ← eval e env
   standAt pos.atName
   let r ← holding [o] (getAttr o attr true)
   letTemporaryGo e o r
   pure r)):EF e env
theorem ef (e:PySem.Expr) (env:Env):EF e env:=by
 cases e <;> exact ⟨(by first | exact fun _ _=>rfl | exact fun h=>nt h),(by first | exact fun _ _ _=>rfl | exact fun h=>nt h),(by first | exact fun _ _ _=>rfl | exact fun h=>nt h),fun _ _ _ _=>rfl,fun _ _ _ _=>rfl,(by first | exact fun _ _=>rfl | exact fun h=>nt h),(by first | exact fun _ _ _=>rfl | exact fun h=>nt h),(by first | exact fun _ _ _=>rfl | exact fun h=>nt h)⟩
theorem sArg_eq {e:PySem.Expr}(h:SArg e) {rest:List PySem.Expr}{env:Env}:starEach (e :: rest) env=(false,eval e env) :: starEach rest env:=by
 cases ef e env with | mk k=>exact k h rest
theorem sArgs_eq {l:List PySem.Expr}(h:SArgs l) {pos:Pos}{env:Env}:(backTo pos (starEach l env)).any (·.1)=false:=by
 induction l with
 | nil=>rfl
 | cons e r ih=>
  have h':=Bool.and_eq_true_iff.mp h.symm
  rw [sArg_eq h'.1.symm]
  exact ih h'.2.symm
theorem sSub_eq {e:PySem.Expr}(h:SSub e) {o i:Value}:subscripted e false o i=operate [o,i] (getItem o i):=by
 cases ef e default with | mk _ k=>exact k h o i
theorem sVal_eq {e:PySem.Expr}(h:SVal e) {t:Option PySem.Expr}{l:Nat}{env:Env}:swapsWith e t l env=pure false:=by
 cases ef e env with | mk _ _ k=>exact k h t l
theorem sAt_eq {e o:PySem.Expr}{a:Str}{p:Pos}{l:Nat}{env:Env}:swapsWith e (some (.Attribute o a p)) l env=pure false:=by
 cases ef e env with | mk _ _ _ k=>exact k o a p l
theorem sSb_eq {e o i:PySem.Expr}{p:Pos}{l:Nat}{env:Env}:swapsWith e (some (.Subscript o i p)) l env=pure false:=by
 cases ef e env with | mk _ _ _ _ k=>exact k o i p l
theorem sTest_eq {e:PySem.Expr}(h:STest e) {env:Env}{whole:Sem Value}:PySem.isTrue e env whole=(do let v ← whole;standAt e.pos;holding [v] (truthy v)):=by
 cases ef e env with | mk _ _ _ _ _ k=>exact k h whole
theorem sFun_eq {func:PySem.Expr}(h:SFun func) {args:List PySem.Expr}{pos:Pos}{env:Env}:eval (.Call func args [] pos) env=(do callWith pos (← eval func env) [] (backTo pos (starEach args env)) (backToKw pos (keywordEach [] env))):=by
 cases ef func env with | mk _ _ _ _ _ _ k=>exact k h args pos
theorem sObj_eq {value:PySem.Expr}(h:SObj value) {attr:Str}{pos:Pos}{env:Env}:eval (.Attribute value attr pos) env=(do
 let o ← eval value env
 standAt pos.atName
 let r ← holding [o] (getAttr o attr true)
 letTemporaryGo value o r
 pure r):=by
 cases ef value env with | mk _ _ _ _ _ _ _ k=>exact k h attr pos
@[reducible] noncomputable def SLoc (x:Str) (c:Cx):Prop:=some NameKind.local=c.env.kindOf x
@[reducible] noncomputable def SGlo (x:Str) (c:Cx):Prop:=some NameKind.globalImplicit=c.env.kindOf x
@[reducible] noncomputable def SCall (o:PySem.Expr) (name:Str) (apos:Pos) (args:List PySem.Expr) (pos:Pos) (c:Cx):Prop:=eval (.Call (.Attribute o name apos) args [] pos) c.env=(do
 let ov ← eval o c.env
 standAt apos.atName
 let (f,first) ← holding [ov] (getMethod ov name (do return (← importBound o c.env).getD true))
 callWith pos f first (backTo pos (starEach args c.env)) [])
theorem inter_no (c:Cx):interactive c.env=false:=by
 unfold interactive
 rw [show c.env.scope.kind = .function from c.hk]
 rfl
@[reducible] noncomputable def ConsQ {α:Type}(v:α) (Q:List α→Loc→Map→Prop):List α→Loc→Map→Prop:=fun vs=>Q (v :: vs)
@[reducible] noncomputable def ConQ {α β:Type}(a:β) (Q:β→Loc→Map→Prop):α→Loc→Map→Prop:=fun _=>Q a
@[reducible] noncomputable def RetQ (Q:Flow→Loc→Map→Prop):Value→Loc→Map→Prop:=fun v=>Q (.ret v)
@[reducible] noncomputable def Thn (prog:Program) (w:World) {K:Frag}(G:Gd K) (Y:Fly) {α β:Type}(f:Cx→α→Sem β) (c:Cx) (X:Str→Map→Prop) (Q:β→Loc→Map→Prop):α→Loc→Map→Prop:=fun v m' σ'=>POK prog w G Y c (f c v) m' σ' Q X
@[reducible] noncomputable def Thn2 (prog:Program) (w:World) {K:Frag}(G:Gd K) (Y:Fly) {α β γ:Type}(t:Cx→Sem β) (f:Cx→α→β→Sem γ) (c:Cx) (X:Str→Map→Prop) (Q:γ→Loc→Map→Prop):α→Loc→Map→Prop:=fun v m' σ'=>POK prog w G Y c (t c) m' σ' (Thn prog w G Y (fun c b=>f c v b) c X Q) X
@[reducible] noncomputable def Thn3 (prog:Program) (w:World) {K:Frag}(G:Gd K) (Y:Fly) {α β γ δ:Type}(t:Cx→Sem β) (u:Cx→Sem γ) (f:Cx→α→β→γ→Sem δ) (c:Cx) (X:Str→Map→Prop) (Q:δ→Loc→Map→Prop):α→Loc→Map→Prop:=fun v m' σ'=>POK prog w G Y c (t c) m' σ' (Thn2 prog w G Y u (fun c b=>f c v b) c X Q) X
@[reducible] noncomputable def ArgK (prog:Program) (w:World) {K:Frag}(G:Gd K) (Y:Fly) (pos:Pos) (rest:List PySem.Expr) (c:Cx) (X:Str→Map→Prop) (Q:List Value→Loc→Map→Prop):Value→Loc→Map→Prop:=fun v m' σ'=>POK prog w G Y c (spliced (backTo pos (starEach rest c.env))) m' σ' (ConsQ v Q) X
@[reducible] noncomputable def CallK (prog:Program) (w:World) {K:Frag}(G:Gd K) (Y:Fly) (f:Value) (first:List Value) (c:Cx) (X:Str→Map→Prop) (Q:Value→Loc→Map→Prop):List Value→Loc→Map→Prop:=fun vs m' σ'=>POK prog w G Y c (call f (first ++ vs)) m' σ' Q X
@[reducible] noncomputable def MethK (prog:Program) (w:World) {K:Frag}(G:Gd K) (Y:Fly) (pos:Pos) (args:List PySem.Expr) (c:Cx) (X:Str→Map→Prop) (Q:Value→Loc→Map→Prop) (fx:Value × List Value) (m':Loc) (σ':Map):Prop:=Prod.rec (motive:=fun _=>Prop) (fun f l=>POK prog w G Y c (callWith pos f l (backTo pos (starEach args c.env)) []) m' σ' Q X) fx
@[reducible] noncomputable def SeqK (prog:Program) (w:World) {K:Frag}(G:Gd K) (Y:Fly) (rest:List Stmt) (c:Cx) (X:Str→Map→Prop) (Q:Flow→Loc→Map→Prop):Flow→Loc→Map→Prop:=fun f m' σ'=>match f with | .next=>POK prog w G Y c (execs rest c.env) m' σ' Q X | f=>Q f m' σ'
@[reducible] noncomputable def AndK (prog:Program) (w:World) {K:Frag}(G:Gd K) (Y:Fly) (rest:List PySem.Expr) (pos:Pos) (whole:Sem Value) (c:Cx) (X:Str→Map→Prop) (Q:Bool→Loc→Map→Prop):Bool→Loc→Map→Prop:=fun b m' σ'=>(b=true→POK prog w G Y c (PySem.isTrue (.BoolOp .And rest pos) c.env whole) m' σ' Q X)∧(b=false→Q false m' σ')
@[reducible] noncomputable def OrK (prog:Program) (w:World) {K:Frag}(G:Gd K) (Y:Fly) (rest:List PySem.Expr) (pos:Pos) (whole:Sem Value) (c:Cx) (X:Str→Map→Prop) (Q:Bool→Loc→Map→Prop):Bool→Loc→Map→Prop:=fun b m' σ'=>(b=true→Q true m' σ')∧(b=false→POK prog w G Y c (PySem.isTrue (.BoolOp .Or rest pos) c.env whole) m' σ' Q X)
@[reducible] noncomputable def IfK (prog:Program) (w:World) {K:Frag}(G:Gd K) (Y:Fly) {α:Type}(body orelse:Cx→Sem α) (c:Cx) (X:Str→Map→Prop) (Q:α→Loc→Map→Prop):Bool→Loc→Map→Prop:=fun b m' σ'=>(b=true→POK prog w G Y c (body c) m' σ' Q X)∧(b=false→POK prog w G Y c (orelse c) m' σ' Q X)
@[reducible] noncomputable def MkQ (x:Addr) (Q:Value→Loc→Map→Prop):Value→Loc→Map→Prop:=fun v m' σ'=>v = .none∧Q (.ref x) m' σ'
@[reducible] noncomputable def JnQ (J:Loc→Map→Prop):Flow→Loc→Map→Prop:=fun f m' σ'=>f = .next∧J m' σ'
section
variable {Y:Fly}{c:Cx}{X:Str→Map→Prop}{m:Loc}{σ τ:Map}{α β:Type}
theorem St.toks {ρ:Map}{s:Shared}(h:St G c m ρ s) (k:Nat):St G c m ρ { s with toks:=k }:=by
 refine St.on h fun h tk news own _ l=>?_
 exact ⟨h,k,news,own,rfl,l⟩
theorem zc {Y:Fly}{c:Cx}{X:Str→Map→Prop}{pos:Pos}{m:Loc}{σ:Map}{Q:List Value→Loc→Map→Prop}(h:Q [] m σ):POK prog w G Y c (spliced (backTo pos (starEach [] c.env))) m σ Q X:=
 .of fun τ s hd hs=>PyProof.Rows.args_nil ⟨m,σ,hd,hs,h⟩
theorem za {Y:Fly}{c:Cx}{X:Str→Map→Prop}{pos:Pos}{e:PySem.Expr}{rest:List PySem.Expr}{m:Loc}{σ:Map}{Q:List Value→Loc→Map→Prop}(h:POK prog w G Y c (eval e c.env) m σ (ArgK prog w G Y pos rest c X Q) X) (he:SArg e:=by kernel_rfl):POK prog w G Y c (spliced (backTo pos (starEach (e :: rest) c.env))) m σ Q X:=
 .of fun τ s hd hs=>PyProof.Rows.args_cons (h.wp hd hs fun v s' m' σ' a b q=>q.goAs (Q':=Q) (g:=fun vs=>v :: vs) τ s' a b) (sArg_eq he)
theorem zD {Y:Fly}{c:Cx}{X:Str→Map→Prop}{pos:Pos}{m:Loc}{σ:Map}{Q:Value→Loc→Map→Prop}{i:Int}{k:Nat}(h:∀ t,Q (.int i t) m σ):POK prog w G Y c (eval (.Constant (.int i) k pos) c.env) m σ Q X:=
 .of fun τ s hd hs=>wpAny_Constant_int ⟨m,σ,hd,hs.toks _,h _⟩
theorem zo {Y:Fly}{c:Cx}{X:Str→Map→Prop}{pos:Pos}{m:Loc}{σ:Map}{Q:Value→Loc→Map→Prop}{x:Str}{k:Nat}(h:∀ t,Q (.str x t) m σ):POK prog w G Y c (eval (.Constant (.str x) k pos) c.env) m σ Q X:=
 .of fun τ s hd hs=>Constant_str ⟨m,σ,hd,hs.toks _,h _⟩
theorem zA {Y:Fly}{c:Cx}{X:Str→Map→Prop}{pos:Pos}{m:Loc}{σ:Map}{Q:Value→Loc→Map→Prop}{k:Nat}(h:Q .none m σ):POK prog w G Y c (eval (.Constant .none k pos) c.env) m σ Q X:=
 .of fun τ s hd hs=>Constant_none ⟨m,σ,hd,hs,h⟩
theorem P_boolC {Y:Fly}{c:Cx}{X:Str→Map→Prop}{pos:Pos}{m:Loc}{σ:Map}{Q:Value→Loc→Map→Prop}{b:Bool}{k:Nat}(h:Q (.bool b) m σ):POK prog w G Y c (eval (.Constant (.bool b) k pos) c.env) m σ Q X:=
 .of fun τ s hd hs=>Constant_bool ⟨m,σ,hd,hs,h⟩
theorem P_unop {Y:Fly}{c:Cx}{X:Str→Map→Prop}{op:PySem.UnaryOp}{e:PySem.Expr}{pos:Pos}{m:Loc}{σ:Map}{Q:Value→Loc→Map→Prop}(h:POK prog w G Y c (eval e c.env) m σ (Thn prog w G Y (fun _=>unaryOp op) c X Q) X) :
 POK prog w G Y c (eval (.UnaryOp op e pos) c.env) m σ Q X:=.of fun τ s hd hs=>UnaryOp_ (h.wp hd hs fun v s' m' σ' a b q=>q.go τ s' a b)
theorem zG {Y:Fly}{c:Cx}{X:Str→Map→Prop}{op:PySem.Operator}{l r:PySem.Expr}{pos:Pos}{m:Loc}{σ:Map}{Q:Value→Loc→Map→Prop}(h:POK prog w G Y c (eval l c.env) m σ (Thn2 prog w G Y (fun c=>eval r c.env) (fun _=>binaryOp op) c X Q) X) :
 POK prog w G Y c (eval (.BinOp l op r pos) c.env) m σ Q X:=
 .of fun τ s hd hs=>wpAny_BinOp (h.wp hd hs fun v s' m' σ' a b q=>q.wp a b fun v₂ s₂ m₂ σ₂ a₂ b₂ q₂=>q₂.go τ s₂ a₂ b₂)
theorem P_cmp {Y:Fly}{c:Cx}{X:Str→Map→Prop}{op:CmpOp}{l r:PySem.Expr}{pos:Pos}{m:Loc}{σ:Map}{Q:Value→Loc→Map→Prop}(h:POK prog w G Y c (eval l c.env) m σ (Thn2 prog w G Y (fun c=>eval r c.env) (fun _=>compareOp op) c X Q) X) (hm:SOp op r:=by kernel_rfl):POK prog w G Y c (eval (.Compare l [op] [r] pos) c.env) m σ Q X:=
 .of fun τ s hd hs=>wpAny_Compare1 (h.wp hd hs fun v s' m' σ' a b q=>q.wp a b fun v₂ s₂ m₂ σ₂ a₂ b₂ q₂=>q₂.go τ s₂ a₂ b₂) (hm).symm
theorem zj {Y:Fly}{c:Cx}{X:Str→Map→Prop}{op:CmpOp}{l r:PySem.Expr}{pos:Pos}{m:Loc}{σ:Map}{Q:Bool→Loc→Map→Prop}{whole:Sem Value}(h:POK prog w G Y c (eval l c.env) m σ (Thn2 prog w G Y (fun c=>eval r c.env) (fun _=>compareOp op) c X (Thn prog w G Y (fun _=>truthy) c X Q)) X) (hm:SOp op r:=by kernel_rfl):POK prog w G Y c (PySem.isTrue (.Compare l [op] [r] pos) c.env whole) m σ Q X:=
 .of fun τ s hd hs=>wpAny_isTrue_Compare1 (h.wp hd hs fun v s' m' σ' a b q=>q.wp a b fun v₂ s₂ m₂ σ₂ a₂ b₂ q₂=>q₂.wp a₂ b₂ fun v₃ s₃ m₃ σ₃ a₃ b₃ q₃=>q₃.go τ s₃ a₃ b₃) (hm).symm
theorem ja {Y:Fly}{c:Cx}{X:Str→Map→Prop}{e:PySem.Expr}{m:Loc}{σ:Map}{Q:Bool→Loc→Map→Prop}{whole:Sem Value}(h:POK prog w G Y c whole m σ (Thn prog w G Y (fun _=>truthy) c X Q) X) (he:STest e:=by kernel_rfl):POK prog w G Y c (PySem.isTrue e c.env whole) m σ Q X:=
 .of fun τ s hd hs=>isTrue_plain (h.wp hd hs fun v s' m' σ' a b q=>q.go τ s' a b) (sTest_eq he)
theorem j0 {Y:Fly}{c:Cx}{X:Str→Map→Prop}{e:PySem.Expr}{pos:Pos}{m:Loc}{σ:Map}{Q:Bool→Loc→Map→Prop}{whole:Sem Value}(h:POK prog w G Y c (PySem.isTrue e c.env (eval e c.env)) m σ (fun b=>Q (!b)) X) :
 POK prog w G Y c (PySem.isTrue (.UnaryOp .Not e pos) c.env whole) m σ Q X:=.of fun τ s hd hs=>isTrue_not (h.goAs τ s hd hs)
theorem jz {Y:Fly}{c:Cx}{X:Str→Map→Prop}{e:PySem.Expr}{rest:List PySem.Expr}{pos:Pos}{m:Loc}{σ:Map}{Q:Bool→Loc→Map→Prop}{whole:Sem Value}(h:POK prog w G Y c (PySem.isTrue e c.env (eval e c.env)) m σ (AndK prog w G Y rest pos whole c X Q) X) :
 POK prog w G Y c (PySem.isTrue (.BoolOp .And (e :: rest) pos) c.env whole) m σ Q X:=
 .of fun τ s hd hs=>isTrue_and (h.wp hd hs fun v s' m' σ' a b q=>by
  cases v with
  | true=>rw [if_pos rfl];exact (q.1 rfl).go τ s' a b
  | false=>rw [if_neg (by decide)];exact ⟨m',σ',a,b,q.2 rfl⟩)
theorem P_testAndNil {Y:Fly}{c:Cx}{X:Str→Map→Prop}{pos:Pos}{m:Loc}{σ:Map}{Q:Bool→Loc→Map→Prop}{whole:Sem Value}(h:Q true m σ):POK prog w G Y c (PySem.isTrue (.BoolOp .And [] pos) c.env whole) m σ Q X:=
 .of fun τ s hd hs=>isTrue_and_nil ⟨m,σ,hd,hs,h⟩
theorem P_testOr {Y:Fly}{c:Cx}{X:Str→Map→Prop}{e:PySem.Expr}{rest:List PySem.Expr}{pos:Pos}{m:Loc}{σ:Map}{Q:Bool→Loc→Map→Prop}{whole:Sem Value}(h:POK prog w G Y c (PySem.isTrue e c.env (eval e c.env)) m σ (OrK prog w G Y rest pos whole c X Q) X) :
 POK prog w G Y c (PySem.isTrue (.BoolOp .Or (e :: rest) pos) c.env whole) m σ Q X:=
 .of fun τ s hd hs=>isTrue_or (h.wp hd hs fun v s' m' σ' a b q=>by
  cases v with
  | true=>rw [if_pos rfl];exact ⟨m',σ',a,b,q.1 rfl⟩
  | false=>rw [if_neg (by decide)];exact (q.2 rfl).go τ s' a b)
theorem P_testOrNil {Y:Fly}{c:Cx}{X:Str→Map→Prop}{pos:Pos}{m:Loc}{σ:Map}{Q:Bool→Loc→Map→Prop}{whole:Sem Value}(h:Q false m σ):POK prog w G Y c (PySem.isTrue (.BoolOp .Or [] pos) c.env whole) m σ Q X:=
 .of fun τ s hd hs=>isTrue_or_nil ⟨m,σ,hd,hs,h⟩
theorem jb {Y:Fly}{c:Cx}{X:Str→Map→Prop}{test body orelse:PySem.Expr}{pos:Pos}{m:Loc}{σ:Map}{Q:Value→Loc→Map→Prop}(h:POK prog w G Y c (PySem.isTrue test c.env (eval test c.env)) m σ (IfK prog w G Y (fun c=>eval body c.env) (fun c=>eval orelse c.env) c X Q) X) :
 POK prog w G Y c (eval (.IfExp test body orelse pos) c.env) m σ Q X:=
 .of fun τ s hd hs=>IfExp_ (h.wp hd hs fun v s' m' σ' a b q=>by
  cases v with
  | true=>rw [if_pos rfl];exact (q.1 rfl).go τ s' a b
  | false=>rw [if_neg (by decide)];exact (q.2 rfl).go τ s' a b)
theorem zv {Y:Fly}{c:Cx}{X:Str→Map→Prop}{func:PySem.Expr}{args:List PySem.Expr}{pos:Pos}{m:Loc}{σ:Map}{Q:Value→Loc→Map→Prop}(h:POK prog w G Y c (eval func c.env) m σ (Thn prog w G Y (fun c f=>callWith pos f [] (backTo pos (starEach args c.env)) []) c X Q) X) (he:SFun func:=by kernel_rfl) :
 POK prog w G Y c (eval (.Call func args [] pos) c.env) m σ Q X:=.of fun τ s hd hs=>Call_ (h.wp hd hs fun v s' m' σ' a b q=>q.go τ s' a b) (sFun_eq he)
theorem zI {Y:Fly}{c:Cx}{X:Str→Map→Prop}{o:PySem.Expr}{apos pos:Pos}{args:List PySem.Expr}{m:Loc}{σ:Map}{Q:Value→Loc→Map→Prop}{name:Str}(h:POK prog w G Y c (eval o c.env) m σ (Thn prog w G Y (fun c ov=>getMethod ov name (do return (← importBound o c.env).getD true)) c X (MethK prog w G Y pos args c X Q)) X) (he:SCall o name apos args pos c:=by kernel_rfl) :
 POK prog w G Y c (eval (.Call (.Attribute o name apos) args [] pos) c.env) m σ Q X:=
 .of fun τ s hd hs=>MethodCall_ (h.wp hd hs fun v s' m' σ' a b q=>q.wp a b fun ⟨_,_⟩ s₂ m₂ σ₂ a₂ b₂ q₂=>POK.go q₂ τ s₂ a₂ b₂) he
theorem zR {Y:Fly}{c:Cx}{X:Str→Map→Prop}{value slice:PySem.Expr}{pos:Pos}{m:Loc}{σ:Map}{Q:Value→Loc→Map→Prop}(h:POK prog w G Y c (eval value c.env) m σ (Thn2 prog w G Y (fun c=>eval slice c.env) (fun _=>subscriptTail value slice) c X Q) X) :
 POK prog w G Y c (eval (.Subscript value slice pos) c.env) m σ Q X:=
 .of fun τ s hd hs=>Subscript_ (h.wp hd hs fun v s' m' σ' a b q=>q.wp a b fun v₂ s₂ m₂ σ₂ a₂ b₂ q₂=>q₂.go τ s₂ a₂ b₂)
theorem zB {Y:Fly}{c:Cx}{X:Str→Map→Prop}{value:PySem.Expr}{pos:Pos}{m:Loc}{σ:Map}{Q:Value→Loc→Map→Prop}{attr:Str}(h:POK prog w G Y c (eval value c.env) m σ (Thn prog w G Y (fun _ o=>getAttr o attr true) c X Q) X) (he:SObj value:=by kernel_rfl):POK prog w G Y c (eval (.Attribute value attr pos) c.env) m σ Q X:=
 .of fun τ s hd hs=>Attribute_any_ (h.wp hd hs fun v s' m' σ' a b q=>q.go τ s' a b) (sObj_eq he)
theorem P_attrC {Y:Fly}{c:Cx}{X:Str→Map→Prop}{o:PySem.Expr}{name:Str}{apos cpos:Pos}{args:List PySem.Expr}{pos:Pos}{m:Loc}{σ:Map}{Q:Value→Loc→Map→Prop}{attr:Str}(h:POK prog w G Y c (eval (.Call (.Attribute o name apos) args [] cpos) c.env) m σ (Thn prog w G Y (fun _ o=>getAttr o attr true) c X Q) X):POK prog w G Y c (eval (.Attribute (.Call (.Attribute o name apos) args [] cpos) attr pos) c.env) m σ Q X:=
 .of fun τ s hd hs=>Attribute_any_ (h.wp hd hs fun v s' m' σ' a b q=>q.go τ s' a b) (by kernel_rfl)
theorem z9 {Y:Fly}{c:Cx}{X:Str→Map→Prop}{elts:List PySem.Expr}{pos:Pos}{m:Loc}{σ:Map}{Q:Value→Loc→Map→Prop}(h:POK prog w G Y c (spliced (backTo pos (starEach elts c.env))) m σ (Thn prog w G Y (fun _=>newList) c X Q) X):POK prog w G Y c (eval (.List elts pos) c.env) m σ Q X:=
 .of fun τ s hd hs=>List_ (h.wp hd hs fun v s' m' σ' a b q=>q.go τ s' a b)
theorem z0 {Y:Fly}{c:Cx}{X:Str→Map→Prop}{elts:List PySem.Expr}{pos:Pos}{m:Loc}{σ:Map}{Q:Value→Loc→Map→Prop}{k:Nat}(h:POK prog w G Y c (spliced (backTo pos (starEach elts c.env))) m σ (Thn prog w G Y (fun _=>newTuple) c X Q) X):POK prog w G Y c (eval (.Tuple elts k pos) c.env) m σ Q X:=
 .of fun τ s hd hs=>Tuple_ (h.wp hd hs fun v s' m' σ' a b q=>q.go τ s' a b)
theorem zy {Q:Flow→Loc→Map→Prop}(h:Q .next m σ):POK prog w G Y c (execs [] c.env) m σ Q X:=.of fun τ s hd hs=>wpAny_execs_nil ⟨m,σ,hd,hs,h⟩
theorem ze {Y:Fly}{c:Cx}{X:Str→Map→Prop}{st:Stmt}{rest:List Stmt}{m:Loc}{σ:Map}{Q:Flow→Loc→Map→Prop}(h:POK prog w G Y c (exec st c.env) m σ (SeqK prog w G Y rest c X Q) X):POK prog w G Y c (execs (st :: rest) c.env) m σ Q X:=
 .of fun τ s hd hs=>wpAny_execs_cons (h.wp hd hs fun v s' m' σ' a b q=>by
  cases v with
  | next=>exact q.go τ s' a b
  | _=>exact ⟨m',σ',a,b,q⟩)
theorem j8 {Y:Fly}{c:Cx}{X:Str→Map→Prop}{st:Stmt}{rest:List Stmt}{m:Loc}{σ:Map}{Q:Flow→Loc→Map→Prop}{J:Loc→Map→Prop}(h1:POK prog w G Y c (exec st c.env) m σ (JnQ J) X) (h2:∀ m' σ',J m' σ'→POK prog w G Y c (execs rest c.env) m' σ' Q X):POK prog w G Y c (execs (st :: rest) c.env) m σ Q X:=
 ze (h1.mono (fun v m' σ' ⟨e,j⟩=>by subst e;exact h2 m' σ' j) fun _ _ x=>x)
theorem zO {Y:Fly}{c:Cx}{X:Str→Map→Prop}{e:PySem.Expr}{pos:Pos}{m:Loc}{σ:Map}{Q:Flow→Loc→Map→Prop}(h:POK prog w G Y c (eval e c.env) m σ (RetQ Q) X):POK prog w G Y c (exec (.Return (some e) pos) c.env) m σ Q X:=
 .of fun τ s hd hs=>wpAny_Return_some (h.goAs (Q':=Q) (g:=Flow.ret) τ s hd hs)
theorem P_retNone {Y:Fly}{c:Cx}{X:Str→Map→Prop}{pos:Pos}{m:Loc}{σ:Map}{Q:Flow→Loc→Map→Prop}(h:Q (.ret .none) m σ):POK prog w G Y c (exec (.Return none pos) c.env) m σ Q X:=
 .of fun τ s hd hs=>wpAny_Return_none ⟨m,σ,hd,hs,h⟩
theorem jt {Y:Fly}{c:Cx}{X:Str→Map→Prop}{e:PySem.Expr}{pos:Pos}{m:Loc}{σ:Map}{Q:Flow→Loc→Map→Prop}(h:POK prog w G Y c (eval e c.env) m σ (ConQ .next Q) X) (hs:SVal e:=by kernel_rfl):POK prog w G Y c (exec (.Expr e pos) c.env) m σ Q X:=
 .of fun τ s hd hs'=>wpAny_Expr_any (h.goAs (Q':=Q) (g:=fun _=>Flow.next) τ s hd hs') (inter_no c) (sVal_eq hs)
theorem zJ {Y:Fly}{c:Cx}{X:Str→Map→Prop}{test:PySem.Expr}{body orelse:List Stmt}{pos:Pos}{m:Loc}{σ:Map}{Q:Flow→Loc→Map→Prop}(h:POK prog w G Y c (PySem.isTrue test c.env (eval test c.env)) m σ (IfK prog w G Y (fun c=>execs body c.env) (fun c=>execs orelse c.env) c X Q) X) :
 POK prog w G Y c (exec (.If test body orelse pos) c.env) m σ Q X:=
 .of fun τ s hd hs=>wpAny_If (h.wp hd hs fun v s' m' σ' a b q=>by
  cases v with
  | true=>rw [if_pos rfl];exact (q.1 rfl).go τ s' a b
  | false=>rw [if_neg (by decide)];exact (q.2 rfl).go τ s' a b)
theorem P_brk {Y:Fly}{c:Cx}{X:Str→Map→Prop}{pos:Pos}{m:Loc}{σ:Map}{Q:Flow→Loc→Map→Prop}(h:Q .brk m σ):POK prog w G Y c (exec (.Break pos) c.env) m σ Q X:=.of fun τ s hd hs=>wpAny_Break ⟨m,σ,hd,hs,h⟩
theorem P_cont {Y:Fly}{c:Cx}{X:Str→Map→Prop}{pos:Pos}{m:Loc}{σ:Map}{Q:Flow→Loc→Map→Prop}(h:Q .cont m σ):POK prog w G Y c (exec (.Continue pos) c.env) m σ Q X:=.of fun τ s hd hs=>wpAny_Continue ⟨m,σ,hd,hs,h⟩
theorem zu {Y:Fly}{c:Cx}{X:Str→Map→Prop}{pos' pos:Pos}{value:PySem.Expr}{m:Loc}{σ:Map}{Q:Flow→Loc→Map→Prop}{x:Str}(h:POK prog w G Y c (eval value c.env) m σ (Thn prog w G Y (fun c v=>storeName c.env x v) c X (ConQ .next Q)) X) (hs:SVal value:=by kernel_rfl):POK prog w G Y c (exec (.Assign [.Name x pos'] value pos) c.env) m σ Q X:=
 .of fun τ s hd hs'=>wpAny_Assign_Name (h.wp hd hs' fun v s' m' σ' a b q=>q.goAs (Q':=Q) (g:=fun _=>Flow.next) τ s' a b) (sVal_eq hs)
theorem zi {Y:Fly}{c:Cx}{X:Str→Map→Prop}{o:PySem.Expr}{pos' pos:Pos}{value:PySem.Expr}{m:Loc}{σ:Map}{Q:Flow→Loc→Map→Prop}{attr:Str}(h:POK prog w G Y c (eval value c.env) m σ (Thn2 prog w G Y (fun c=>eval o c.env) (fun _ v ov=>setAttr ov attr v) c X (ConQ .next Q)) X):POK prog w G Y c (exec (.Assign [.Attribute o attr pos'] value pos) c.env) m σ Q X:=
 .of fun τ s hd hs'=>plainObj_wpAny_Assign_Attribute (h.wp hd hs' fun v s' m' σ' a b q=>q.wp a b fun v₂ s₂ m₂ σ₂ a₂ b₂ q₂=>q₂.goAs (Q':=Q) (g:=fun _=>Flow.next) τ s₂ a₂ b₂) sAt_eq
theorem jF {Y:Fly}{c:Cx}{X:Str→Map→Prop}{o i:PySem.Expr}{pos' pos:Pos}{value:PySem.Expr}{m:Loc}{σ:Map}{Q:Flow→Loc→Map→Prop}(h:POK prog w G Y c (eval value c.env) m σ (Thn3 prog w G Y (fun c=>eval o c.env) (fun c=>eval i c.env) (fun _ v ov iv=>setItem ov iv v) c X (ConQ .next Q)) X):POK prog w G Y c (exec (.Assign [.Subscript o i pos'] value pos) c.env) m σ Q X:=
 .of fun τ s hd hs'=>wpAny_Assign_Subscript (h.wp hd hs' fun v s' m' σ' a b q=>q.wp a b fun v₂ s₂ m₂ σ₂ a₂ b₂ q₂=>q₂.wp a₂ b₂ fun v₃ s₃ m₃ σ₃ a₃ b₃ q₃=>q₃.goAs (Q':=Q) (g:=fun _=>Flow.next) τ s₃ a₃ b₃) sSb_eq
theorem P_augName {Y:Fly}{c:Cx}{X:Str→Map→Prop}{op:PySem.Operator}{pos' pos:Pos}{value:PySem.Expr}{m:Loc}{σ:Map}{Q:Flow→Loc→Map→Prop}{x:Str}(h:POK prog w G Y c (loadName c.env x) m σ (Thn2 prog w G Y (fun c=>eval value c.env) (fun _=>inplaceOp op) c X (Thn prog w G Y (fun c r=>storeName c.env x r) c X (ConQ .next Q))) X) :
 POK prog w G Y c (exec (.AugAssign (.Name x pos') op value pos) c.env) m σ Q X:=
 .of fun τ s hd hs'=>wpAny_AugAssign_Name (h.wp hd hs' fun v s' m' σ' a b q=>q.wp a b fun v₂ s₂ m₂ σ₂ a₂ b₂ q₂=>q₂.wp a₂ b₂ fun v₃ s₃ m₃ σ₃ a₃ b₃ q₃=>q₃.goAs (Q':=Q) (g:=fun _=>Flow.next) τ s₃ a₃ b₃)
theorem P_augAttr {Y:Fly}{c:Cx}{X:Str→Map→Prop}{o value:PySem.Expr}{op:PySem.Operator}{tpos pos:Pos}{m:Loc}{σ:Map}{Q:Flow→Loc→Map→Prop}{attr:Str}(h:POK prog w G Y c (eval o c.env) m σ (fun ov m' σ'=>POK prog w G Y c (getAttr ov attr true) m' σ' (fun old m₂ σ₂=>POK prog w G Y c (eval value c.env) m₂ σ₂ (fun v m₃ σ₃=>
 POK prog w G Y c (inplaceOp op old v) m₃ σ₃ (fun r m₄ σ₄=>POK prog w G Y c (setAttr ov attr r) m₄ σ₄ (fun _=>Q .next) X) X) X) X) X) :
 POK prog w G Y c (exec (.AugAssign (.Attribute o attr tpos) op value pos) c.env) m σ Q X:=
 .of fun τ s hd hs'=>wpAny_AugAssign_AttributeAny (h.wp hd hs' fun v s' m' σ' a b q=>q.wp a b fun v₂ s₂ m₂ σ₂ a₂ b₂ q₂=>q₂.wp a₂ b₂ fun v₃ s₃ m₃ σ₃ a₃ b₃ q₃=>q₃.wp a₃ b₃ fun v₄ s₄ m₄ σ₄ a₄ b₄ q₄=>q₄.goAs (Q':=Q) (g:=fun _=>Flow.next) τ s₄ a₄ b₄)
theorem P_augSub {Y:Fly}{c:Cx}{X:Str→Map→Prop}{o i value:PySem.Expr}{op:PySem.Operator}{tpos pos:Pos}{m:Loc}{σ:Map}{Q:Flow→Loc→Map→Prop}(h:POK prog w G Y c (eval o c.env) m σ (fun ov m' σ'=>POK prog w G Y c (eval i c.env) m' σ' (fun iv m₂ σ₂=>POK prog w G Y c (getItem ov iv) m₂ σ₂ (fun old m₃ σ₃=>POK prog w G Y c (eval value c.env) m₃ σ₃ (fun v m₄ σ₄=>
 POK prog w G Y c (inplaceOp op old v) m₄ σ₄ (fun r m₅ σ₅=>POK prog w G Y c (setItem ov iv r) m₅ σ₅ (fun _=>Q .next) X) X) X) X) X) X) (hs:∀ ov iv new,augStore i ov iv new=(do holding [new,ov,iv] (setItem ov iv new);release [new,ov,iv] [];pure Flow.next):=by intro _ _ _;kernel_rfl) :
 POK prog w G Y c (exec (.AugAssign (.Subscript o i tpos) op value pos) c.env) m σ Q X:=
 .of fun τ s hd hs'=>wpAny_AugAssign_SubscriptAny (h.wp hd hs' fun v s' m' σ' a b q=>q.wp a b fun v₂ s₂ m₂ σ₂ a₂ b₂ q₂=>q₂.wp a₂ b₂ fun v₃ s₃ m₃ σ₃ a₃ b₃ q₃=>q₃.wp a₃ b₃ fun v₄ s₄ m₄ σ₄ a₄ b₄ q₄=>q₄.wp a₄ b₄ fun v₅ s₅ m₅ σ₅ a₅ b₅ q₅=>q₅.goAs (Q':=Q) (g:=fun _=>Flow.next) τ s₅ a₅ b₅) hs
theorem zb {Y:Fly}{c:Cx}{X:Str→Map→Prop}{pos:Pos}{m:Loc}{σ:Map}{Q:Value→Loc→Map→Prop}{x:Str}{v:Value}(hv:m x=some v) (h:Q v m σ) (hl:SLoc x c:=by kernel_rfl) (hd:(x == ("__debug__" : Str))=false:=by decide) :
 POK prog w G Y c (eval (.Name x pos) c.env) m σ Q X:=.of fun τ s hd' hs=>by
 refine St.on hs fun hp tk news own hs l=>?_
 exact wpAny_Name (wpAny_loadName_local (env:=c.env) c.hk (hl).symm l.F.ns hv ⟨m,σ,hd',hs,h⟩) hd
theorem P_loadName {Q:Value→Loc→Map→Prop}{x:Str}{v:Value}(hv:m x=some v) (h:Q v m σ) (hl:SLoc x c:=by kernel_rfl):POK prog w G Y c (loadName c.env x) m σ Q X:=.of fun τ s hd' hs=>by
 refine St.on hs fun hp tk news own hs l=>?_
 exact wpAny_loadName_local (env:=c.env) c.hk (hl).symm l.F.ns hv ⟨m,σ,hd',hs,h⟩
noncomputable def Loc.set (m:Loc) (x:Str) (v:Value):Loc:=fun y=>if y=x then some v else m y
theorem zx {Q:Unit→Loc→Map→Prop}{x:Str}{v:Value}(h:Q () (m.set x v) σ) (hl:SLoc x c:=by kernel_rfl):POK prog w G Y c (storeName c.env x v) m σ Q X:=.of fun τ s hd' hs=>by
 refine St.on hs fun hp tk news own hs l=>?_
 exact wpAny_storeName_local (env:=c.env) (hl).symm l.F.ns (fun h' hn hs=>⟨m.set x v,σ,hd',⟨h',_,news,own,rfl,l.F.set hn hs,l.N.set hs,l.nd,l.R,l.O⟩,h⟩) (by show (c.cs.kind == .class || (c.cs.kind == .module && c.L != mainGlobals))=false;rw [c.hk];rfl)
theorem zh {Y:Fly}{c:Cx}{X:Str→Map→Prop}{pos:Pos}{m:Loc}{σ:Map}{Q:Value→Loc→Map→Prop}{x:Str}{v:Value}(e:nsIn (tops.heap_1 w.params) mainGlobals x=some (some v)) (h:Q v m σ) (hx:SGlo x c:=by kernel_rfl) (hd:(x == ("__debug__" : Str))=false:=by decide) :
 POK prog w G Y c (eval (.Name x pos) c.env) m σ Q X:=.of fun τ s hd' hs=>by
 refine St.on hs fun hp tk news own hs l=>?_
 exact Name_function_global (env:=c.env) c.hk (hx).symm (loadGlobal_global (env:=c.env) ((G.T l.O.1).g.keeps l.F.keep) (mg_of (G.X l.O.1) (G.T l.O.1).g e) ⟨m,σ,hd',hs,h⟩) hd
theorem zC {Y:Fly}{c:Cx}{X:Str→Map→Prop}{pos:Pos}{m:Loc}{σ:Map}{Q:Value→Loc→Map→Prop}{x:Str}{v:Value}(e:nsIn (tops.heap_1 w.params) mainGlobals x=some none) (hv:bootBuiltins x=some v) (hn:x≠"__name__") (h:Q v m σ) (hx:SGlo x c:=by kernel_rfl) (hd:(x == ("__debug__" : Str))=false:=by decide):POK prog w G Y c (eval (.Name x pos) c.env) m σ Q X:=.of fun τ s hd' hs=>by
 refine St.on hs fun hp tk news own hs l=>?_
 exact Name_function_global (env:=c.env) c.hk (hx).symm (loadGlobal_builtin (env:=c.env) ((G.T l.O.1).g.keeps l.F.keep) (mg_none_of (G.X l.O.1) (G.T l.O.1).g e) ((G.T l.O.1).b.keeps l.F.keep) (((G.T l.O.1).builtins x hn).trans hv) ⟨m,σ,hd',hs,h⟩) hd
theorem zd {Q:Bool→Loc→Map→Prop}{b:Bool}(h:Q b m σ):POK prog w G Y c (truthy (.bool b)) m σ Q X:=.of fun τ s hd hs=>wpAny_truthy_bool ⟨m,σ,hd,hs,h⟩
end
noncomputable def getF (name:Str):List (Str × Value)→Option Value
 | []=>none
 | f :: r=>if f.1 == name then some f.2 else getF name r
noncomputable def putF (name:Str) (v:Value):List (Str × Value)→List (Str × Value)
 | []=>[(name,v)]
 | f :: r=>if f.1 == name then (f.1,v) :: r else f :: putF name v r
theorem getF_c {name:Str}{f:Str × Value}{r:List (Str × Value)}:getF name (f :: r)=if f.1 == name then some f.2 else getF name r:=rfl
theorem putF_c {name:Str}{v:Value}{f:Str × Value}{r:List (Str × Value)}:putF name v (f :: r)=if f.1 == name then (f.1,v) :: r else f :: putF name v r:=rfl
theorem getL_of {es:List DictEntry}{fs:List (Str × Value)}(name:Str) (h:Ents es fs):getL name es=some (getF name fs):=by
 induction es generalizing fs with
 | nil=>cases fs with | nil=>rfl | cons=>exact h.elim
 | cons e es ih=>
  cases fs with
  | nil=>exact h.elim
  | cons f fs=>
   obtain ⟨⟨⟨t,hk⟩,hv⟩,h⟩:=h
   have ih:=ih h
   have e1:e.key.isStr name=(f.1 == name):=by rw [hk];rfl
   have e2:e.refKey=false:=by unfold DictEntry.refKey;rw [hk]
   unfold getL at ih ⊢
   rw [getF_c]
   rw [List.find?_cons,List.any_cons,e1,e2]
   cases q:(f.1 == name) with
   | true=>simp [hv]
   | false=>simpa using ih
theorem putL_of {es:List DictEntry}{fs:List (Str × Value)}(name:Str) (hsh:Int) (t:Tok) (v:Value) (h:Ents es fs):Ents (putL name hsh (.str name t) v es) (putF name v fs):=by
 induction es generalizing fs with
 | nil=>cases fs with | nil=>exact ⟨⟨⟨t,rfl⟩,rfl⟩,trivial⟩ | cons=>exact h.elim
 | cons e es ih=>
  cases fs with
  | nil=>exact h.elim
  | cons f fs=>
   obtain ⟨⟨⟨t',hk⟩,hv⟩,h⟩:=h
   have e1:e.key.isStr name=(f.1 == name):=by rw [hk];rfl
   unfold putL
   rw [putF_c]
   rw [e1]
   cases f.1 == name with
   | true=>exact ⟨⟨⟨t',hk⟩,rfl⟩,h⟩
   | false=>exact ⟨⟨⟨t',hk⟩,hv⟩,ih h⟩
theorem ents_length:∀ {es:List DictEntry}{fs:List (Str × Value)},Ents es fs→es.length=fs.length
 | [],[],_=>rfl
 | e :: es,f :: fs,⟨_,h⟩=>by simp [ents_length h]
 | [],_ :: _,h=>h.elim
 | _ :: _,[],h=>h.elim
noncomputable def fieldOk (K:Frag) (C:Addr) (name:Str):Bool:=plainGet K C name && hasDictIn K C && (match findIn K (.ref C) name with | some attr=>noGet K attr | none=>false)
noncomputable def storeOk' (K:Frag) (C:Addr) (name:Str):Bool:=findIn K (.ref C) "__setattr__" == some (some (.builtin "object.__setattr__")) && plainOver K C && takerIn K C name == some none && hasDictIn K C
noncomputable def methOk (K:Frag) (C:Addr) (name:Str) (f:Addr):Bool:=plainGet K C name && findIn K (.ref C) name == some (some (.ref f)) && isFn K (.ref f)
noncomputable def makeOk (K:Frag) (C:Addr) (f:Addr):Bool:=makesIn K C && findIn K (.ref C) "__init__" == some (some (.ref f)) && isFn K (.ref f)
section
variable {Y:Fly}{c:Cx}{X:Str→Map→Prop}{m:Loc}{σ τ:Map}{α β:Type}
theorem Led.news_lt {ρ:Map}{h:Heap}{news:List (Addr × Obj)}{own:Addr→Option Addr}(l:Led G c m ρ h news own) {q:Addr × Obj}(hq:q∈news):q.1 < h.objs.size:=Heap.lt_size (l.N q hq).1
theorem Led.outs_set {ρ:Map}{a:Addr}{ao:AO}(O:OutOk G c ρ) (ha:∀ m,ρ a≠some (.frm m)):OutOk G c (ρ.set a ao):=⟨O.1,fun env he=>by
 refine zk fun zz=>?_
 obtain ⟨h0,L,h1,h2,h3⟩:=O.2 env he
 refine zz ?_;clear zz
 exact ⟨h0,L,h1,h2,h3.imp id fun ⟨m,h⟩=>⟨m,(Map.set_ne fun z=>ha m (by rw [← z];exact h)).trans h⟩⟩⟩
theorem St.new {h':Heap}{tk:Nat}{ρ:Map}{h:Heap}{news:List (Addr × Obj)}{own:Addr→Option Addr}{a:Addr}{o:Obj}{ao:AO}{x:Option Addr}(l:Led G c m ρ h news own)
 (F':Fr G.g c.L h' m) (N':News G.g c.L h' ((a,o) :: news)) (ha:∀ q∈news,q.1 < a) (hr:AORep ((a,o) :: news) (fun b=>if b=a then x else own b) a ao) :
 ρ a=none∧St G c m (ρ.set a ao) ⟨h',G.fix.gens,G.fix.drawn,tk,G.fix.os⟩:=by
 have hne:∀ q∈news,q.1≠a:=fun q hq=>Nat.ne_of_lt (ha q hq)
 obtain ⟨r1,r2⟩:=l.R.new hne hr
 exact ⟨r1,h',tk,_,_,rfl,F',N',jW l.nd hne,r2,Led.outs_set l.O fun m z=>by rw [r1] at z;cases z⟩
theorem zF {vs:List Value}{Q:Value→Loc→Map→Prop}(h:∀ a,σ a=none→Q (.ref a) m (σ.set a (.seq false vs))) (hsz:vs.length≤sizeLine:=by decide):POK prog w G Y c (newList vs) m σ Q X:=.of fun τ s hd hs=>by
 refine St.on hs fun hp tk news own hs l=>?_
 refine newList_K l.F l.N (fun a h' F' N' ha=>?_) hsz
 refine zk fun zz=>?_
 obtain ⟨r1,r2⟩:=St.new (tk:=tk) (x:=some a) (ao:=.seq false vs) l F' N' ha ⟨by simp,0,.head _⟩
 obtain ⟨s1,s2⟩:=Map.or_none r1
 refine zz ?_;clear zz
 exact ⟨m,σ.set a (.seq false vs),hd.set s2,by rw [Map.set_or];exact r2,h a s1⟩
theorem zL {vs:List Value}{Q:Value→Loc→Map→Prop}(h:∀ a,σ a=none→Q (.ref a) m (σ.set a (.seq true vs))) (hsz:vs.length≤sizeLine:=by decide):POK prog w G Y c (newTuple vs) m σ Q X:=.of fun τ s hd hs=>by
 refine St.on hs fun hp tk news own hs l=>?_
 refine newTuple_N l.F l.N (fun h' F' N'=>?_) hsz
 refine zk fun zz=>?_
 obtain ⟨r1,r2⟩:=St.new (tk:=tk) (x:=none) (ao:=.seq true vs) l F' N' (fun q hq=>l.news_lt hq) ⟨by simp,0,.head _⟩
 obtain ⟨s1,s2⟩:=Map.or_none r1
 refine zz ?_;clear zz
 exact ⟨m,_,hd.set s2,by rw [Map.set_or];exact r2,h _ s1⟩
theorem Led.instAt {ρ:Map}{h:Heap}{news:List (Addr × Obj)}{own:Addr→Option Addr}(l:Led G c m ρ h news own) {x C:Addr}{fs:List (Str × Value)}(hx:ρ x=some (.inst C fs)) :
 ∃ d es n,W.InstAt h x (instObj C d) C (some (dictOf es n))∧(d,dictOf es n)∈news∧own d=some x∧own x=some x∧(x,instObj C d)∈news∧Ents es fs:=by
 refine zk fun zz=>?_
 obtain ⟨h1,d,es,n,h2,h3,h4,h5⟩:=l.R x _ hx
 refine zz ?_;clear zz
 exact ⟨d,es,n,InstAt.of_news l.N h2 h3,h3,h4,h1,h2,h5⟩
theorem zw {x C:Addr}{fs:List (Str × Value)}{name:Str}{v:Value}{expr:Bool}{Q:Value→Loc→Map→Prop}(hx:σ x=some (.inst C fs)) (hf:fieldOk (tops.heap_1 w.params) C name=true) (hv:getF name fs=some v) (hh:handedIn v=true) (h:Q v m σ) :
 POK prog w G Y c (getAttr (.ref x) name expr) m σ Q X:=.of fun τ s hd hs=>by
 refine St.on hs fun hp tk news own hs l=>?_
 refine zk fun zz=>?_
 obtain ⟨d,es,n,I,_,_,_,_,E⟩:=l.instAt (Map.or_some hx)
 unfold fieldOk at hf
 obtain ⟨hf1,hf2⟩:=Bool.and_eq_true_iff.mp hf
 obtain ⟨hf3,hf4⟩:=Bool.and_eq_true_iff.mp hf1
 refine zz ?_;clear zz
 split at hf2
 ·rename_i attr ha
  exact get_own l.F (G.X l.O.1) I hf3 hf4 ha hf2 ((getL_of name E).trans (by rw [hv])) hh ⟨m,σ,hd,hs.toks _,h⟩
 ·first | exact nb hf2 | exact nt hf2 | cases hf2
theorem zn {x C:Addr}{fs:List (Str × Value)}{name:Str}{v:Value}{Q:Unit→Loc→Map→Prop}(hx:σ x=some (.inst C fs)) (hf:storeOk' (tops.heap_1 w.params) C name=true) (hl:(putF name v fs).length≤1000)
 (h:Q () m (σ.set x (.inst C (putF name v fs)))):POK prog w G Y c (setAttr (.ref x) name v) m σ Q X:=.of fun τ s hd hs=>by
 refine St.on hs fun hp tk news own hs l=>?_
 refine zk fun zz=>?_
 obtain ⟨d,es,n,I,hdm,hod,hox,hxm,E⟩:=l.instAt (Map.or_some hx)
 unfold storeOk' at hf
 obtain ⟨hf1,hf2⟩:=Bool.and_eq_true_iff.mp hf
 obtain ⟨hf3,hf4⟩:=Bool.and_eq_true_iff.mp hf1
 obtain ⟨hf5,hf6⟩:=Bool.and_eq_true_iff.mp hf3
 refine zz ?_;clear zz
 have E':=putL_of name (PyData.keyHash w.params name) (tk+1) v E
 refine set_dict l.F (G.X l.O.1) l.N I rfl (beq_iff_eq.mp hf5) hf6 (beq_iff_eq.mp hf4) hf2 (by rw [getL_of name E];rfl) rfl (upd_of l.nd hdm) (by rw [ents_length E'];exact hl) fun h' F' N'=>?_
 refine ⟨m,_,hd.set (hd.none_of hx),?_,h⟩
 rw [Map.set_or]
 have hxd:x≠d:=fun z=>by
  have:=mem_same l.nd hxm (z ▸ hdm);cases this
 exact ⟨h',_,_,own,rfl,F',N',by rw [putO_keys];exact l.nd,l.R.put hod ⟨hox,d,_,_,jx hxm hxd,z8 hdm,hod,E'⟩,
  Led.outs_set l.O fun m z=>by rw [Map.or_some hx] at z;cases z⟩
theorem zQ {x C f:Addr}{fs:List (Str × Value)}{name:Str}{pl:Sem Bool}{Q:Value × List Value→Loc→Map→Prop}(hx:σ x=some (.inst C fs)) (hf:methOk (tops.heap_1 w.params) C name f=true) (hv:getF name fs=none) (h:Q (.ref f,[.ref x]) m σ) :
 POK prog w G Y c (getMethod (.ref x) name pl) m σ Q X:=.of fun τ s hd hs=>by
 refine St.on hs fun hp tk news own hs l=>?_
 refine zk fun zz=>?_
 obtain ⟨d,es,n,I,_,_,_,_,E⟩:=l.instAt (Map.or_some hx)
 unfold methOk at hf
 obtain ⟨hf1,hf2⟩:=Bool.and_eq_true_iff.mp hf
 obtain ⟨hf3,hf4⟩:=Bool.and_eq_true_iff.mp hf1
 refine zz ?_;clear zz
 exact method_inst l.F (G.X l.O.1) I hf3 (beq_iff_eq.mp hf4) hf2 ((getL_of name E).trans (by rw [hv])) ⟨m,σ,hd,hs,h⟩
theorem zf {Y:Fly}{c:Cx}{X:Str→Map→Prop}{e:PySem.Expr}{rest:List PySem.Expr}{pos:Pos}{m:Loc}{σ:Map}{f:Value}{first:List Value}{Q:Value→Loc→Map→Prop}(hk:keepIn (tops.heap_1 w.params) f=true) (h:POK prog w G Y c (spliced (backTo pos (starEach (e :: rest) c.env))) m σ (CallK prog w G Y f first c X Q) X) (he:SArg e:=by kernel_rfl) (hplain:SArgs rest:=by kernel_rfl) :
 POK prog w G Y c (callWith pos f first (backTo pos (starEach (e :: rest) c.env)) []) m σ Q X:=.of fun τ s hd hs=>by
 refine St.on hs fun hp₀ tk₀ news₀ own₀ hs l₀=>?_
 exact callWith_K (G.X l₀.O.1) hk (h.wp hd hs fun v s' m' σ' a b q=>by
  refine St.on b fun hp tk news own b l=>?_
  exact ⟨(G.X l.O.1).keeps l.F.keep,q.go τ _ a b⟩) (sArg_eq he) (sArgs_eq hplain)
theorem jl {Y:Fly}{c:Cx}{X:Str→Map→Prop}{pos:Pos}{m:Loc}{σ:Map}{f:Value}{first:List Value}{Q:Value→Loc→Map→Prop}(hk:keepIn (tops.heap_1 w.params) f=true) (h:POK prog w G Y c (call f (first ++ [])) m σ Q X) :
 POK prog w G Y c (callWith pos f first (backTo pos (starEach [] c.env)) []) m σ Q X:=.of fun τ s hd hs=>by
 refine St.on hs fun hp tk news own hs l=>?_
 exact callWith_K0 ((G.X l.O.1).keeps l.F.keep) hk (h.go τ _ hd hs)
theorem zt {Y:Fly}{c:Cx}{X:Str→Map→Prop}{e:PySem.Expr}{rest:List PySem.Expr}{pos:Pos}{m:Loc}{σ:Map}{id:String}{first:List Value}{Q:Value→Loc→Map→Prop}(h:POK prog w G Y c (spliced (backTo pos (starEach (e :: rest) c.env))) m σ (CallK prog w G Y (.builtin id) first c X Q) X) (he:SArg e:=by kernel_rfl) (hplain:SArgs rest:=by kernel_rfl) :
 POK prog w G Y c (callWith pos (.builtin id) first (backTo pos (starEach (e :: rest) c.env)) []) m σ Q X:=.of fun τ s hd hs=>
 PyProof.Rows.callWith_method1 (h.wp hd hs fun v s' m' σ' a b q=>q.go τ _ a b) (sArg_eq he) (sArgs_eq hplain)
theorem P_callWithB0 {Y:Fly}{c:Cx}{X:Str→Map→Prop}{pos:Pos}{m:Loc}{σ:Map}{id:String}{first:List Value}{Q:Value→Loc→Map→Prop}(h:POK prog w G Y c (call (.builtin id) first) m σ Q X) :
 POK prog w G Y c (callWith pos (.builtin id) first (backTo pos (starEach [] c.env)) []) m σ Q X:=.of fun τ s hd hs=>callWith_method0 (h.go τ s hd hs)
end
structure Dyn where
 dp:Nat
 un:Nat
 gd:Option (List Code)
 hd:Option Value
 outer:List Env
 L:Addr
 nd:∀ env∈outer,env.frame≠some L
noncomputable abbrev cxOf (qual:Str) (scope:Scope) (f:Addr) (cdv:Value) (hk:scope.kind = .function) (d:Dyn):Cx:=
 { dp:=d.dp,un:=d.un,gd:=d.gd,hd:=d.hd,qn:=qual ++ ".<locals>.",cs:=scope,fn:=some f,ccd:=cdv,cl:=[],L:=d.L,fL:=d.L,fr:=envOf qual scope d.L f cdv :: d.outer,hk }
noncomputable def dDyn:Dyn:=⟨0,0,none,none,[],0,fun _ z=>nomatch z⟩
noncomputable def Fly.Leaves {K:Frag}(prog:Program) (w:World) (G:Gd K) (Y:Fly):Prop:=
 ∀ (c c':Cx) (m:Loc) (e:Value) (dv:Str) (ρ:Map) (s:Shared),c'.fr=c'.env :: c.fr→(∀ env∈c.fr,env.frame≠some c'.L)→c'.L=c'.fL→c'.L≠c.L→G.g.objs.size≤c.L→ρ c.L=none →
  Y.up c' e dv (ρ.set c.L (.frm m)) s →
  wpAny (model prog w) c'.A (leaving c'.env e) (fun _ s'=>Y.up c e dv ρ s') (fun _ _=>False) s
section
variable {Y:Fly}{c:Cx}{X:Str→Map→Prop}{m:Loc}{σ τ:Map}{α β:Type}
structure COK (prog:Program) (w:World) {K:Frag}(G:Gd K) (Y:Fly) (c:Cx) (A:Around) (f:Value) (args:Args) (m:Loc) (σ:Map) (Q:Value→Loc→Map→Prop) (X:Str→Map→Prop):Prop where
 go:∀ τ s,Disj σ τ→St G c m (σ.or τ) s→codeAny (model prog w) A (.call f args) (fun r s'=>match r with
  | .ok (.ret v)=>Po G c τ Q v s'
  | .ok _=>False
  | .error e=>XH Y c τ X e s') s
theorem COK.call {f:Value}{pos:List Value}{kw:List (Str × Value)}{Q:Value→Loc→Map→Prop}(h:COK prog w G Y c c.A f ⟨pos,kw⟩ m σ Q X):POK prog w G Y c (PySem.call f pos kw) m σ Q X:=
 .of fun τ s hd hs=>wpAny_call (h.go τ s hd hs)
theorem jQ {h:Heap}{L:Addr}{m:Loc}(x:h.Ns L m):∃ o,h.get? L=some o∧FrmObj o m:=by
 refine zk fun zz=>?_
 obtain ⟨o,es,ep,ho,r⟩:=x
 refine zz ?_;clear zz
 exact ⟨o,ho,es,ep,r⟩
theorem ns_of_frm {h:Heap}{L:Addr}{o:Obj}{m:Loc}(ho:h.get? L=some o) (x:FrmObj o m):h.Ns L m:=by
 refine zk fun zz=>?_
 obtain ⟨es,ep,r⟩:=x
 refine zz ?_;clear zz
 exact ⟨o,es,ep,ho,r⟩
theorem g_none {L:Addr}{g h:Heap}{m:Loc}(F:Fr g L h m):g.get? L=none:=by
 cases q:g.get? L with
 | none=>rfl
 | some o=>exact absurd (Heap.lt_size q) (Nat.not_lt.mpr F.above)
theorem disj_frm (hd:Disj σ τ) (h:σ c.L=none) (m:Loc):Disj σ (τ.set c.L (.frm m)):=fun b=>by
 unfold Map.set
 by_cases e:b=c.L
 ·subst e;exact .inl h
 ·rw [if_neg e];exact hd b
theorem zE {a:Addr}{ao:AO}(h:σ a=none):σ.or (τ.set a ao)=(σ.or τ).set a ao:=by
 funext b
 unfold Map.or Map.set
 by_cases e:b=a
 ·subst e;simp [h]
 ·simp [e]
theorem Led.frame_none {ρ:Map}{h:Heap}{news:List (Addr × Obj)}{own:Addr→Option Addr}(l:Led G c m ρ h news own):ρ c.L=none:=by
 cases q:ρ c.L with
 | none=>rfl
 | some ao=>
  obtain ⟨o,ho⟩:=(l.R _ _ q).at
  exact absurd rfl (l.N _ ho).2.1
theorem St.backTo {c':Cx}{m':Loc}{ρ:Map}{hp h':Heap}{news:List (Addr × Obj)}{own:Addr→Option Addr}{tk:Nat}(ho:∀ env∈c.fr,env∈c'.fr) (hnd:∀ env∈c.fr,env.frame≠some c'.L) (hab:G.g.objs.size≤c.L) (h0:ρ c.L=none)
 (l:Led G c' m' (ρ.set c.L (.frm m)) hp news own) (hb:Heap.ExtBut c'.L hp h'):St G c m ρ ⟨h',G.fix.gens,G.fix.drawn,tk,G.fix.os⟩:=by
 refine zk fun zz=>?_
 obtain ⟨h1,o,h2,h3⟩:=l.R c.L (.frm m) Map.set_self
 refine zz ?_;clear zz
 have up:∀ q∈news,h'.get? q.1=some q.2:=fun q hq=>hb _ _ (l.N q hq).2.1 (l.N q hq).1
 have hL:=up _ h2
 refine ⟨h',tk,news.filter (fun q=>decide (q.1≠c.L)),own,rfl,⟨ns_of_frm hL h3,fun b o e=>hb b o (fun z=>by rw [z,g_none l.F] at e;cases e) (l.F.keep b o e),hab⟩,fun q hq=>?_,?_,fun a ao ha=>?_,l.O.1,fun env he=>?_⟩
 ·obtain ⟨q1,q2⟩:=List.mem_filter.mp hq
  have:=l.N q q1
  exact ⟨up q q1,of_decide_eq_true q2,this.2.2⟩
 ·exact l.nd.sublist ((List.filter_sublist).map _)
 ·have hne:a≠c.L:=fun z=>by rw [z,h0] at ha;cases ha
  have r:=l.R a ao ((Map.set_ne hne).trans ha)
  have k:∀ {b:Addr} {o:Obj},(b,o)∈news→own b=some a∨own b=none→(b,o)∈news.filter (fun q=>decide (q.1≠c.L)):=fun {b o} hb hw=>
   List.mem_filter.mpr ⟨hb,decide_eq_true fun z=>by
    have z':b=c.L:=z
    rw [z',h1] at hw
    rcases hw with w | w
    ·exact hne (Option.some.inj w).symm
    ·cases w⟩
  cases ao with
  | inst C fs=>
   refine zk fun zz=>?_
   obtain ⟨r1,d',es,n,r2,r3,r4,r5⟩:=r
   refine zz ?_;clear zz
   exact ⟨r1,d',es,n,k r2 (.inl r1),k r3 (.inl r4),r4,r5⟩
  | seq tup xs=>
   refine zk fun zz=>?_
   obtain ⟨r1,n,r2⟩:=r
   refine zz ?_;clear zz
   exact ⟨r1,n,k r2 (by cases tup <;> simp_all)⟩
  | raw P=>
   refine zk fun zz=>?_
   obtain ⟨r1,o',r2,r3⟩:=r
   refine zz ?_;clear zz
   exact ⟨r1,o',k r2 (.inl r1),r3⟩
  | frm P=>
   refine zk fun zz=>?_
   obtain ⟨r1,o',r2,r3⟩:=r
   refine zz ?_;clear zz
   exact ⟨r1,o',k r2 (.inl r1),r3⟩
  | exc C fs tb=>exact ⟨r.1,r.2.mono fun x o ⟨h1,h2⟩=>⟨k h1 (.inl h2),h2⟩⟩
 ·refine zk fun zz=>?_
  obtain ⟨g0,L₂,g1,g2,g3⟩:=l.O.2 env (ho env he)
  refine zz ?_;clear zz
  refine ⟨g0,L₂,g1,g2,?_⟩
  by_cases z:L₂=c.L
  ·exact .inl z
  ·rcases g3 with g3 | ⟨m₂,g3⟩
   ·exact absurd (by rw [g1,g3]) (hnd env he)
   ·exact .inr ⟨m₂,by rwa [Map.set_ne z] at g3⟩
theorem St.back {c':Cx}{m':Loc}{ρ:Map}{s:Shared}(ho:∀ env∈c.fr,env∈c'.fr) (hnd:∀ env∈c.fr,env.frame≠some c'.L) (hab:G.g.objs.size≤c.L) (h0:ρ c.L=none)
 (h:St G c' m' (ρ.set c.L (.frm m)) s):St G c m ρ s:=by
 refine St.on h fun hp tk news own h l=>?_
 exact St.backTo ho hnd hab h0 l (Heap.ExtBut.refl _ _)
theorem zV {σ':Map}{a:Addr}{ao:AO}(h:Disj σ' (τ.set a ao)):σ' a=none∧Disj σ' τ:=by
 have s1:σ' a=none:=(h a).resolve_right (by rw [Map.set_self];exact fun z=>nomatch z)
 refine ⟨s1,fun b=>?_⟩
 by_cases z:b=a
 ·exact .inl (z ▸ s1)
 ·rcases h b with q | q
  ·exact .inl q
  ·exact .inr ((Map.set_ne z).symm.trans q)
theorem Disj.setR {σ τ:Map}{a:Addr}{ao:AO}(h:Disj σ τ) (ha:σ a=none):Disj σ (τ.set a ao):=fun b=>
 (Decidable.em (b=a)).elim (fun z=>.inl (z ▸ ha)) fun z=>(h b).imp id fun q=>(Map.set_ne z).trans q
theorem Disj.dropR {σ τ:Map}{a:Addr}{ao:AO}(h:Disj σ (τ.set a ao)):σ a=none∧Disj σ τ:=zV h
theorem set_comm {σ:Map}{a b:Addr}{ao bo:AO}(h:a≠b):(σ.set a ao).set b bo=(σ.set b bo).set a ao:=funext fun x=>
 (Decidable.em (x=a)).elim (fun z=>(Map.set_ne fun w=>h (z.symm.trans w)).trans ((if_pos z).trans (if_pos z).symm)) fun z=>
  (Decidable.em (x=b)).elim (fun w=>(if_pos w).trans ((Map.set_ne z).trans (if_pos w)).symm) fun w=>(Map.set_ne w).trans ((Map.set_ne z).trans ((Map.set_ne z).trans (Map.set_ne w)).symm)
theorem set_set {σ:Map}{a:Addr}{ao bo:AO}:(σ.set a ao).set a bo=σ.set a bo:=funext fun x=>
 (Decidable.em (x=a)).elim (fun z=>(if_pos z).trans (if_pos z).symm) fun z=>(Map.set_ne z).trans ((Map.set_ne z).trans (Map.set_ne z).symm)
theorem or_two {σ τ:Map}{L D:Addr}{f x:AO}(sL:σ L=none) (sD:σ D=none) (h:L≠D):σ.or ((τ.set L f).set D x)=((σ.set D x).or τ).set L f:=by
 rw [zE sD,zE sL,set_comm h,Map.set_or]
theorem or_three {σ τ:Map}{L D I:Addr}{f x y:AO}(sL:σ L=none) (sD:σ D=none) (sI:σ I=none) (h:L≠D) (hI:L≠I) (hD:D≠I):σ.or (((τ.set L f).set D x).set I y)=((σ.set D x).or (τ.set I y)).set L f:=by
 rw [zE sI,or_two sL sD h,zE ((Map.set_ne hD.symm).trans sI),set_comm hI]
theorem or_four {σ τ:Map}{L D I:Addr}{f x y:AO}(sI:σ I=none) (hI:L≠I) (hD:D≠I):((σ.set D x).or (τ.set I y)).set L f=(((σ.set D x).or τ).set L f).set I y:=by
 rw [zE ((Map.set_ne hD.symm).trans sI),set_comm hI]
theorem or_five {σ τ:Map}{L D:Addr}{f x:AO}(sL:σ L=none) (sD:σ D=none):((σ.set D x).or τ).set L f=σ.or ((τ.set D x).set L f):=by
 rw [zE sL,zE sD,Map.set_or]
theorem C_fn {A:Around}{name qual:Str}{params:Arguments}{body:List Stmt}{scope:Scope}{dV kV doc pm cdv ct oc:Value}{an od:Option Addr}{osl:Array (Option Value)}{f:Addr}{args:Args}{binds:List (Str × Value)}
 {Q:Value→Loc→Map→Prop} (hY:Fly.Leaves prog w G Y)
 (hA:A.frames=some c.fr) (ho:(tops.heap_1 w.params).lookup f=some ⟨oc,od,.func (fnOf name qual params body scope dV kV doc pm an cdv ct),osl⟩) (hcd:codeIn (tops.heap_1 w.params) cdv qual=true) (hroom:A.depth < recursionLimit)
 (hbind:∀ s:Shared,(tops.heap_1 w.params).In s.heap→BindsTo s (fnOf name qual params body scope dV kV doc pm an cdv ct) args binds) (hloc:∀ y∈binds,scope.names.lookup y.1=some .local) (hk:scope.kind = .function)
 (h:∀ d:Dyn,d.dp=A.depth+1→d.un=A.units+3→d.hd=A.handled→POK prog w G Y (cxOf qual scope f cdv hk d) (execs body (cxOf qual scope f cdv hk d).env) (fun y=>binds.reverse.lookup y) σ
  (fun fl _ σ'=>Q (match fl with | .ret v=>v | _=>.none) m σ') X)
 (hco:scope.isCoroutine=false) (hgen:scope.isGenerator=false) (hcell:∀ x∈scope.names,x.2≠.cell):COK prog w G Y c A (.ref f) args m σ Q X:=.mk fun τ s hd hs=>by
 refine St.on hs fun hp tk news own hs l=>?_
 refine zk fun zz=>?_
 have hX:(tops.heap_1 w.params).In hp:=(G.X l.O.1).keeps l.F.keep
 have h0:=l.frame_none
 obtain ⟨s0,t0⟩:=Map.or_none h0
 refine zz ?_;clear zz
 refine codeAny_call_def (fd:=fnOf name qual params body scope dV kV doc pm an cdv ct) (body:=body) (binds:=binds) hroom (hX _ _ ho) rfl ((G.T l.O.1).nolimit.keeps l.F.keep) (codeRec_of hX hcd) rfl (hbind _ hX) hcell hloc (fun h₁ hns hk₁=>?_) hco hgen hk
 refine zk fun zz=>?_
 obtain ⟨oL,hoL,hfL⟩:=jQ l.F.ns
 refine zz ?_;clear zz
 have ndL:∀ env∈c.fr,env.frame≠some hp.objs.size:=fun env he z=>by
  refine zk fun zz=>?_
  obtain ⟨g0,L₂,g1,g2,g3⟩:=l.O.2 env he
  refine zz ?_;clear zz
  have e:L₂=hp.objs.size:=Option.some.inj (g1.symm.trans z)
  rcases g3 with g3 | ⟨m₂,g3⟩
  ·exact absurd (Heap.lt_size hoL) (by rw [← g3,e];exact Nat.lt_irrefl _)
  ·refine zk fun zz=>?_
   obtain ⟨r1,o',r2,r3⟩:=l.R _ _ g3
   refine zz ?_;clear zz
   exact absurd (l.news_lt r2) (e ▸ Nat.lt_irrefl _)
 let d:Dyn:=⟨A.depth+1,A.units+3,A.guards,A.handled,c.fr,hp.objs.size,ndL⟩
 have hcA:(cxOf qual scope f cdv hk d).A=A.deeper (callEnv (fnOf name qual params body scope dV kV doc pm an cdv ct) hp.objs.size f):=by
  refine zk fun zz=>?_
  obtain ⟨ha,da,fa',ga,ua⟩:=A
  refine zz ?_;clear zz
  simp only at hA
  subst hA
  rfl
 have hne:∀ q∈news,q.1≠c.L:=fun q hq=>(l.N q hq).2.1
 have St':St G (cxOf qual scope f cdv hk d) (fun y=>binds.reverse.lookup y) (σ.or (τ.set c.L (.frm m))) ⟨h₁,G.fix.gens,G.fix.drawn,tk+binds.length,G.fix.os⟩:=by
  rw [zE s0]
  have R':=(l.R.new (d:=c.L) (o:=oL) (x:=some c.L) (ao:=.frm m) hne ⟨by simp,oL,.head _,hfL⟩).2
  refine ⟨h₁,_,(c.L,oL) :: news,_,rfl,⟨hns,fun b o e=>hk₁ _ _ (l.F.keep b o e),Nat.le_of_lt (Nat.lt_of_le_of_lt l.F.above (Heap.lt_size hoL))⟩,fun q hq=>?_,jW l.nd hne,R',l.O.1,fun env he=>?_⟩
  ·rcases List.mem_cons.mp hq with rfl | hq
   ·exact ⟨hk₁ _ _ hoL,Nat.ne_of_lt (Heap.lt_size hoL),g_none l.F⟩
   ·exact ⟨hk₁ _ _ (l.N q hq).1,Nat.ne_of_lt (l.news_lt hq),(l.N q hq).2.2⟩
  ·rcases List.mem_cons.mp he with rfl | he
   ·exact ⟨hk,hp.objs.size,rfl,Nat.le_of_lt (Nat.lt_of_le_of_lt l.F.above (Heap.lt_size hoL)),.inl rfl⟩
   ·refine zk fun zz=>?_
    obtain ⟨g0,L₂,g1,g2,g3⟩:=l.O.2 env he
    refine zz ?_;clear zz
    refine ⟨g0,L₂,g1,g2,.inr ?_⟩
    by_cases z:L₂=c.L
    ·exact ⟨m,by rw [z];exact Map.set_self⟩
    ·rcases g3 with g3 | ⟨m₂,g3⟩
     ·exact absurd g3 z
     ·exact ⟨m₂,(Map.set_ne z).trans g3⟩
 have hd':=disj_frm (c:=c) hd s0 m
 have hb:=(h d rfl rfl rfl).go _ _ hd' St'
 rw [hcA] at hb
 refine wpAny_mono hb (fun fl s' ⟨m',σ',a,b,q⟩=>?_) fun e s' ⟨dv,σ',a,b,q⟩=>?_
 ·obtain ⟨s1,dd⟩:=zV a
  exact ⟨m,σ',dd,St.back (m:=m) (fun _=>.tail _) ndL l.F.above (by unfold Map.or;rw [s1];exact t0) (by rw [← zE s1];exact b),q⟩
 ·obtain ⟨s1,dd⟩:=zV a
  rw [zE s1] at b
  have:=hY c (cxOf qual scope f cdv hk d) m e dv (σ'.or τ) s' rfl ndL rfl (fun z=>by
   have z':hp.objs.size=c.L:=z
   exact absurd (Heap.lt_size hoL) (by rw [← z'];exact Nat.lt_irrefl _)) l.F.above (by unfold Map.or;rw [s1];exact t0) b
  rw [hcA] at this
  exact wpAny_mono this (fun _ s'' y=>⟨dv,σ',dd,y,q⟩) fun _ _ z=>z.elim
end
section
variable {Y:Fly}{c:Cx}{X:Str→Map→Prop}{m:Loc}{σ τ:Map}{α β:Type}
theorem P_make {C fI:Addr}{vs:List Value}{Q:Value→Loc→Map→Prop}(hm:makeOk (tops.heap_1 w.params) C fI=true)
 (h:∀ x,σ x=none→COK prog w G Y c (c.A.under (.builtin "type.__call__" ⟨.ref C :: vs,[]⟩)) (.ref fI) ⟨.ref x :: vs,[]⟩ m (σ.set x (.inst C [])) (MkQ x Q) X) :
 POK prog w G Y c (call (.ref C) vs []) m σ Q X:=.of fun τ s hd hs=>by
 refine St.on hs fun hp tk news own hs l=>?_
 refine zk fun zz=>?_
 unfold makeOk at hm
 obtain ⟨hm1,hm2⟩:=Bool.and_eq_true_iff.mp hm
 obtain ⟨hm3,hm4⟩:=Bool.and_eq_true_iff.mp hm1
 refine zz ?_;clear zz
 refine call_cls l.F (G.X l.O.1) l.N hm3 (beq_iff_eq.mp hm4) hm2 fun x dx h' F' N' l1 l2=>?_
 have n1:∀ q∈news,q.1≠dx:=fun q hq=>Nat.ne_of_lt (l1 q hq)
 have n2:∀ q∈((dx,dictOf [] 0) :: news),q.1≠x:=fun q hq=>by
  rcases List.mem_cons.mp hq with rfl | hq
  ·exact Nat.ne_of_lt l2
  ·exact Nat.ne_of_lt (Nat.lt_trans (l1 q hq) l2)
 have hxd:dx≠x:=Nat.ne_of_lt l2
 let own₁:Addr→Option Addr:=fun b=>if b=dx then some x else own b
 let own₂:Addr→Option Addr:=fun b=>if b=x then some x else own₁ b
 have o1:own₂ x=some x:=if_pos rfl
 have o2:own₂ dx=some x:=(if_neg hxd).trans (if_pos rfl)
 have r0:(σ.or τ) x=none:=by
  cases q:(σ.or τ) x with
  | none=>rfl
  | some ao=>
   obtain ⟨o',h'⟩:=(l.R x ao q).at
   exact absurd rfl (n2 _ (.tail _ h'))
 have R:Rep ((x,instObj C dx) :: (dx,dictOf [] 0) :: news) own₂ ((σ.or τ).set x (.inst C [])):=fun b bo hb=>by
  by_cases e:b=x
  ·subst e
   rw [Map.set_self] at hb
   first | exact nb hb | exact nt hb | cases hb
   exact ⟨o1,dx,[],0,.head _,.tail _ (.head _),o2,trivial⟩
  ·rw [Map.set_ne e] at hb
   exact ((l.R b bo hb).more (x:=some x) n1).more (x:=some x) n2
 obtain ⟨s0,t0⟩:=Map.or_none r0
 have hS:St G c m ((σ.set x (.inst C [])).or τ) ⟨h',G.fix.gens,G.fix.drawn,tk,G.fix.os⟩:=by
  rw [Map.set_or]
  exact ⟨h',tk,_,own₂,rfl,F',N',jW (jW l.nd n1) n2,R,Led.outs_set l.O fun m z=>by rw [r0] at z;cases z⟩
 refine codeAny_mono ((h x s0).go τ _ (hd.set t0) hS) fun r s' hr=>?_
 cases r with
 | error e=>exact hr
 | ok f=>
  cases f with
  | ret v=>
   refine zk fun zz=>?_
   obtain ⟨m',σ',a,b,q1,q2⟩:=hr
   refine zz ?_;clear zz
   exact ⟨q1,m',σ',a,b,q2⟩
  | _=>exact hr.elim
theorem Led.seqAt {ρ:Map}{h:Heap}{news:List (Addr × Obj)}{own:Addr→Option Addr}(l:Led G c m ρ h news own) {a:Addr}{tup:Bool}{xs:List Value}(hx:ρ a=some (.seq tup xs)) :
 ∃ n,(a,({ cls:=.type (if tup then "tuple" else "list"),data:=.seq xs.toArray n }:Obj))∈news∧own a=(if tup then none else some a):=by
 refine zk fun zz=>?_
 obtain ⟨h1,n,h2⟩:=l.R a _ hx
 refine zz ?_;clear zz
 exact ⟨n,h2,h1⟩
theorem Led.isList {ρ:Map}{h:Heap}{news:List (Addr × Obj)}{own:Addr→Option Addr}(l:Led G c m ρ h news own) {a:Addr}{xs:List Value}(hx:ρ a=some (.seq false xs)):h.IsList a xs.toArray:=by
 refine zk fun zz=>?_
 obtain ⟨n,h1,_⟩:=l.seqAt hx
 refine zz ?_;clear zz
 exact ⟨_,(l.N _ h1).1,rfl,n,rfl⟩
theorem Led.putList {ρ:Map}{h h':Heap}{news:List (Addr × Obj)}{own:Addr→Option Addr}{tk:Nat}(l:Led G c m ρ h news own) {a:Addr}{xs ys:List Value}{n n':Nat}(hx:ρ a=some (.seq false xs))
 (hm:(a,listOf xs.toArray n)∈news) (ho:own a=some a) (F':Fr G.g c.L h' m) (N':News G.g c.L h' (putO a (listOf ys.toArray n') news)):St G c m (ρ.set a (.seq false ys)) ⟨h',G.fix.gens,G.fix.drawn,tk,G.fix.os⟩:=
 ⟨h',tk,_,own,rfl,F',N',by rw [putO_keys];exact l.nd,l.R.put ho ⟨ho,n',z8 hm⟩,Led.outs_set l.O fun m z=>by rw [hx] at z;cases z⟩
theorem P_len {a:Addr}{xs:List Value}{Q:Value→Loc→Map→Prop}(hx:σ a=some (.seq false xs)) (hz:xs.length≤sizeLine) (h:∀ t,Q (.int xs.length t) m σ):POK prog w G Y c (call (.builtin "len") [.ref a]) m σ Q X:=.of fun τ s hd hs=>by
 refine St.on hs fun hp tk news own hs l=>?_
 refine PyProof.Rows.len_list (l.isList (Map.or_some hx)) (by rw [List.size_toArray];have:=sizeLine_eq;omega) ⟨m,σ,hd,hs.toks _,?_⟩
 simpa using h _
theorem jS {a:Addr}{xs:List Value}{v:Value}{Q:Value→Loc→Map→Prop}(hx:σ a=some (.seq false xs)) (hz:xs.length≤sizeLine) (h:Q .none m (σ.set a (.seq false (xs ++ [v])))) :
 POK prog w G Y c (call (.builtin "list.append") [.ref a,v]) m σ Q X:=.of fun τ s hd hs=>by
 refine St.on hs fun hp tk news own hs l=>?_
 refine zk fun zz=>?_
 obtain ⟨n,h1,h2⟩:=l.seqAt (Map.or_some hx)
 refine zz ?_;clear zz
 refine append_K (n:=n) l.F l.N (upd_of l.nd h1) (fun h' F' N'=>⟨m,_,hd.set (hd.none_of hx),?_,h⟩) (by rw [List.size_toArray];exact hz)
 rw [Map.set_or]
 refine l.putList (Map.or_some hx) h1 h2 F' (n':=n+1) ?_
 have e:xs.toArray.push v=(xs ++ [v]).toArray:=by simp
 rw [← e];exact N'
theorem P_pop {a:Addr}{p:List Value}{y:Value}{Q:Value→Loc→Map→Prop}(hx:σ a=some (.seq false (p ++ [y]))) (hz:(p ++ [y]).length≤sizeLine) (h:Q y m (σ.set a (.seq false p))) :
 POK prog w G Y c (call (.builtin "list.pop") [.ref a]) m σ Q X:=.of fun τ s hd hs=>by
 refine St.on hs fun hp tk news own hs l=>?_
 refine zk fun zz=>?_
 obtain ⟨n,h1,h2⟩:=l.seqAt (Map.or_some hx)
 refine zz ?_;clear zz
 refine kl_pop l.F l.N (its:=(p ++ [y]).toArray) (n:=n) (kpa_last y p) (upd_of l.nd h1) (by simpa using hz) fun h' F' N'=>⟨m,_,hd.set (hd.none_of hx),?_,h⟩
 rw [Map.set_or]
 exact l.putList (Map.or_some hx) h1 h2 F' N'
theorem jg {a:Addr}{xs:List Value}{name:Str}{id:String}{pl:Sem Bool}{Q:Value × List Value→Loc→Map→Prop}(hx:σ a=some (.seq false xs)) (slot:Slot "list" name id)
 (hty:typeOf (.builtin id)=Pure.pure (.type "method_descriptor")) (h:Q (.builtin id,[.ref a]) m σ):POK prog w G Y c (getMethod (.ref a) name pl) m σ Q X:=.of fun τ s hd hs=>by
 refine St.on hs fun hp tk news own hs l=>?_
 refine zk fun zz=>?_
 obtain ⟨n,h1,h2⟩:=l.seqAt (Map.or_some hx)
 refine zz ?_;clear zz
 exact kl_method l.N h1 slot hty ⟨m,σ,hd,⟨hp,tk,news,own,rfl,l⟩,h⟩
theorem kh {Y:Fly}{c:Cx}{X:Str→Map→Prop}{value slice:PySem.Expr}{m:Loc}{σ:Map}{a:Addr}{xs:List Value}{k:Int}{u:Tok}{x:Value}{Q:Value→Loc→Map→Prop}(hx:σ a=some (.seq false xs)) (h0:0≤k) (h1:k < 2 ^ 63) (hi:xs[k.toNat]? = some x) (h:Q x m σ) (hs:subscripted slice false (.ref a) (.int k u)=operate [.ref a,.int k u] (getItem (.ref a) (.int k u)):=by kernel_rfl) :
 POK prog w G Y c (subscriptTail value slice (.ref a) (.int k u)) m σ Q X:=.of fun τ s hd hs'=>by
 refine St.on hs' fun hp tk news own hs' l=>?_
 have I:=l.isList (Map.or_some hx)
 exact tail_any I.typeIs slot_list_getitem.lookup (wpAny_getItem_list I h0 h1 (by simpa using hi) ⟨m,σ,hd,hs',h⟩) hs
theorem P_itemBack {Y:Fly}{c:Cx}{X:Str→Map→Prop}{value slice:PySem.Expr}{m:Loc}{σ:Map}{a:Addr}{p:List Value}{x:Value}{u:Tok}{Q:Value→Loc→Map→Prop}(hx:σ a=some (.seq false (p ++ [x]))) (h:Q x m σ) (hs:subscripted slice false (.ref a) (.int (-1) u)=operate [.ref a,.int (-1) u] (getItem (.ref a) (.int (-1) u)):=by kernel_rfl) :
 POK prog w G Y c (subscriptTail value slice (.ref a) (.int (-1) u)) m σ Q X:=.of fun τ s hd hs'=>by
 refine St.on hs' fun hp tk news own hs' l=>?_
 have I:=l.isList (Map.or_some hx)
 refine kde_neg I (by decide) (by decide) (j:=p.length) (by unfold seqIndex?;simp <;> omega) (by simp) ⟨m,σ,hd,hs',h⟩ hs
theorem P_getItem {a:Addr}{xs:List Value}{k:Int}{u:Tok}{x:Value}{Q:Value→Loc→Map→Prop}(hx:σ a=some (.seq false xs)) (h0:0≤k) (h1:k < 2 ^ 63) (hi:xs[k.toNat]? = some x) (h:Q x m σ) :
 POK prog w G Y c (getItem (.ref a) (.int k u)) m σ Q X:=.of fun τ s hd hs'=>by
 refine St.on hs' fun hp tk news own hs' l=>?_
 exact wpAny_getItem_list (l.isList (Map.or_some hx)) h0 h1 (by simpa using hi) ⟨m,σ,hd,hs',h⟩
theorem P_setItemInt {a:Addr}{xs:List Value}{ns:List Int}{k x:Int}{t u:Tok}{Q:Unit→Loc→Map→Prop}(hx:σ a=some (.seq false xs)) (hi:IntsAre xs ns) (h0:0≤k) (h1:k < ns.length) (h2:k < 2 ^ 63)
 (h:Q () m (σ.set a (.seq false (xs.set k.toNat (.int x u))))):POK prog w G Y c (setItem (.ref a) (.int k t) (.int x u)) m σ Q X:=.of fun τ s hd hs=>by
 refine St.on hs fun hp tk news own hs l=>?_
 refine zk fun zz=>?_
 obtain ⟨n,g1,g2⟩:=l.seqAt (Map.or_some hx)
 refine zz ?_;clear zz
 refine ksa_set l.F l.N (upd_of l.nd g1) hi h0 h1 h2 fun h' F' N' _ _ _=>⟨m,_,hd.set (hd.none_of hx),?_,h⟩
 rw [Map.set_or]
 exact l.putList (Map.or_some hx) g1 g2 F' N'
theorem P_inStrs {a:Addr}{xs:List Value}{ys:List Str}{k:Str}{t:Tok}{Q:Value→Loc→Map→Prop}(hx:σ a=some (.seq false xs)) (hi:StrsAre xs ys) (h:Q (.bool (ys.any fun x=>x == k)) m σ) :
 POK prog w G Y c (compareOp .In (.str k t) (.ref a)) m σ Q X:=.of fun τ s hd hs=>by
 refine St.on hs fun hp tk news own hs l=>?_
 exact in_list_strs (l.isList (Map.or_some hx)) hi ⟨m,σ,hd,hs,h⟩
theorem P_addLists {a b:Addr}{xs ys:List Value}{Q:Value→Loc→Map→Prop}(hx:σ a=some (.seq false xs)) (hy:σ b=some (.seq false ys)) (hz:xs.length+ys.length≤sizeLine)
 (h:∀ d,σ d=none→Q (.ref d) m (σ.set d (.seq false (xs ++ ys)))):POK prog w G Y c (binaryOp .Add (.ref a) (.ref b)) m σ Q X:=.of fun τ s hd hs=>by
 refine St.on hs fun hp tk news own hs l=>?_
 refine kmk_add_lit l.F l.N (l.isList (Map.or_some hx)) (l.isList (Map.or_some hy)) rfl (fun D h' F' N' hD=>?_) (by simpa using hz)
 refine zk fun zz=>?_
 obtain ⟨r1,r2⟩:=St.new (tk:=tk) (x:=some D) (ao:=.seq false (xs ++ ys)) l F' N' hD ⟨by simp,0,.head _⟩
 obtain ⟨s1,s2⟩:=Map.or_none r1
 refine zz ?_;clear zz
 exact ⟨m,_,hd.set s2,by rw [Map.set_or];exact r2,h _ s1⟩
theorem P_addInt {a b:Int}{t u:Tok}{Q:Value→Loc→Map→Prop}(h:∀ t,Q (.int (a+b) t) m σ):POK prog w G Y c (binaryOp .Add (.int a t) (.int b u)) m σ Q X:=.of fun τ s hd hs=>add_int ⟨m,σ,hd,hs.toks _,h _⟩
theorem P_modInt {a b:Int}{t u:Tok}{Q:Value→Loc→Map→Prop}(hb:b≠0) (h:∀ t,Q (.int (a.fmod b) t) m σ):POK prog w G Y c (binaryOp .Mod (.int a t) (.int b u)) m σ Q X:=.of fun τ s hd hs=>mod_int' hb ⟨m,σ,hd,hs.toks _,h _⟩
theorem zH {x y:Str}{t u:Tok}{Q:Value→Loc→Map→Prop}(hz:x.length+y.length≤sizeLine) (h:∀ t,Q (.str (x ++ y) t) m σ):POK prog w G Y c (binaryOp .Add (.str x t) (.str y u)) m σ Q X:=
 .of fun τ s hd hs=>add_str (fun _ _=>⟨m,σ,hd,hs.toks _,h _⟩) hz
theorem jK {x y:Str}{t u:Tok}{Q:Value→Loc→Map→Prop}(h:Q (.bool (x == y)) m σ):POK prog w G Y c (compareOp .Eq (.str x t) (.str y u)) m σ Q X:=.of fun τ s hd hs=>eq_str ⟨m,σ,hd,hs,h⟩
theorem P_ltInt {a b:Int}{t u:Tok}{Q:Value→Loc→Map→Prop}(h:Q (.bool (decide (a < b))) m σ):POK prog w G Y c (compareOp .Lt (.int a t) (.int b u)) m σ Q X:=.of fun τ s hd hs=>PyProof.Rows.lt_int ⟨m,σ,hd,hs,h⟩
theorem P_gtInt {a b:Int}{t u:Tok}{Q:Value→Loc→Map→Prop}(h:Q (.bool (decide (a > b))) m σ):POK prog w G Y c (compareOp .Gt (.int a t) (.int b u)) m σ Q X:=.of fun τ s hd hs=>PyProof.Rows.gt_int ⟨m,σ,hd,hs,h⟩
theorem P_neInt {a b:Int}{t u:Tok}{Q:Value→Loc→Map→Prop}(h:Q (.bool (a != b)) m σ):POK prog w G Y c (compareOp .NotEq (.int a t) (.int b u)) m σ Q X:=.of fun τ s hd hs=>PyProof.Rows.ne_int ⟨m,σ,hd,hs,h⟩
theorem P_iaddInt {a b:Int}{t u:Tok}{Q:Value→Loc→Map→Prop}(h:∀ t,Q (.int (a+b) t) m σ):POK prog w G Y c (inplaceOp .Add (.int a t) (.int b u)) m σ Q X:=.of fun τ s hd hs=>PyProof.Rows.iadd_int ⟨m,σ,hd,hs.toks _,h _⟩
theorem P_eqInt {a b:Int}{t u:Tok}{Q:Value→Loc→Map→Prop}(h:Q (.bool (a == b)) m σ):POK prog w G Y c (compareOp .Eq (.int a t) (.int b u)) m σ Q X:=.of fun τ s hd hs=>PyProof.Rows.eq_int ⟨m,σ,hd,hs,h⟩
end
theorem Map.set_new {σ:Map}{a b:Addr}{ao bo:AO}(ha:σ a=none) (hb:σ b=some bo):σ.set a ao b=some bo:=
 (Map.set_ne fun z=>by rw [z,ha] at hb;cases hb).trans hb
noncomputable def plainV:Value→Bool
 | .none | .bool _ | .int _ _ | .str _ _ | .ref _=>true
 | _=>false
noncomputable def isN:Value→Bool
 | .none=>true
 | _=>false
theorem is_none_eq {v:Value}(hv:plainV v=true):compareOp .Is v .none=Pure.pure (.bool (isN v)):=by
 cases v <;> first | rfl | cases hv
theorem isnot_none_eq {v:Value}(hv:plainV v=true):compareOp .IsNot v .none=Pure.pure (.bool (!isN v)):=by
 cases v <;> first | rfl | cases hv
noncomputable def isiNo (K:Frag) (D:Addr):Bool:=plainGet K D "__class__" && hasDictIn K D && findIn K (.ref D) "__class__" == some (some (.builtin "object.__class__")) &&
 specialIn K (.builtin "object.__class__") "__get__" == some (some (.builtin "getset_descriptor.__get__")) && takesIn K (.builtin "object.__class__") == some true && mroIn K D (.type "object") == some true
section
variable {Y:Fly}{c:Cx}{X:Str→Map→Prop}{m:Loc}{σ τ:Map}{α β:Type}
theorem POK.eq {t t':Sem α}{Q:α→Loc→Map→Prop}(e:t=t') (h:POK prog w G Y c t' m σ Q X):POK prog w G Y c t m σ Q X:=e ▸ h
theorem POK.val {t:Sem α}{v:α}{Q:α→Loc→Map→Prop}(e:t=Pure.pure v) (h:Q v m σ):POK prog w G Y c t m σ Q X:=POK.eq e (POK.pure h)
theorem zN {v:Value}{Q:Value→Loc→Map→Prop}(hv:plainV v=true) (h:Q (.bool (isN v)) m σ):POK prog w G Y c (compareOp .Is v .none) m σ Q X:=POK.val (is_none_eq hv) h
theorem z7 {v:Value}{Q:Value→Loc→Map→Prop}(hv:plainV v=true) (h:Q (.bool (!isN v)) m σ):POK prog w G Y c (compareOp .IsNot v .none) m σ Q X:=POK.val (isnot_none_eq hv) h
theorem P_truthyList {a:Addr}{xs:List Value}{Q:Bool→Loc→Map→Prop}(hx:σ a=some (.seq false xs)) (hz:xs.length≤sizeLine) (h:Q (!xs.isEmpty) m σ):POK prog w G Y c (truthy (.ref a)) m σ Q X:=.of fun τ s hd hs=>by
 refine St.on hs fun hp tk news own hs l=>?_
 exact wpAny_truthy_list (l.isList (Map.or_some hx)) (by rw [List.size_toArray];have:=sizeLine_eq;omega) ⟨m,σ,hd,hs.toks _,by simpa using h⟩
theorem P_notInStrs {a:Addr}{xs:List Value}{ys:List Str}{k:Str}{t:Tok}{Q:Value→Loc→Map→Prop}(hx:σ a=some (.seq false xs)) (hi:StrsAre xs ys) (h:Q (.bool (!ys.any fun x=>x == k)) m σ) :
 POK prog w G Y c (compareOp .NotIn (.str k t) (.ref a)) m σ Q X:=.of fun τ s hd hs=>by
 refine St.on hs fun hp tk news own hs l=>?_
 exact notin_list_strs (l.isList (Map.or_some hx)) hi ⟨m,σ,hd,hs,h⟩
theorem P_neStr {x y:Str}{t u:Tok}{Q:Value→Loc→Map→Prop}(h:Q (.bool (x != y)) m σ):POK prog w G Y c (compareOp .NotEq (.str x t) (.str y u)) m σ Q X:=.of fun τ s hd hs=>PyProof.Rows.ne_str ⟨m,σ,hd,hs,h⟩
theorem P_neg {a:Int}{t:Tok}{Q:Value→Loc→Map→Prop}(h:∀ t,Q (.int (-a) t) m σ):POK prog w G Y c (unaryOp .USub (.int a t)) m σ Q X:=.of fun τ s hd hs=>neg_int ⟨m,σ,hd,hs.toks _,h _⟩
theorem P_isubInt {a b:Int}{t u:Tok}{Q:Value→Loc→Map→Prop}(h:∀ t,Q (.int (a - b) t) m σ):POK prog w G Y c (inplaceOp .Sub (.int a t) (.int b u)) m σ Q X:=.of fun τ s hd hs=>PyProof.Rows.isub_int ⟨m,σ,hd,hs.toks _,h _⟩
theorem P_isiYes {x C D:Addr}{fs:List (Str × Value)}{Q:Value→Loc→Map→Prop}(hx:σ x=some (.inst D fs)) (e:isIn (tops.heap_1 w.params) (.ref D) C=true) (h:Q (.bool true) m σ):POK prog w G Y c (call (.builtin "isinstance") [.ref x,.ref C]) m σ Q X:=.of fun τ s hd hs=>by
 refine St.on hs fun hp tk news own hs l=>?_
 refine zk fun zz=>?_
 obtain ⟨d,es,n,I,_⟩:=l.instAt (Map.or_some hx)
 refine zz ?_;clear zz
 exact isi_call ((G.X l.O.1).keeps l.F.keep) (fun M=>I.type) e (by intro z;cases z) ⟨m,σ,hd,hs,h⟩
theorem P_isiNo {x C D:Addr}{fs:List (Str × Value)}{Q:Value→Loc→Map→Prop}(hx:σ x=some (.inst D fs)) (e:(kin_not (tops.heap_1 w.params) D C && isiNo (tops.heap_1 w.params) D)=true) (h:Q (.bool false) m σ):POK prog w G Y c (call (.builtin "isinstance") [.ref x,.ref C]) m σ Q X:=.of fun τ s hd hs=>by
 refine St.on hs fun hp tk news own hs l=>?_
 refine zk fun zz=>?_
 obtain ⟨d,es,n,I,_⟩:=l.instAt (Map.or_some hx)
 simp only [isiNo,Bool.and_eq_true,beq_iff_eq] at e
 obtain ⟨e0,⟨⟨⟨⟨e1,e2⟩,e3⟩,e4⟩,e5⟩,e6⟩:=e
 refine zz ?_;clear zz
 exact kin_callC ((G.X l.O.1).keeps l.F.keep) I e0 e1 e2 e3 e4 e5 e6 ⟨m,σ,hd,hs.toks _,h⟩
theorem jT {x:Str}{t:Tok}{C:Addr}{Q:Value→Loc→Map→Prop}(e:isNotIn (tops.heap_1 w.params) "str" C=true) (h:Q (.bool false) m σ):POK prog w G Y c (call (.builtin "isinstance") [.str x t,.ref C]) m σ Q X:=.of fun τ s hd hs=>by
 refine St.on hs fun hp tk news own hs l=>?_
 exact isn_call (P:=fun _=>True) ((G.X l.O.1).keeps l.F.keep) (fun M=>Looks.of_pure rfl) e (by intro z;cases z) trivial str_cls ⟨m,σ,hd,hs.toks _,h⟩
theorem P_isiInt {x:Int}{t:Tok}{C:Addr}{Q:Value→Loc→Map→Prop}(e:isNotIn (tops.heap_1 w.params) "int" C=true) (h:Q (.bool false) m σ):POK prog w G Y c (call (.builtin "isinstance") [.int x t,.ref C]) m σ Q X:=.of fun τ s hd hs=>by
 refine St.on hs fun hp tk news own hs l=>?_
 exact isn_call (P:=fun _=>True) ((G.X l.O.1).keeps l.F.keep) (fun M=>Looks.of_pure rfl) e (by intro z;cases z) trivial int_cls ⟨m,σ,hd,hs.toks _,h⟩
theorem P_isiNone {C:Addr}{Q:Value→Loc→Map→Prop}(e:isNotIn (tops.heap_1 w.params) "NoneType" C=true) (h:Q (.bool false) m σ):POK prog w G Y c (call (.builtin "isinstance") [.none,.ref C]) m σ Q X:=.of fun τ s hd hs=>by
 refine St.on hs fun hp tk news own hs l=>?_
 exact isn_call (P:=fun _=>True) ((G.X l.O.1).keeps l.F.keep) (fun M=>Looks.of_pure rfl) e (by intro z;cases z) trivial none_cls ⟨m,σ,hd,hs.toks _,h⟩
theorem P_clsMeth {C:Addr}{name:Str}{mc a:Value}{pl:Sem Bool}{Q:Value × List Value→Loc→Map→Prop}(hg:specialIn (tops.heap_1 w.params) (.ref C) "__getattribute__" = some (some (.builtin "type.__getattribute__")))
 (hr:readsIn (tops.heap_1 w.params) C mc=true) (e:findCls (tops.heap_1 w.params) (.ref C) mc name=some (.val a)) (hh:handedIn a=true) (hm:typeIn (tops.heap_1 w.params) (.ref C)=some mc) (h:Q (a,[]) m σ):POK prog w G Y c (getMethod (.ref C) name pl) m σ Q X:=.of fun τ s hd hs=>by
 refine St.on hs fun hp tk news own hs l=>?_
 exact method_of_cls l.F (G.X l.O.1) hg (cls_val l.F (G.X l.O.1) hm hr e hh ⟨m,σ,hd,hs.toks _,h⟩)
end
section
variable {Y:Fly}{c:Cx}{X:Str→Map→Prop}{m:Loc}{σ τ ρ:Map}{α β:Type}
theorem Fr.extB {g h h':Heap}{L d:Addr}{m:Loc}(F:Fr g L h m) (hs:Heap.ExtBut d h h') (hL:d≠L) (hn:g.get? d=none):Fr g L h' m:=
 ⟨F.ns.at' fun o e=>hs L o (Ne.symm hL) e,fun b o e=>hs b o (fun z=>by rw [z,hn] at e;cases e) (F.keep b o e),F.above⟩
theorem St.ext {h h':Heap}{news:List (Addr × Obj)}{own:Addr→Option Addr}{tk:Nat}{d a:Addr}{o o':Obj}{ao:AO}(l:Led G c m ρ h news own) (hm:(d,o)∈news) (hown:own d=some a) (hs:Heap.ExtBut d h h')
 (ho:h'.get? d=some o') (hn:AORep (putO d o' news) own a ao) (hnf:∀ m,ρ a≠some (.frm m)):St G c m (ρ.set a ao) ⟨h',G.fix.gens,G.fix.drawn,tk,G.fix.os⟩:=by
 have hN:=l.N _ hm
 refine ⟨h',tk,putO d o' news,own,rfl,Fr.extB l.F hs hN.2.1 hN.2.2,fun q hq=>?_,by rw [putO_keys];exact l.nd,l.R.put hown hn,Led.outs_set l.O hnf⟩
 refine zk fun zz=>?_
 obtain ⟨q',hq',rfl⟩:=List.mem_map.mp hq
 refine zz ?_;clear zz
 by_cases e:q'.1=d
 ·rw [if_pos e];exact ⟨ho,hN.2.1,hN.2.2⟩
 ·rw [if_neg e];have:=l.N _ hq';exact ⟨hs _ _ e this.1,this.2⟩
theorem St.gone {h h':Heap}{news:List (Addr × Obj)}{own:Addr→Option Addr}{tk:Nat}{d a:Addr}{o:Obj}{ao:AO}(l:Led G c m (ρ.set a ao) h news own) (hm:(d,o)∈news) (hown:own d=some a) (hs:Heap.ExtBut d h h')
 (h0:ρ a=none) (hnf:∀ m,ao≠.frm m):St G c m ρ ⟨h',G.fix.gens,G.fix.drawn,tk,G.fix.os⟩:=by
 have hN:=l.N _ hm
 refine ⟨h',tk,news.filter (fun q=>decide (q.1≠d)),own,rfl,Fr.extB l.F hs hN.2.1 hN.2.2,fun q hq=>?_,?_,fun b bo hb=>?_,l.O.1,fun env he=>?_⟩
 ·obtain ⟨q1,q2⟩:=List.mem_filter.mp hq
  have:=l.N q q1
  exact ⟨hs _ _ (of_decide_eq_true q2) this.1,this.2⟩
 ·exact l.nd.sublist ((List.filter_sublist).map _)
 ·have hne:b≠a:=fun z=>by rw [z,h0] at hb;cases hb
  have r:=l.R b bo ((Map.set_ne hne).trans hb)
  have k:∀ {x:Addr} {o:Obj},(x,o)∈news→own x=some b∨own x=none→(x,o)∈news.filter (fun q=>decide (q.1≠d)):=fun {x o} hx hw=>
   List.mem_filter.mpr ⟨hx,decide_eq_true fun z=>by
    have z':x=d:=z
    rw [z',hown] at hw
    rcases hw with w | w
    ·exact hne (Option.some.inj w).symm
    ·cases w⟩
  cases bo with
  | inst C fs=>
   refine zk fun zz=>?_
   obtain ⟨r1,d',es,n,r2,r3,r4,r5⟩:=r
   refine zz ?_;clear zz
   exact ⟨r1,d',es,n,k r2 (.inl r1),k r3 (.inl r4),r4,r5⟩
  | seq tup xs=>
   refine zk fun zz=>?_
   obtain ⟨r1,n,r2⟩:=r
   refine zz ?_;clear zz
   exact ⟨r1,n,k r2 (by cases tup <;> simp_all)⟩
  | raw P=>
   refine zk fun zz=>?_
   obtain ⟨r1,o',r2,r3⟩:=r
   refine zz ?_;clear zz
   exact ⟨r1,o',k r2 (.inl r1),r3⟩
  | frm P=>
   refine zk fun zz=>?_
   obtain ⟨r1,o',r2,r3⟩:=r
   refine zz ?_;clear zz
   exact ⟨r1,o',k r2 (.inl r1),r3⟩
  | exc C fs tb=>exact ⟨r.1,r.2.mono fun x o ⟨h1,h2⟩=>⟨k h1 (.inl h2),h2⟩⟩
 ·refine zk fun zz=>?_
  obtain ⟨g0,L₂,g1,g2,g3⟩:=l.O.2 env he
  refine zz ?_;clear zz
  refine ⟨g0,L₂,g1,g2,g3.imp id fun ⟨m₂,g3⟩=>⟨m₂,?_⟩⟩
  rwa [Map.set_ne fun z=>by rw [z,Map.set_self] at g3;exact hnf m₂ (Option.some.inj g3)] at g3
structure PWalk (prog:Program) (w:World) {K:Frag}(G:Gd K) (c:Cx) (I:Addr) (n:Nat) (P:Nat→Value→Prop) (It:Nat→Obj→Prop) (C:Map→Prop):Prop where
 item:∀ i ρ s m (Q:Option Value→Shared→Prop) (E:Value→Shared→Prop),i < n→C ρ→ρ I=none→St G c m (ρ.set I (.raw (It i))) s→(∀ v s',P i v→St G c m (ρ.set I (.raw (It (i+1)))) s'→Q (some v) s') →
  wpAny (model prog w) c.A (pyNext (.ref I)) Q E s
 done:∀ ρ s m (Q:Option Value→Shared→Prop) (E:Value→Shared→Prop),C ρ→ρ I=none→St G c m (ρ.set I (.raw (It n))) s→(∀ s',St G c m ρ s'→Q none s')→wpAny (model prog w) c.A (pyNext (.ref I)) Q E s
 self:∀ i ρ s m (Q:Value→Shared→Prop) (E:Value→Shared→Prop),C ρ→ρ I=none→St G c m (ρ.set I (.raw (It i))) s→Q (.ref I) s→wpAny (model prog w) c.A (pyIter (.ref I)) Q E s
theorem PWalk.of {I:Addr}{fp:List Addr}{n:Nat}{P:Nat→Value→Prop}{S:Nat→Heap→Prop}{It:Nat→Obj→Prop}{C:Map→Prop}(W:Walks prog w c.A I fp [I] n P S)
 (h1:∀ i ρ h m news own,C ρ→ρ I=none→Led G c m (ρ.set I (.raw (It i))) h news own→S i h) (h2:∀ i h,S i h→∃ o,h.get? I=some o∧It i o):PWalk prog w G c I n P It C where
 item:=fun i ρ s m Q E hi hC h0 hs hQ=>by
  refine St.on hs fun h tk news own hs l=>?_
  refine W.item i _ Q E hi (h1 i ρ h m news own hC h0 l) fun v h' tk' hP hS hk=>?_
  refine zk fun zz=>?_
  obtain ⟨o',ho',hI'⟩:=h2 _ _ hS
  obtain ⟨r1,o,r2,r3⟩:=l.R I _ Map.set_self
  refine zz ?_;clear zz
  have:=St.ext (tk:=tk') (ao:=.raw (It (i+1))) l r2 r1 (fun b o hb e=>hk b o (by simpa using hb) e) ho' ⟨r1,o',z8 r2,hI'⟩ (fun m z=>by rw [Map.set_self] at z;cases z)
  refine hQ v _ hP ?_
  have e:(ρ.set I (.raw (It i))).set I (.raw (It (i+1)))=ρ.set I (.raw (It (i+1))):=by
   funext b;unfold Map.set;by_cases z:b=I <;> simp [z]
  rwa [e] at this
 done:=fun ρ s m Q E hC h0 hs hQ=>by
  refine St.on hs fun h tk news own hs l=>?_
  refine W.done _ Q E (h1 n ρ h m news own hC h0 l) fun h' tk' hk=>?_
  refine zk fun zz=>?_
  obtain ⟨r1,o,r2,r3⟩:=l.R I _ Map.set_self
  refine zz ?_;clear zz
  exact hQ _ (St.gone l r2 r1 (fun b o hb e=>hk b o (by simpa using hb) e) h0 fun m z=>nomatch z)
 self:=fun i ρ s m Q E hC h0 hs hQ=>by
  revert hQ
  refine St.on hs fun h tk news own hs l hQ=>?_
  exact W.self i _ Q E (h1 i ρ h m news own hC h0 l) hQ
noncomputable def Iterable (prog:Program) (w:World) {K:Frag}(G:Gd K) (c:Cx) (v:Value) (n:Nat) (P:Nat→Value→Prop) (C:Map→Prop):Prop:=
 ∀ ρ s m (Q:Value→Shared→Prop) (E:Value→Shared→Prop),C ρ→St G c m ρ s→(∀ I It s',ρ I=none→St G c m (ρ.set I (.raw (It 0))) s'→(∀ c':Cx,c'.hd=none→PWalk prog w G c' I n P It C)→Q (.ref I) s')→wpAny (model prog w) c.A (pyIter v) Q E s
theorem St.push {h:Heap}{tk tk':Nat}{news:List (Addr × Obj)}{own:Addr→Option Addr}{o:Obj}{P:Obj→Prop}(l:Led G c m ρ h news own) (hP:P o) (hf:o.isFreed=false:=by rfl) :
 ρ h.objs.size=none∧St G c m (ρ.set h.objs.size (.raw P)) ⟨h.push o,G.fix.gens,G.fix.drawn,tk',G.fix.os⟩:=by
 have hg:=Heap.get?_push_size h hf
 have hab:G.g.get? h.objs.size=none:=by
  cases q:G.g.get? h.objs.size with
  | none=>rfl
  | some o'=>exact absurd (Heap.lt_size (l.F.keep _ _ q)) (Nat.lt_irrefl _)
 have hL:h.objs.size≠c.L:=fun z=>by
  refine zk fun zz=>?_
  obtain ⟨o',ho,_⟩:=jQ l.F.ns
  refine zz ?_;clear zz
  exact absurd (Heap.lt_size ho) (by rw [← z];exact Nat.lt_irrefl _)
 refine St.new (x:=some h.objs.size) l ⟨l.F.ns.at' fun o' e=>Heap.get?_push_of_some _ e,fun b o' e=>Heap.get?_push_of_some _ (l.F.keep b o' e),l.F.above⟩ (fun q hq=>?_) (fun q hq=>l.news_lt hq) ⟨by simp,o,.head _,hP⟩
 rcases List.mem_cons.mp hq with rfl | hq
 ·exact ⟨hg,hL,hab⟩
 ·have:=l.N q hq;exact ⟨Heap.get?_push_of_some _ this.1,this.2⟩
noncomputable def LIter (l:Addr) (i:Nat) (o:Obj):Prop:=o.cls = .type "list_iterator"∧o.data = .fields #[.ref l,.int i 0]
theorem Iterable.list {a:Addr}{xs:List Value}:Iterable prog w G c (.ref a) xs.length (fun i v=>xs[i]? = some v) (fun ρ=>ρ a=some (.seq false xs)):=by
 intro ρ s m Q E hC hs hQ
 refine St.on hs fun h tk news own hs l=>?_
 refine wpAny_pyIter_list (l.isList hC) ?_
 obtain ⟨r1,r2⟩:=St.push (tk:=tk) (tk':=tk) (P:=LIter a 0) (o:={ cls:=.type "list_iterator",data:=.fields #[.ref a,.int 0 0] }) l ⟨rfl,rfl⟩
 have hne:a≠h.objs.size:=fun z=>by rw [← z,hC] at r1;cases r1
 refine hQ _ (LIter a) _ r1 r2 fun c' hh=>?_
 have W:=Walks.list (prog:=prog) (w:=w) (A:=c'.A) hh h.objs.size a hne xs.toArray
 refine PWalk.of (S:=fun i h'=>h'.IsListIter h.objs.size a i∧h'.IsList a xs.toArray) (by simpa using W) (fun i ρ' h' m' news' own' hC' h0' l'=>?_) fun i h' hS=>?_
 ·refine zk fun zz=>?_
  obtain ⟨q1,o,q2,q3⟩:=l'.R _ _ Map.set_self
  refine zz ?_;clear zz
  exact ⟨⟨o,(l'.N _ q2).1,q3⟩,l'.isList ((Map.set_ne hne).trans hC')⟩
 ·refine zk fun zz=>?_
  obtain ⟨o,g1,g2⟩:=hS.1
  refine zz ?_;clear zz
  exact ⟨o,g1,g2⟩
theorem Led.isTuple {ρ:Map}{h:Heap}{news:List (Addr × Obj)}{own:Addr→Option Addr}(l:Led G c m ρ h news own) {a:Addr}{xs:List Value}(hx:ρ a=some (.seq true xs)):h.IsTuple a xs.toArray:=by
 refine zk fun zz=>?_
 obtain ⟨n,h1,_⟩:=l.seqAt hx
 refine zz ?_;clear zz
 exact ⟨_,(l.N _ h1).1,rfl,n,rfl⟩
noncomputable def TIter (l:Addr) (i:Nat) (o:Obj):Prop:=o.cls = .type "tuple_iterator"∧o.data = .fields #[.ref l,.int i 0]
theorem Iterable.tuple {a:Addr}{xs:List Value}:Iterable prog w G c (.ref a) xs.length (fun i v=>xs[i]? = some v) (fun ρ=>ρ a=some (.seq true xs)):=by
 intro ρ s m Q E hC hs hQ
 refine St.on hs fun h tk news own hs l=>?_
 refine wpAny_pyIter_tuple (l.isTuple hC) ?_
 obtain ⟨r1,r2⟩:=St.push (tk:=tk) (tk':=tk) (P:=TIter a 0) (o:={ cls:=.type "tuple_iterator",data:=.fields #[.ref a,.int 0 0] }) l ⟨rfl,rfl⟩
 have hne:a≠h.objs.size:=fun z=>by rw [← z,hC] at r1;cases r1
 refine hQ _ (TIter a) _ r1 r2 fun c' hh=>?_
 have W:=Walks.tuple (prog:=prog) (w:=w) (A:=c'.A) hh h.objs.size a hne xs.toArray
 refine PWalk.of (S:=fun i h'=>h'.IsTupleIter h.objs.size a i∧h'.IsTuple a xs.toArray) (by simpa using W) (fun i ρ' h' m' news' own' hC' h0' l'=>?_) fun i h' hS=>?_
 ·refine zk fun zz=>?_
  obtain ⟨q1,o,q2,q3⟩:=l'.R _ _ Map.set_self
  refine zz ?_;clear zz
  exact ⟨⟨o,(l'.N _ q2).1,q3⟩,l'.isTuple ((Map.set_ne hne).trans hC')⟩
 ·refine zk fun zz=>?_
  obtain ⟨o,g1,g2⟩:=hS.1
  refine zz ?_;clear zz
  exact ⟨o,g1,g2⟩
@[reducible] noncomputable def NoX:Str→Map→Prop:=fun _ _=>False
@[reducible] noncomputable def FlowJ (J:Loc→Map→Prop) (Q:Flow→Loc→Map→Prop):Flow→Loc→Map→Prop:=fun f m' σ'=>match f with | .next | .cont=>J m' σ' | .brk=>Q .next m' σ' | .ret v=>Q (.ret v) m' σ'
inductive ForK (Y:Fly) (x:Str) (body orelse:List Stmt) (c:Cx) (Q:Flow→Loc→Map→Prop) (v:Value) (m':Loc) (σ':Map):Prop
 | mk (n:Nat) (P:Nat→Value→Prop) (C:Map→Prop) (J:Nat→Loc→Map→Prop) (it:Iterable prog w G c v n P C) (h1:∀ i m σ τ,J i m σ→C (σ.or τ)) (h2:J 0 m' σ')
  (turn:∀ i v m σ,i < n→P i v→J i m σ→POK prog w G Y c (execs body c.env) (m.set x v) σ (FlowJ (J (i+1)) Q) NoX) (fin:∀ m σ,J n m σ→POK prog w G Y c (execs orelse c.env) m σ Q NoX):ForK Y x body orelse c Q v m' σ'
theorem P_for (hh:c.hd=none) {x:Str}{np pos:Pos}{iter:PySem.Expr}{body orelse:List Stmt}{Q:Flow→Loc→Map→Prop}
 (h:POK prog w G Y c (eval iter c.env) m σ (ForK Y x body orelse c Q) X)
 (hl:SLoc x c:=by kernel_rfl) (hf:∀ x,foldedSetIterable iter c.env x=Pure.pure x:=by intro _;rfl):POK prog w G Y c (exec (.For (.Name x np) iter body orelse pos) c.env) m σ Q X:=.of fun τ s hd hs=>by
 refine wpAny_For (h.wp hd hs fun v s₁ m₁ σ₁ hd₁ hs₁ zq=>?_) hf
 refine zk fun zz=>?_
 obtain ⟨n,P,C,J,hI,hJC,hJ0,turn,fin⟩:=zq
 refine zz ?_;clear zz
 refine hI (σ₁.or τ) s₁ m₁ _ _ (hJC _ _ _ _ hJ0) hs₁ fun I It s₂ hI0 hs₂ W'=>?_
 have W:=W' c hh
 obtain ⟨i0,t0⟩:=Map.or_none hI0
 refine codeAny_forLoop (fun k s'=>∃ i m' σ',k=n - i∧i≤n∧J i m' σ'∧Disj σ' (τ.set I (.raw (It i)))∧St G c m' (σ'.or (τ.set I (.raw (It i)))) s') ?_ n ?_
 ·rintro k s' ⟨i,m',σ',rfl,hi,hJ,hd',hs'⟩
  have s0:=(zV hd').1
  have hd'':=(zV hd').2
  rw [zE s0] at hs'
  have r0:(σ'.or τ) I=none:=by unfold Map.or;rw [s0];exact t0
  by_cases hn:i < n
  ·refine W.item i (σ'.or τ) s' m' _ _ hn (hJC _ _ _ _ hJ) r0 hs' fun v s₃ hP hs₃=>?_
   refine wpAny_assign_Name ((zx (Y:=Y) (c:=c) (X:=fun _ _=>False) (x:=x) (v:=v) (Q:=fun _ m₂ σ₂=>m₂=m'.set x v∧σ₂=σ') ⟨rfl,rfl⟩ hl).wpAs (hd''.setR s0) (by rw [zE s0];exact hs₃) fun _ s₄ hd₄ hs₄=>?_)
   refine wpAny_mono ((turn i v m' _ hn hP hJ).go _ _ hd₄ hs₄) (fun f s₅ zq=>?_) fun e s' z=>z.no
   refine zk fun zz=>?_
   obtain ⟨m₅,σ₅,hd₅,hs₅,q⟩:=zq
   refine zz ?_;clear zz
   ·have out:Disj σ₅ τ∧St G c m₅ (σ₅.or τ) s₅:=by
     have s5:=(zV hd₅).1
     refine ⟨(zV hd₅).2,?_⟩
     rw [zE s5] at hs₅
     refine St.on hs₅ fun hp tk news own hs₅ l=>?_
     refine zk fun zz=>?_
     obtain ⟨r1,o,r2,r3⟩:=l.R I _ Map.set_self
     refine zz ?_;clear zz
     exact St.gone l r2 r1 (Heap.ExtBut.refl _ _) (by unfold Map.or;rw [s5];exact t0) fun m z=>nomatch z
    cases f with
    | next=>exact ⟨n - (i+1),by omega,i+1,m₅,σ₅,rfl,hn,q,hd₅,hs₅⟩
    | cont=>exact ⟨n - (i+1),by omega,i+1,m₅,σ₅,rfl,hn,q,hd₅,hs₅⟩
    | brk=>exact ⟨m₅,σ₅,out.1,out.2,q⟩
    | ret v=>exact ⟨m₅,σ₅,out.1,out.2,q⟩
  ·have e:n=i:=by omega
   subst e
   refine W.done (σ'.or τ) s' m' _ _ (hJC _ _ _ _ hJ) r0 hs' fun s₃ hs₃=>?_
   exact wpAny_mono ((fin m' σ' hJ).go _ _ hd'' hs₃) (fun f s₅ q=>q) fun e s' z=>z.no
 ·refine ⟨0,m₁,σ₁,rfl,Nat.zero_le _,hJ0,hd₁.setR i0,by rw [zE i0];exact hs₂⟩
noncomputable def Fly.Loops (prog:Program) (w:World) (Y:Fly) (c:Cx):Prop:=
 ∀ (e:Value) (dv:Str) (ρ:Map) (s:Shared) (E:Value→Shared→Prop),Y.up c e dv ρ s→(∀ s',Y.up c e dv ρ s'→E e s')→notedBy (model prog w) c.A c.env (fun e s'=>cameBackBy (model prog w) c.A c.env E e s') e s
theorem P_while {Y:Fly}{c:Cx}{X:Str→Map→Prop}{pos:Pos}{test:PySem.Expr}{body orelse:List Stmt}{m:Loc}{σ:Map}{Q:Flow→Loc→Map→Prop}(hY:Fly.Loops prog w Y c) (J:Nat→Loc→Map→Prop) (n:Nat) (h0:J n m σ) (turn:∀ n m σ,J n m σ→POK prog w G Y c (PySem.isTrue test c.env (eval test c.env)) m σ (fun b m' σ'=>
 (b=true→POK prog w G Y c (execs body c.env) m' σ' (fun f m₂ σ₂=>match f with | .next | .cont=>∃ k,k < n∧J k m₂ σ₂ | .brk=>Q .next m₂ σ₂ | .ret v=>Q (.ret v) m₂ σ₂) X) ∧
 (b=false→POK prog w G Y c (execs orelse c.env) m' σ' Q X)) X):POK prog w G Y c (exec (.While test body orelse pos) c.env) m σ Q X:=.of fun τ s hd hs=>by
 have up:∀ e s',XH Y c τ X e s'→notedBy (model prog w) c.A c.env (fun e s'=>cameBackBy (model prog w) c.A c.env (XH Y c τ X) e s') e s':=fun e s' z=>z.on fun d σ' a b q=>
  hY e d _ s' _ b fun s'' b'=>⟨d,σ',a,b',q⟩
 refine wpAny_While (codeAny_whileLoop (fun k s'=>∃ m' σ',J k m' σ'∧Disj σ' τ∧St G c m' (σ'.or τ) s') ?_ n ⟨m,σ,h0,hd,hs⟩)
 rintro k s' ⟨m',σ',hJ,hd',hs'⟩
 refine wpAny_mono ((turn k m' σ' hJ).go _ _ hd' hs') (fun b s₂ zq=>?_) up
 refine zk fun zz=>?_
 obtain ⟨m₂,σ₂,a₂,b₂,q₂⟩:=zq
 refine zz ?_;clear zz
 cases b with
 | true=>
  rw [if_pos rfl]
  refine wpAny_mono ((q₂.1 rfl).go _ _ a₂ b₂) (fun f s₃ zq=>?_) up
  refine zk fun zz=>?_
  obtain ⟨m₃,σ₃,a₃,b₃,q₃⟩:=zq
  refine zz ?_;clear zz
  cases f with
  | next=>obtain ⟨k',hk',j⟩:=q₃;exact ⟨k',hk',m₃,σ₃,j,a₃,b₃⟩
  | cont=>obtain ⟨k',hk',j⟩:=q₃;exact ⟨k',hk',m₃,σ₃,j,a₃,b₃⟩
  | brk=>exact ⟨m₃,σ₃,a₃,b₃,q₃⟩
  | ret v=>exact ⟨m₃,σ₃,a₃,b₃,q₃⟩
 | false=>
  rw [if_neg (by decide)]
  exact wpAny_mono ((q₂.2 rfl).go _ _ a₂ b₂) (fun f s₃ q=>q) up
end
noncomputable def edP (d:Addr) (o:Obj):Prop:=(d == sysModules)=false∧o.ExactDict∧∃ ep,o.data = .dict #[] ep
noncomputable def sdP (prog:Program) (w:World) (d:Addr) (kvs:List (Str × Value)) (o:Obj):Prop:=(d == sysModules)=false∧o.IsDictOf (strKind prog w) kvs
noncomputable def sdE (prog:Program) (w:World) (d:Addr) (kvs:List (Str × Value)) (ep:Nat) (o:Obj):Prop:=(d == sysModules)=false∧KdkAt (strKind prog w) o kvs ep
section
variable {Y:Fly}{c:Cx}{X:Str→Map→Prop}{m:Loc}{σ τ ρ:Map}{α β:Type}
theorem Led.rawAt {h:Heap}{news:List (Addr × Obj)}{own:Addr→Option Addr}(l:Led G c m ρ h news own) {a:Addr}{P:Obj→Prop}(hx:ρ a=some (.raw P)):∃ o,(a,o)∈news∧own a=some a∧P o:=by
 refine zk fun zz=>?_
 obtain ⟨h1,o,h2,h3⟩:=l.R a _ hx
 refine zz ?_;clear zz
 exact ⟨o,h2,h1,h3⟩
theorem St.reraw {s:Shared}{a:Addr}{P:Obj→Prop}(hx:ρ a=some (.raw P)) (hs:St G c m ρ s):∃ o,P o∧∀ P':Obj→Prop,P' o→St G c m (ρ.set a (.raw P')) s:=by
 refine St.on hs fun h tk news own hs l=>?_
 refine zk fun zz=>?_
 obtain ⟨o,h1,h2,h3⟩:=l.rawAt hx
 refine zz ?_;clear zz
 refine ⟨o,h3,fun P' h'=>⟨h,tk,news,own,rfl,l.F,l.N,l.nd,fun b bo hb=>?_,Led.outs_set l.O fun m z=>by rw [hx] at z;cases z⟩⟩
 by_cases e:b=a
 ·subst e
  rw [Map.set_self] at hb
  first | exact nb hb | exact nt hb | cases hb
  exact ⟨h2,o,h1,h'⟩
 ·rw [Map.set_ne e] at hb
  exact l.R b bo hb
theorem POK.reraw {t:Sem α}{Q:α→Loc→Map→Prop}{a:Addr}{P:Obj→Prop}(hx:σ a=some (.raw P)) (h:∀ o,P o→∃ P':Obj→Prop,P' o∧POK prog w G Y c t m (σ.set a (.raw P')) Q X):POK prog w G Y c t m σ Q X:=
 .of fun τ s hd hs=>by
  refine zk fun zz=>?_
  obtain ⟨o,ho,k⟩:=hs.reraw (Map.or_some hx)
  obtain ⟨P',h',hp⟩:=h o ho
  refine zz ?_;clear zz
  exact hp.go τ s (hd.set (hd.none_of hx)) (by rw [Map.set_or];exact k P' h')
theorem POK.weak {t:Sem α}{Q:α→Loc→Map→Prop}{a:Addr}{P P':Obj→Prop}(hx:σ a=some (.raw P)) (hP:∀ o,P o→P' o) (h:POK prog w G Y c t m (σ.set a (.raw P')) Q X):POK prog w G Y c t m σ Q X:=
 POK.reraw hx fun o ho=>⟨P',hP o ho,h⟩
theorem edP.str {d:Addr}{o:Obj}(h:edP d o):sdP prog w d [] o:=by
 refine zk fun zz=>?_
 obtain ⟨h1,h2,ep,h3⟩:=h
 refine zz ?_;clear zz
 exact ⟨h1,#[],ep,h2,h3,fun e he=>by simp at he,.nil,List.nodup_nil⟩
theorem js {Y:Fly}{c:Cx}{X:Str→Map→Prop}{pos:Pos}{m:Loc}{σ:Map}{Q:Value→Loc→Map→Prop}(h:∀ d,σ d=none→Q (.ref d) m (σ.set d (.raw (edP d)))):POK prog w G Y c (eval (.Dict [] [] pos) c.env) m σ Q X:=.of fun τ s hd hs=>by
 refine St.on hs fun hp tk news own hs l=>?_
 refine newDict_K l.F l.N (G.T l.O.1).nolimit fun a h' o F' N' ha lo hs _ _ _=>?_
 have hP:edP a o:=by
  refine zk fun zz=>?_
  obtain ⟨es,ep,q1,q2,q3,q4,q5⟩:=hs
  refine zz ?_;clear zz
  refine ⟨lo,q1,ep,?_⟩
  have:es=#[]:=by
   have:=q4.length
   simpa using this
  rw [← this];exact q2
 refine zk fun zz=>?_
 obtain ⟨r1,r2⟩:=St.new (tk:=tk) (x:=some a) (ao:=.raw (edP a)) l F' N' ha ⟨by simp,o,.head _,hP⟩
 obtain ⟨s1,s2⟩:=Map.or_none r1
 refine zz ?_;clear zz
 exact ⟨m,_,hd.set s2,by rw [Map.set_or];exact r2,h _ s1⟩
theorem P_emptyDictS {Y:Fly}{c:Cx}{X:Str→Map→Prop}{pos:Pos}{m:Loc}{σ:Map}{Q:Value→Loc→Map→Prop}(h:∀ d,σ d=none→Q (.ref d) m (σ.set d (.raw (sdP prog w d [])))):POK prog w G Y c (eval (.Dict [] [] pos) c.env) m σ Q X:=.of fun τ s hd hs=>by
 refine wpAny_mono ((js (Y:=Y) (X:=X) (pos:=pos) (Q:=fun v m' σ'=>∃ d,σ d=none∧v = .ref d∧m'=m∧σ'=σ.set d (.raw (edP d))) fun d h0=>⟨d,h0,rfl,rfl,rfl⟩).go τ s hd hs) (fun v s' zq=>?_) fun _ _ x=>x
 refine zk fun zz=>?_
 obtain ⟨m',σ',a,b,d,h0,e1,e2,e3⟩:=zq
 refine zz ?_;clear zz
 subst e1 e2 e3
 refine zk fun zz=>?_
 obtain ⟨o,ho,k⟩:=b.reraw (a:=d) (P:=edP d) (Map.or_some Map.set_self)
 refine zz ?_;clear zz
 have hd':τ d=none:=a.none_of Map.set_self
 refine ⟨_,σ.set d (.raw (sdP prog w d [])),hd.set hd',?_,h d h0⟩
 have:=k _ (edP.str ho)
 rw [Map.set_or] at this ⊢
 have e:((σ.or τ).set d (.raw (edP d))).set d (.raw (sdP prog w d []))=(σ.or τ).set d (.raw (sdP prog w d [])):=by
  funext b;unfold Map.set;by_cases z:b=d <;> simp [z]
 rwa [e] at this
variable {d:Addr}{kvs:List (Str × Value)}{k:Str}{t:Tok}
theorem strKind_is' (k:Str) (t:Tok):(strKind prog w).is k (.str k t)=true:=strKind_is _ _ _ _
theorem P_notInD {Q:Value→Loc→Map→Prop}(hx:σ d=some (.raw (sdP prog w d kvs))) (h:Q (.bool (!(valueAt kvs k).isSome)) m σ):POK prog w G Y c (compareOp .NotIn (.str k t) (.ref d)) m σ Q X:=.of fun τ s hd hs=>by
 refine St.on hs fun hp tk news own hs l=>?_
 refine zk fun zz=>?_
 obtain ⟨o,h1,h2,h3⟩:=l.rawAt (Map.or_some hx)
 refine zz ?_;clear zz
 exact kdg_notin l.N h1 h3.2 h3.1 (strKind_is' k t) _ rfl ⟨m,σ,hd,hs.toks _,h⟩
theorem jk {Y:Fly}{c:Cx}{X:Str→Map→Prop}{value slice:PySem.Expr}{m:Loc}{σ:Map}{v:Value}{Q:Value→Loc→Map→Prop}(hx:σ d=some (.raw (sdP prog w d kvs))) (hv:valueAt kvs k=some v) (h:Q v m σ) (hs:subscripted slice false (.ref d) (.str k t)=operate [.ref d,.str k t] (getItem (.ref d) (.str k t)):=by kernel_rfl):POK prog w G Y c (subscriptTail value slice (.ref d) (.str k t)) m σ Q X:=.of fun τ s hd hs'=>by
 refine St.on hs' fun hp tk news own hs' l=>?_
 refine zk fun zz=>?_
 obtain ⟨o,h1,h2,h3⟩:=l.rawAt (Map.or_some hx)
 refine zz ?_;clear zz
 exact kdt_tail l.N h1 h3.2 (kdt_getItem l.N h1 h3.2 (strKind_is' k t) hv ⟨m,σ,hd,hs'.toks _,h⟩) hs
theorem P_getMethD {pl:Sem Bool}{Q:Value × List Value→Loc→Map→Prop}(hx:σ d=some (.raw (sdP prog w d kvs))) (h:Q (.builtin "dict.get",[.ref d]) m σ):POK prog w G Y c (getMethod (.ref d) "get" pl) m σ Q X:=.of fun τ s hd hs=>by
 refine St.on hs fun hp tk news own hs l=>?_
 refine zk fun zz=>?_
 obtain ⟨o,h1,h2,h3⟩:=l.rawAt (Map.or_some hx)
 refine zz ?_;clear zz
 exact kdg_method l.N h1 h3.2 ⟨m,σ,hd,hs,h⟩
theorem P_get2 {dflt:Value}{Q:Value→Loc→Map→Prop}(hx:σ d=some (.raw (sdP prog w d kvs))) (h:Q ((valueAt kvs k).getD dflt) m σ):POK prog w G Y c (call (.builtin "dict.get") [.ref d,.str k t,dflt]) m σ Q X:=.of fun τ s hd hs=>by
 refine St.on hs fun hp tk news own hs l=>?_
 refine zk fun zz=>?_
 obtain ⟨o,h1,h2,h3⟩:=l.rawAt (Map.or_some hx)
 refine zz ?_;clear zz
 exact kdg_get2 l.N h1 h3.2 h3.1 (strKind_is' k t) _ rfl ⟨m,σ,hd,hs.toks _,h⟩
theorem P_setD {v:Value}{Q:Unit→Loc→Map→Prop}(hx:σ d=some (.raw (sdP prog w d kvs))) (hz:kvs.length≤sizeLine) (h:Q () m (σ.set d (.raw (sdP prog w d (stored kvs k v))))) :
 POK prog w G Y c (setItem (.ref d) (.str k t) v) m σ Q X:=.of fun τ s hd hs=>by
 refine St.on hs fun hp tk news own hs l=>?_
 refine zk fun zz=>?_
 obtain ⟨o,h1,h2,h3⟩:=l.rawAt (Map.or_some hx)
 refine zz ?_;clear zz
 refine wpAny_setItem_pairs (hsz:=hz) (strKind_is' k t) (Heap.dictOf_iff.mpr ⟨o,(l.N _ h1).1,h3.2⟩) fun h' hmm hs=>?_
 refine zk fun zz=>?_
 obtain ⟨o',ho',hd'⟩:=Heap.dictOf_iff.mp hmm
 refine zz ?_;clear zz
 refine ⟨m,_,hd.set (hd.none_of hx),?_,h⟩
 rw [Map.set_or]
 exact St.ext l h1 h2 hs.extBut ho' ⟨h2,o',z8 h1,h3.1,hd'⟩ fun m z=>by rw [Map.or_some hx] at z;cases z
theorem Iterable.dict {ep:Nat}:Iterable prog w G c (.ref d) kvs.length (fun i v=>∃ k x t,kvs[i]? = some (k,x)∧v = .str k t) (fun ρ=>ρ d=some (.raw (sdE prog w d kvs ep))):=by
 intro ρ s m Q E hC hs hQ
 refine St.on hs fun h tk news own hs l=>?_
 refine zk fun zz=>?_
 obtain ⟨o,h1,h2,h3⟩:=l.rawAt hC
 refine zz ?_;clear zz
 refine wpAny_pyIter_dict h3.1 (h3.2.dictAt (l.N _ h1).1) ?_
 obtain ⟨r1,r2⟩:=St.push (tk:=tk) (tk':=tk) (P:=fun o=>KdkIter o d 0 kvs.length ep) (o:={ cls:=.type "dict_keyiterator",data:=.fields #[.ref d,.int 0 0,.int kvs.length 0,.int ep 0] }) l ⟨rfl,rfl⟩
 have hne:d≠h.objs.size:=fun z=>by rw [← z,hC] at r1;cases r1
 refine hQ _ (fun i o=>KdkIter o d i kvs.length ep) _ r1 r2 fun c' hh=>?_
 have W:=Walks.dictKeys (knd:=strKind prog w) (A:=c'.A) hh h.objs.size d hne kvs ep
 have W':=PWalk.of (S:=_) (It:=fun i o=>KdkIter o d i kvs.length ep) (C:=fun ρ=>ρ d=some (.raw (sdE prog w d kvs ep))) W (fun i ρ' h' m' news' own' hC' h0' l'=>?_) fun i h' hS=>?_
 ·refine ⟨fun i ρ s m Q E hi hC h0 hs hQ=>W'.item i ρ s m Q E hi hC h0 hs fun v s' ⟨k,x,e1,e2⟩=>hQ v s' ?_,W'.done,W'.self⟩
  obtain ⟨t,rfl⟩:=Value.isStrOf_shape e2
  exact ⟨k,x,t,e1,rfl⟩
 ·refine zk fun zz=>?_
  obtain ⟨oI,q1,_,q3⟩:=l'.rawAt (a:=h.objs.size) Map.set_self
  obtain ⟨o',g1,_,g3⟩:=l'.rawAt ((Map.set_ne hne).trans hC')
  refine zz ?_;clear zz
  exact ⟨q3.at (l'.N _ q1).1,g3.2.dictAt (l'.N _ g1).1⟩
 ·refine zk fun zz=>?_
  obtain ⟨o',g1,g2,g3⟩:=hS.1
  refine zz ?_;clear zz
  exact ⟨o',g1,g2,g3⟩
theorem POK.openD {t:Sem α}{Q:α→Loc→Map→Prop}(hx:σ d=some (.raw (sdP prog w d kvs))) (h:∀ ep,POK prog w G Y c t m (σ.set d (.raw (sdE prog w d kvs ep))) Q X):POK prog w G Y c t m σ Q X:=
 POK.reraw hx fun o ho=>by
  obtain ⟨ep,he⟩:=KdkAt.of ho.2
  exact ⟨_,⟨ho.1,he⟩,h ep⟩
theorem sdE.close {ep:Nat}{o:Obj}(h:sdE prog w d kvs ep o):sdP prog w d kvs o:=by
 refine zk fun zz=>?_
 obtain ⟨h1,es,h2⟩:=h
 refine zz ?_;clear zz
 exact ⟨h1,es,ep,h2⟩
end
noncomputable abbrev Cx.comp (c:Cx) (scope:Scope) (cl:List (Str × Addr)) (hk:scope.kind = .function) (C:Addr):Cx:={ c with cs:=relabel scope c.env,fn:=none,cl:=cl,L:=C,hk:=hk }
@[reducible] noncomputable def StQ (y:Str) (Q:Flow→Loc→Map→Prop):Value→Loc→Map→Prop:=fun v m' σ'=>Q .next (m'.set y v) σ'
inductive CompK (Y:Fly) (elt:PySem.Expr) (x:Str) (ifs:List PySem.Expr) (scope:Scope) (cl:List (Str × Addr)) (hk:scope.kind = .function) (c:Cx) (Q:Value→Loc→Map→Prop) (v:Value) (m':Loc) (σ':Map):Prop
 | mk (n:Nat) (P:Nat→Value→Prop) (C:Map→Prop) (J:Nat→List Value→Map→Prop) (it:Iterable prog w G c v n P C) (hn:n≤sizeLine) (h1:∀ i ys σ τ,J i ys σ→C (σ.or τ)) (h2:∀ i ys σ,J i ys σ→ys.length≤i) (h3:J 0 [] σ')
  (turn:∀ Cd i v ys m₁ σ,i < n→P i v→J i ys σ→m₁ x=some v→POK prog w G Y (c.comp scope cl hk Cd) (forIn ifs true fun e r=>if r=true then do let ok ← PySem.isTrue e (c.comp scope cl hk Cd).env (eval e (c.comp scope cl hk Cd).env);pure (ForInStep.yield ok) else pure (ForInStep.yield r)) m₁ σ
   (fun ok m₂ σ₂=>(ok=true→POK prog w G Y (c.comp scope cl hk Cd) (eval elt (c.comp scope cl hk Cd).env) m₂ σ₂ (fun y m₃ σ₃=>J (i+1) (ys ++ [y]) σ₃) NoX)∧(ok=false→J (i+1) ys σ₂)) NoX)
  (fin:∀ ys σ D,J n ys σ→σ D=none→Q (.ref D) m' (σ.set D (.seq false ys))):CompK Y elt x ifs scope cl hk c Q v m' σ'
section
variable {Y:Fly}{c:Cx}{X:Str→Map→Prop}{m:Loc}{σ τ ρ:Map}{α β:Type}
theorem St.enter {scope:Scope}{cl:List (Str × Addr)}{hk:scope.kind = .function}{h h':Heap}{news:List (Addr × Obj)}{own:Addr→Option Addr}{tk:Nat}{ob:Obj}{m':Loc}(l:Led G c m ρ h news own)
 (hns:h'.Ns h.objs.size m') (hs:Heap.SameBut h.objs.size (h.push ob) h'):St G (c.comp scope cl hk h.objs.size) m' (ρ.set c.L (.frm m)) ⟨h',G.fix.gens,G.fix.drawn,tk,G.fix.os⟩:=by
 refine zk fun zz=>?_
 obtain ⟨oL,hoL,hfL⟩:=jQ l.F.ns
 refine zz ?_;clear zz
 have old:∀ b o,h.get? b=some o→h'.get? b=some o:=fun b o e=>hs.extBut b o (Nat.ne_of_lt (Heap.lt_size e)) (Heap.get?_push_of_some _ e)
 have hne:∀ q∈news,q.1≠c.L:=fun q hq=>(l.N q hq).2.1
 have R':=(l.R.new (d:=c.L) (o:=oL) (x:=some c.L) (ao:=.frm m) hne ⟨by simp,oL,.head _,hfL⟩).2
 refine ⟨h',tk,(c.L,oL) :: news,_,rfl,⟨hns,fun b o e=>old _ _ (l.F.keep b o e),Nat.le_of_lt (Nat.lt_of_le_of_lt l.F.above (Heap.lt_size hoL))⟩,fun q hq=>?_,jW l.nd hne,R',l.O.1,fun env he=>?_⟩
 ·rcases List.mem_cons.mp hq with rfl | hq
  ·exact ⟨old _ _ hoL,Nat.ne_of_lt (Heap.lt_size hoL),g_none l.F⟩
  ·exact ⟨old _ _ (l.N q hq).1,Nat.ne_of_lt (l.news_lt hq),(l.N q hq).2.2⟩
 ·refine zk fun zz=>?_
  obtain ⟨g0,L₂,g1,g2,g3⟩:=l.O.2 env he
  refine zz ?_;clear zz
  refine ⟨g0,L₂,g1,g2,.inr ?_⟩
  by_cases z:L₂=c.L
  ·exact ⟨m,by rw [z];exact Map.set_self⟩
  ·rcases g3 with g3 | ⟨m₂,g3⟩
   ·exact absurd g3 z
   ·exact ⟨m₂,(Map.set_ne z).trans g3⟩
theorem P_ifsNil {Q:Bool→Loc→Map→Prop}(h:Q true m σ) :
 POK prog w G Y c (forIn ([]:List PySem.Expr) true fun e r=>if r=true then do let ok ← PySem.isTrue e c.env (eval e c.env);pure (ForInStep.yield ok) else pure (ForInStep.yield r)) m σ Q X:=POK.pure h
theorem P_ifsOne {Y:Fly}{c:Cx}{X:Str→Map→Prop}{e:PySem.Expr}{m:Loc}{σ:Map}{Q:Bool→Loc→Map→Prop}(h:POK prog w G Y c (PySem.isTrue e c.env (eval e c.env)) m σ Q X) :
 POK prog w G Y c (forIn [e] true fun e r=>if r=true then do let ok ← PySem.isTrue e c.env (eval e c.env);pure (ForInStep.yield ok) else pure (ForInStep.yield r)) m σ Q X:=.of fun τ s hd hs=>by
 have e1:(forIn [e] true fun e r=>if r=true then do let ok ← PySem.isTrue e c.env (eval e c.env);pure (ForInStep.yield ok) else pure (ForInStep.yield r):Sem Bool)=PySem.isTrue e c.env (eval e c.env):=by
  simp
 rw [e1]
 exact h.go τ s hd hs
theorem or_pull {σ τ:Map}{D I:Addr}{ao bo:AO}(hD:σ D=none) (hne:D≠I):σ.or ((τ.set D ao).set I bo)=(σ.set D ao).or (τ.set I bo):=by
 funext b
 unfold Map.or Map.set
 by_cases z1:b=I
 ·subst z1
  have:¬ b=D:=fun z=>hne z.symm
  simp [this]
 ·by_cases z2:b=D
  ·subst z2;simp [z1,hD]
  ·simp [z1,z2]
theorem Led.sizeNe {ρ:Map}{H:Heap}{news:List (Addr × Obj)}{own:Addr→Option Addr}(l:Led G c m ρ H news own):H.objs.size≠c.L:=fun z=>by
 obtain ⟨oL,hoL,hfL⟩:=jQ l.F.ns
 exact absurd (Heap.lt_size hoL) (by rw [← z];exact Nat.lt_irrefl _)
theorem Led.frNe {ρ:Map}{H:Heap}{news:List (Addr × Obj)}{own:Addr→Option Addr}(l:Led G c m ρ H news own):∀ env∈c.fr,env.frame≠some H.objs.size:=fun env he z=>by
 obtain ⟨g0,L₂,g1,g2,g3⟩:=l.O.2 env he
 have e:L₂=H.objs.size:=Option.some.inj (g1.symm.trans z)
 rcases g3 with g3 | ⟨m₂,g3⟩
 ·exact l.sizeNe (e.symm.trans g3)
 ·obtain ⟨r1,o',r2,r3⟩:=l.R _ _ g3
  exact absurd (l.news_lt r2) (e ▸ Nat.lt_irrefl _)
theorem compCore {cp:Pos}{use:Option (Value→Sem Unit)}{Qs:Value→Shared→Prop}{s:Shared}(hd:Disj σ τ) (hs:St G c m (σ.or τ) s) (hh:c.hd=none) {elt iter:PySem.Expr}{x:Str}{px pos:Pos}{ifs:List PySem.Expr}{scope:Scope}{cl:List (Str × Addr)}{Q:Value→Loc→Map→Prop}
 (hclos:closureFor scope c.env=pure cl) (hk:scope.kind = .function) (hcell:∀ y∈scope.names,y.2≠.cell)
 (hnames:∀ y∈scope.names,y.2 = .local→scope.names.lookup y.1=some .local) (hx:scope.names.lookup x=some .local)
 (h:POK prog w G Y c (eval iter c.env) m σ (CompK Y elt x ifs scope cl hk c Q) X)
 (hend:∀ D m₁ σ₂ C m' s₅ f,Q (.ref D) m₁ σ₂→Disj σ₂ τ→(∀ env∈c.fr,env.frame≠some C)→C≠c.L→G.g.objs.size≤c.L→(σ₂.or τ) c.L=none→St G (c.comp scope cl hk C) m' ((σ₂.or τ).set c.L (.frm m₁)) s₅ →
  compPost (model prog w) c.A (XH Y c τ X) use Qs (.ref D) C (.ok f) s₅)
 (hf:∀ x,foldedSetIterable iter c.env x=Pure.pure x):wpAny (model prog w) c.A (comprehension (.ListComp elt [⟨.Name x px,iter,ifs,0⟩] scope pos) scope c.env cp (newList []) false (eval iter c.env) use) Qs (XH Y c τ X) s:=by
 refine wpAny_comprehension_free (use:=use) rfl hf hclos hk hnames (h.wp hd hs fun v s₁ m₁ σ₁ hd₁ hs₁ zq=>?_)
 refine zk fun zz=>?_
 obtain ⟨n,P,C,J,hI,hn,hJC,hJl,hJ0,turn,fin⟩:=zq
 refine zz ?_;clear zz
 refine hI (σ₁.or τ) s₁ m₁ _ _ (hJC _ _ _ _ hJ0) hs₁ fun I It s₂ hI0 hs₂ W'=>?_
 have acc:=(zF (Y:=Y) (c:=c) (m:=m₁) (σ:=σ₁) (X:=fun _ _=>False) (vs:=[]) (Q:=fun v m' σ'=>∃ D,σ₁ D=none∧v = .ref D∧m'=m₁∧σ'=σ₁.set D (.seq false [])) fun D h0=>⟨D,h0,rfl,rfl,rfl⟩).go
  (τ.set I (.raw (It 0))) s₂ (hd₁.setR (Map.or_none hI0).1) (by rw [zE (Map.or_none hI0).1];exact hs₂)
 refine wpAny_mono acc (fun v₃ s₃ zq=>?_) fun e s' z=>z.no
 refine zk fun zz=>?_
 obtain ⟨m₃,σ₃,hd₃,hs₃,D,hD0,e1,e2,e3⟩:=zq
 refine zz ?_;clear zz
 subst e1 e2 e3
 have hDτ:(τ.set I (.raw (It 0))) D=none:=hd₃.none_of Map.set_self
 have hDI:D≠I:=fun z=>by rw [z,Map.set_self] at hDτ;cases hDτ
 have hτD:τ D=none:=(Map.set_ne hDI).symm.trans hDτ
 refine zk fun zz=>?_
 obtain ⟨i0,t0⟩:=Map.or_none hI0
 refine zz ?_;clear zz
 refine St.on hs₃ fun H tk news own hs₃ l=>?_
 have hL0:=l.frame_none
 have hσL:(σ₁.set D (.seq false [])) c.L=none:=(Map.or_none hL0).1
 have hLI:c.L≠I:=fun z=>by have:=(Map.or_none hL0).2;rw [z,Map.set_self] at this;cases this
 have hτL:τ c.L=none:=(Map.set_ne hLI).symm.trans (Map.or_none hL0).2
 have hLD:c.L≠D:=fun z=>by rw [z,Map.set_self] at hσL;cases hσL
 have s1:σ₁ c.L=none:=(Map.set_ne hLD).symm.trans hσL
 have hab:=l.F.above
 have hfr:=l.frNe
 refine wpAny_newFunctionEnv hcell (by intro y hy;simp at hy) (fun h₁ hns₁ hsb₁=>?_) hk
 let c₁:Cx:=c.comp scope cl hk H.objs.size
 have hs₄:=St.enter (scope:=scope) (cl:=cl) (hk:=hk) (tk:=tk+0) l hns₁ hsb₁
 have W:=W' c₁ hh
 let T:Nat→List Value→Map:=fun i ys=>((τ.set c.L (.frm m₃)).set D (.seq false ys)).set I (.raw (It i))
 have loop:codeAny (model prog w) c₁.A (.compLoop (.ListComp elt [⟨.Name x px,iter,ifs,0⟩] scope pos) 0 (.ref I) (.ref D) c₁.env)
  (compPost (model prog w) c.A (XH Y c τ X) use Qs (.ref D) H.objs.size) ⟨h₁,G.fix.gens,G.fix.drawn,tk+0,G.fix.os⟩:=by
  refine codeAny_compLoop_tests (fun k s'=>∃ i ys m' σ',k=n - i∧i≤n∧J i ys σ'∧Disj σ' (T i ys)∧St G c₁ m' (σ'.or (T i ys)) s') ?_ n ⟨0,[],fun x=>([]:List (Str × Value)).reverse.lookup x,σ₁,(Nat.sub_zero n).symm,Nat.zero_le _,hJ0,?_,?_⟩
  ·rintro k s' ⟨i,ys,m',σ',rfl,hi,hJ,hd',hs'⟩
   refine zk fun zz=>?_
   obtain ⟨sI,hd1⟩:=zV hd'
   obtain ⟨sD,hd2⟩:=zV hd1
   obtain ⟨sL,hd3⟩:=zV hd2
   refine zz ?_;clear zz
   have r0:(σ'.or ((τ.set c.L (.frm m₃)).set D (.seq false ys))) I=none:=by
    unfold Map.or
    rw [sI,Map.set_ne hDI.symm,Map.set_ne hLI.symm];exact t0
   have hs'':=hs'
   rw [show T i ys=((τ.set c.L (.frm m₃)).set D (.seq false ys)).set I (.raw (It i)) from rfl,zE sI] at hs''
   by_cases hlt:i < n
   ·refine W.item i _ s' m' _ _ hlt (hJC _ _ _ _ hJ) r0 hs'' fun v s₅ hP hs₅=>?_
    have hs₅':St G c₁ m' (σ'.or (T (i+1) ys)) s₅:=by
     rw [show T (i+1) ys=((τ.set c.L (.frm m₃)).set D (.seq false ys)).set I (.raw (It (i+1))) from rfl,zE sI];exact hs₅
    have hd5:Disj σ' (T (i+1) ys):=hd1.setR sI
    refine wpAny_assign_Name ((zx (Y:=Y) (c:=c₁) (m:=m') (σ:=σ') (X:=fun _ _=>False) (x:=x) (v:=v) (Q:=fun _ m₂ σ₂=>m₂=m'.set x v∧σ₂=σ') ⟨rfl,rfl⟩ (Eq.symm (lookup_relabel_local hx))).wpAs hd5 hs₅' fun _ s₆ hd₆ hs₆=>?_)
    refine wpAny_mono ((turn H.objs.size i v ys (m'.set x v) _ hlt hP hJ (if_pos rfl)).go _ _ hd₆ hs₆) (fun ok s₇ zq=>?_) fun e s' z=>z.no
    refine zk fun zz=>?_
    obtain ⟨m₇,σ₇,hd₇,hs₇,q1,q2⟩:=zq
    refine zz ?_;clear zz
    cases ok with
    | false=>
     rw [if_neg (by decide)]
     exact ⟨n - (i+1),by omega +splitNatSub,i+1,ys,m₇,σ₇,rfl,hlt,q2 rfl,hd₇,hs₇⟩
    | true=>
     rw [if_pos rfl]
     refine wpAny_mono ((q1 rfl).go _ _ hd₇ hs₇) (fun y s₈ zq=>?_) fun e s' z=>z.no
     refine zk fun zz=>?_
     obtain ⟨m₈,σ₈,hd₈,hs₈,q⟩:=zq
     refine zz ?_;clear zz
     refine zk fun zz=>?_
     obtain ⟨uI,ud1⟩:=zV hd₈
     obtain ⟨uD,ud2⟩:=zV ud1
     refine zz ?_;clear zz
     have hs₉:St G c₁ m₈ ((σ₈.set D (.seq false ys)).or ((τ.set c.L (.frm m₃)).set I (.raw (It (i+1))))) s₈:=by
      rw [← or_pull uD hDI];exact hs₈
     have hz:ys.length≤sizeLine:=Nat.le_trans (hJl _ _ _ hJ) (by omega +splitNatSub)
     have hDT:((τ.set c.L (.frm m₃)).set I (.raw (It (i+1)))) D=none:=by
      rw [Map.set_ne hDI,Map.set_ne hLD.symm];exact hτD
     have hd₉:Disj (σ₈.set D (.seq false ys)) ((τ.set c.L (.frm m₃)).set I (.raw (It (i+1)))):=Disj.set (ud2.setR uI) hDT
     refine (jS (Y:=Y) (c:=c₁) (m:=m₈) (X:=fun _ _=>False) (a:=D) (xs:=ys) (v:=y) (Q:=fun _ m₂ σ₂=>m₂=m₈∧σ₂=(σ₈.set D (.seq false ys)).set D (.seq false (ys ++ [y]))) Map.set_self hz ⟨rfl,rfl⟩).wpAs hd₉ hs₉ fun _ s₁₀ hd₁₀ hs₁₀=>?_
     rw [set_set] at hs₁₀ hd₁₀
     refine ⟨n - (i+1),by omega +splitNatSub,i+1,ys ++ [y],m₈,σ₈,rfl,hlt,q,(ud2.setR uD).setR uI,?_⟩
     show St G c₁ m₈ (σ₈.or (((τ.set c.L (.frm m₃)).set D (.seq false (ys ++ [y]))).set I (.raw (It (i+1))))) _
     rw [or_pull uD hDI];exact hs₁₀
   ·have e:n=i:=by omega +splitNatSub
    subst e
    refine W.done _ s' m' _ _ (hJC _ _ _ _ hJ) r0 hs'' fun s₅ hs₅=>?_
    rw [or_two sL sD hLD] at hs₅
    have hCL:=l.sizeNe
    refine hend D m₃ (σ'.set D (.seq false ys)) H.objs.size m' s₅ .next (fin ys σ' D hJ sD) (hd3.set hτD) hfr hCL hab ((Map.or_eq ((Map.set_ne hLD).trans sL)).trans hτL) hs₅
  ·exact ((hd₁.setR s1).setR hD0).setR i0
  ·show St G _ _ (σ₁.or (((τ.set c.L (.frm m₃)).set D (.seq false [])).set I (.raw (It 0)))) _
   rw [or_three s1 hD0 i0 hLD hLI hDI]
   exact hs₄
 refine codeAny_compStart_list loop ?_
 obtain ⟨i1,i2⟩:=Map.or_none hI0
 rw [or_four i0 hLI hDI] at hs₄
 refine W.self 0 _ _ _ _ _ ?_ ?_ hs₄ loop
 ·rw [or_five s1 hD0]
  exact hJC _ _ _ _ hJ0
 ·unfold Map.set Map.or
  have a1:¬ I=c.L:=fun z=>hLI z.symm
  have a2:¬ I=D:=fun z=>hDI z.symm
  simp [a1,a2,i0,t0]
theorem P_listComp (hh:c.hd=none) {elt iter:PySem.Expr}{x:Str}{px pos:Pos}{ifs:List PySem.Expr}{scope:Scope}{cl:List (Str × Addr)}{Q:Value→Loc→Map→Prop}
 (hclos:closureFor scope c.env=pure cl) (hk:scope.kind = .function) (hcell:∀ y∈scope.names,y.2≠.cell)
 (hnames:∀ y∈scope.names,y.2 = .local→scope.names.lookup y.1=some .local) (hx:scope.names.lookup x=some .local)
 (h:POK prog w G Y c (eval iter c.env) m σ (CompK Y elt x ifs scope cl hk c Q) X)
 (hf:∀ x,foldedSetIterable iter c.env x=Pure.pure x:=by intro _;rfl):POK prog w G Y c (eval (.ListComp elt [⟨.Name x px,iter,ifs,0⟩] scope pos) c.env) m σ Q X:=.of fun τ s hd hs=>by
 rw [eval_ListComp]
 show wpAny _ c.A (comprehension (.ListComp elt [⟨.Name x px,iter,ifs,0⟩] scope pos) scope c.env (firstIterPos [⟨.Name x px,iter,ifs,0⟩] pos) (newList []) false (eval iter c.env) none) _ _ s
 refine compCore (use:=none) hd hs hh hclos hk hcell hnames hx h (fun D m₁ σ₂ C m' s₅ f hQ hdd hfr hCL hab h0 hs₅=>?_) hf
 refine St.on hs₅ fun h5 tk5 news5 own5 hs₅ l5=>?_
 exact ⟨m',l5.F.ns,fun h' hs'=>⟨m₁,σ₂,hdd,St.backTo (c':=c.comp scope cl hk C) (fun _ h=>h) hfr hab h0 l5 hs'.extBut,hQ⟩⟩
theorem P_assignComp (hh:c.hd=none) {elt iter:PySem.Expr}{x y:Str}{px py pos spos:Pos}{ifs:List PySem.Expr}{scope:Scope}{cl:List (Str × Addr)}{Q:Flow→Loc→Map→Prop}
 (hclos:closureFor scope c.env=pure cl) (hk:scope.kind = .function) (hcell:∀ y∈scope.names,y.2≠.cell)
 (hnames:∀ y∈scope.names,y.2 = .local→scope.names.lookup y.1=some .local) (hx:scope.names.lookup x=some .local)
 (h:POK prog w G Y c (eval iter c.env) m σ (CompK Y elt x ifs scope cl hk c (StQ y Q)) X)
 (hsw:swapsWith (.ListComp elt [⟨.Name x px,iter,ifs,0⟩] scope pos) (some (.Name y py)) spos.line c.env=Pure.pure true:=by kernel_rfl) (hl:SLoc y c:=by kernel_rfl)
 (hf:∀ x,foldedSetIterable iter c.env x=Pure.pure x:=by intro _;rfl):POK prog w G Y c (exec (.Assign [.Name y py] (.ListComp elt [⟨.Name x px,iter,ifs,0⟩] scope pos) spos) c.env) m σ Q X:=.of fun τ s hd hs=>by
 rw [exec_Assign_Name_used _ _ _ _ hsw]
 refine wpAny_bind (wpAny_standAt (wpAny_bind ?_))
 show wpAny _ c.A (do let _ ← comprehension (.ListComp elt [⟨.Name x px,iter,ifs,0⟩] scope pos) scope c.env (firstIterPos [⟨.Name x px,iter,ifs,0⟩] pos) (newList []) false (eval iter c.env) (some (assign (.Name y py) c.env))) _ _ s
 refine wpAny_bind (wpAny_mono (compCore (use:=some (assign (.Name y py) c.env)) (Qs:=fun _ s'=>Po G c τ Q .next s') (Q:=StQ y Q) hd hs hh hclos hk hcell hnames hx h (fun D m₁ σ₂ C m' s₅ f hQ hdd hfr hCL hab h0 hs₅=>?_) hf) (fun _ s' hq=>wpAny_pure (wpAny_pure hq)) fun _ _ e=>e)
 refine St.on hs₅ fun h5 tk5 news5 own5 hs₅ l5=>?_
 have hns:h5.Ns c.L m₁:=by
  refine zk fun zz=>?_
  obtain ⟨r1,o,r2,r3⟩:=l5.R c.L (.frm m₁) Map.set_self
  refine zz ?_;clear zz
  exact ns_of_frm (l5.N _ r2).1 r3
 refine wpAny_assign_Name (wpAny_storeName_local (env:=c.env) (hl).symm hns (fun h' hn hs'=>?_) (by show (c.cs.kind == .class || (c.cs.kind == .module && c.L != mainGlobals))=false;rw [c.hk];rfl))
 refine ⟨m',l5.F.ns.sameBut hs' hCL,fun h'' hs''=>⟨m₁.set y (.ref D),σ₂,hdd,?_,hQ⟩⟩
 refine zk fun zz=>?_
 obtain ⟨r1,o,r2,r3⟩:=l5.R c.L (.frm m₁) Map.set_self
 obtain ⟨o',ho',hf'⟩:=jQ hn
 refine zz ?_;clear zz
 have l6:Led G (c.comp scope cl hk C) m' (((σ₂.or τ).set c.L (.frm m₁)).set c.L (.frm (m₁.set y (.ref D)))) h' (putO c.L o' news5) own5:=by
  refine ⟨Fr.extB l5.F hs'.extBut (Ne.symm hCL) (l5.N _ r2).2.2,fun q hq=>?_,by rw [putO_keys];exact l5.nd,l5.R.put r1 ⟨r1,o',z8 r2,hf'⟩,l5.O.1,fun env he=>?_⟩
  ·refine zk fun zz=>?_
   obtain ⟨q',hq',rfl⟩:=List.mem_map.mp hq
   refine zz ?_;clear zz
   by_cases e:q'.1=c.L
   ·rw [if_pos e];exact ⟨ho',Ne.symm hCL,(l5.N _ r2).2.2⟩
   ·rw [if_neg e];have:=l5.N _ hq';exact ⟨hs'.extBut _ _ e this.1,this.2⟩
  ·refine zk fun zz=>?_
   obtain ⟨g0,L₂,g1,g2,g3⟩:=l5.O.2 env he
   refine zz ?_;clear zz
   refine ⟨g0,L₂,g1,g2,g3.imp id fun zq=>?_⟩
   refine zk fun zz=>?_
   obtain ⟨m₂,g3⟩:=zq
   refine zz ?_;clear zz
   by_cases z:L₂=c.L
   ·exact ⟨_,by rw [z];exact Map.set_self⟩
   ·exact ⟨m₂,by rw [Map.set_ne z];exact g3⟩
 rw [set_set] at l6
 exact St.backTo (c':=c.comp scope cl hk C) (fun _ h=>h) hfr hab h0 l6 hs''.extBut
end
inductive SlJ (f:Int→Str) (Q:Value→Loc→Map→Prop) (v:Value) (m':Loc) (σ':Map):Prop
 | mk (j:Int) (u:Tok) (h:v = .int j u) (q:∀ t',Q (.str (f j) t') m' σ'):SlJ f Q v m' σ'
inductive SlTo (Y:Fly) (upper:PySem.Expr) (c:Cx) (X:Str→Map→Prop) (Q:Value→Loc→Map→Prop) (o:Value) (m':Loc) (σ':Map):Prop
 | mk (x:Str) (t:Tok) (h:o = .str x t) (hz:x.length≤sizeLine) (q:POK prog w G Y c (eval upper c.env) m' σ' (SlJ (fun j=>Txt.slice x none (some j)) Q) X):SlTo Y upper c X Q o m' σ'
inductive SlFrom (Y:Fly) (lower:PySem.Expr) (c:Cx) (X:Str→Map→Prop) (Q:Value→Loc→Map→Prop) (o:Value) (m':Loc) (σ':Map):Prop
 | mk (x:Str) (t:Tok) (h:o = .str x t) (hz:x.length≤sizeLine) (q:POK prog w G Y c (eval lower c.env) m' σ' (SlJ (fun j=>Txt.slice x (some j) none) Q) X):SlFrom Y lower c X Q o m' σ'
section
variable {Y:Fly}{c:Cx}{X:Str→Map→Prop}{m:Loc}{σ τ ρ:Map}{α β:Type}
theorem Led.pushAny {h:Heap}{news:List (Addr × Obj)}{own:Addr→Option Addr}(l:Led G c m ρ h news own) (ob:Obj):Led G c m ρ (h.push ob) news own:=
 ⟨⟨l.F.ns.push ob,fun b o e=>Heap.get?_push_of_some _ (l.F.keep b o e),l.F.above⟩,fun q hq=>⟨Heap.get?_push_of_some _ (l.N q hq).1,(l.N q hq).2⟩,l.nd,l.R,l.O⟩
theorem P_isiStrInt {x:Str}{t:Tok}{Q:Value→Loc→Map→Prop}(h:Q (.bool false) m σ):POK prog w G Y c (call (.builtin "isinstance") [.str x t,.type "int"]) m σ Q X:=.of fun τ s hd hs=>IsiPair.str_int ⟨m,σ,hd,hs.toks _,h⟩
theorem P_sliceTo {Y:Fly}{c:Cx}{X:Str→Map→Prop}{value upper:PySem.Expr}{p pos:Pos}{m:Loc}{σ:Map}{Q:Value→Loc→Map→Prop}(h:POK prog w G Y c (eval value c.env) m σ (SlTo Y upper c X Q) X) (ht:∀ o r,letTemporaryGo value o r=Pure.pure ():=by intro _ _;rfl):POK prog w G Y c (eval (.Subscript value (.Slice none (some upper) none p) pos) c.env) m σ Q X:=.of fun τ s hd hs=>by
 refine Subscript_Slice (h.wp hd hs fun o s₁ m₁ σ₁ a b zq=>?_) ht
 refine zk fun zz=>?_
 obtain ⟨x,t,e,hz,q⟩:=zq
 refine zz ?_;clear zz
 subst e
 refine wpAny_Slice (evalPart_none_step (evalPart_some_step (q.wp a b fun v s₂ m₂ σ₂ a₂ b₂ ⟨j,u,e,q₂⟩=>evalPart_none_step ?_)))
 subst e
 refine St.on b₂ fun hp tk news own b₂ l=>?_
 exact SBH.sliceItem_ns (P:=fun h=>Led G c m₂ (σ₂.or τ) h news own) (fun h ob l=>l.pushAny ob) l (fun h' t' k l'=>⟨m₂,σ₂,a₂,⟨h',k,news,own,rfl,l'⟩,q₂ t'⟩) hz
theorem P_sliceFrom {Y:Fly}{c:Cx}{X:Str→Map→Prop}{value lower:PySem.Expr}{p pos:Pos}{m:Loc}{σ:Map}{Q:Value→Loc→Map→Prop}(h:POK prog w G Y c (eval value c.env) m σ (SlFrom Y lower c X Q) X) (ht:∀ o r,letTemporaryGo value o r=Pure.pure ():=by intro _ _;rfl):POK prog w G Y c (eval (.Subscript value (.Slice (some lower) none none p) pos) c.env) m σ Q X:=.of fun τ s hd hs=>by
 refine Subscript_Slice (h.wp hd hs fun o s₁ m₁ σ₁ a b zq=>?_) ht
 refine zk fun zz=>?_
 obtain ⟨x,t,e,hz,q⟩:=zq
 refine zz ?_;clear zz
 subst e
 refine wpAny_Slice (evalPart_some_step (q.wp a b fun v s₂ m₂ σ₂ a₂ b₂ ⟨j,u,e,q₂⟩=>evalPart_none_step (evalPart_none_step ?_)))
 subst e
 refine St.on b₂ fun hp tk news own b₂ l=>?_
 exact SBH.sliceItem_sn (P:=fun h=>Led G c m₂ (σ₂.or τ) h news own) (fun h ob l=>l.pushAny ob) l (fun h' t' k l'=>⟨m₂,σ₂,a₂,⟨h',k,news,own,rfl,l'⟩,q₂ t'⟩) hz
theorem P_rfind {x y:Str}{t u:Tok}{Q:Value→Loc→Map→Prop}(h:∀ t',Q (.int (Txt.rfind x y) t') m σ):POK prog w G Y c (call (.builtin "str.rfind") [.str x t,.str y u]) m σ Q X:=.of fun τ s hd hs=>
 call_meets F.slot_str_rfind (typeIs_str _ _ _) F.entry_str_rfind (F.args_str_rfind_2 _ _) (gives_str_rfind x y t u) ⟨m,σ,hd,hs.toks _,h _⟩
theorem P_rfindMeth {x:Str}{t:Tok}{pl:Sem Bool}{Q:Value × List Value→Loc→Map→Prop}(h:Q (.builtin "str.rfind",[.str x t]) m σ):POK prog w G Y c (getMethod (.str x t) "rfind" pl) m σ Q X:=.of fun τ s hd hs=>
 getMethod_builtin (typeIs_str _ _ _) F.plainAttrs_str F.slot_str_rfind F.type_str_rfind (fun _ e=>nomatch e) ⟨m,σ,hd,hs,h⟩
end
section
variable {Y:Fly}{c:Cx}{X:Str→Map→Prop}{m:Loc}{σ τ ρ:Map}{α β:Type}
theorem Led.funFrames {h:Heap}{news:List (Addr × Obj)}{own:Addr→Option Addr}(l:Led G c m ρ h news own):h.FunFrames G.g c.fr:=by
 have key:∀ fr:List Env,(∀ env∈fr,env∈c.fr)→h.FunFrames G.g fr:=by
  intro fr
  induction fr with
  | nil=>exact fun _=>trivial
  | cons env r ih=>
   intro hf
   refine zk fun zz=>?_
   obtain ⟨g0,L,g1,g2,g3⟩:=l.O.2 env (hf _ (.head _))
   refine zz ?_;clear zz
   refine ⟨by rw [g0];decide,?_,ih fun e he=>hf e (.tail _ he)⟩
   rcases g3 with rfl | ⟨m₂,g3⟩
   ·refine zk fun zz=>?_
    obtain ⟨o,ho,es,ep,hd,_⟩:=jQ l.F.ns
    refine zz ?_;clear zz
    exact ⟨c.L,o,g1,g_none l.F,ho,fun vs z=>by rw [hd] at z;cases z⟩
   ·refine zk fun zz=>?_
    obtain ⟨r1,o,r2,es,ep,hd,_⟩:=l.R _ _ g3
    refine zz ?_;clear zz
    exact ⟨L,o,g1,(l.N _ r2).2.2,(l.N _ r2).1,fun vs z=>by rw [hd] at z;cases z⟩
 exact key c.fr fun _ h=>h
theorem Led.slots {h h':Heap}{news:List (Addr × Obj)}{own:Addr→Option Addr}(l:Led G c m ρ h news own) (hs:Heap.SlotsOnly (c.fr.filterMap (·.frame)) h h') :
 Led G c m ρ h' (news.map fun q=>(q.1,(h'.get? q.1).getD q.2)) own:=by
 have inF:∀ b,b∈c.fr.filterMap (·.frame)→b=c.L∨∃ m,ρ b=some (.frm m):=fun b hb=>by
  refine zk fun zz=>?_
  obtain ⟨env,he,e⟩:=List.mem_filterMap.mp hb
  obtain ⟨g0,L,g1,g2,g3⟩:=l.O.2 env he
  refine zz ?_;clear zz
  have:L=b:=Option.some.inj (g1.symm.trans e)
  exact this ▸ g3
 have hmem:∀ {q:Addr × Obj},q∈news→∃ sl,h'.get? q.1=some { q.2 with slots:=sl }:=fun {q} hq=>hs.2.2 _ _ (l.N q hq).1
 have up:∀ {b:Addr} {o:Obj},(b,o)∈news→∃ sl,(b,{ o with slots:=sl })∈news.map fun q=>(q.1,(h'.get? q.1).getD q.2):=fun {b o} hb=>by
  obtain ⟨sl,e⟩:=hmem hb
  exact ⟨sl,List.mem_map.mpr ⟨(b,o),hb,by simp only [e,Option.getD_some]⟩⟩
 have same:∀ {b:Addr} {o:Obj},(b,o)∈news→(∀ m,ρ b≠some (.frm m))→(b,o)∈news.map fun q=>(q.1,(h'.get? q.1).getD q.2):=fun {b o} hb hn=>by
  have:b∉c.fr.filterMap (·.frame):=fun z=>by
   rcases inF b z with z | ⟨m,z⟩
   ·exact (l.N _ hb).2.1 z
   ·exact hn m z
  exact List.mem_map.mpr ⟨(b,o),hb,by simp only [hs.2.1 b this,(l.N _ hb).1,Option.getD_some]⟩
 have ofOwn:∀ {b a:Addr} {o:Obj} {ao:AO},(b,o)∈news→own b=some a→ρ a=some ao→(∀ m,ao≠.frm m)→(b,o)∈news.map fun q=>(q.1,(h'.get? q.1).getD q.2):=fun {b a o ao} hb ho ha hn=>same hb fun m z=>by
  have:=(l.R b _ z).1
  rw [ho] at this
  have e:a=b:=Option.some.inj this
  rw [← e,ha] at z
  exact hn m (Option.some.inj z)
 refine ⟨⟨?_,fun b o e=>?_,l.F.above⟩,fun q hq=>?_,?_,fun a ao ha=>?_,l.O⟩
 ·refine zk fun zz=>?_
  obtain ⟨o,ho,es,ep,hd,r⟩:=jQ l.F.ns
  obtain ⟨sl,e⟩:=hs.2.2 _ _ ho
  refine zz ?_;clear zz
  exact ns_of_frm e ⟨es,ep,hd,r⟩
 ·have hb:=l.F.keep b o e
  have:b∉c.fr.filterMap (·.frame):=fun z=>by
   rcases inF b z with z | ⟨m,z⟩
   ·rw [z,g_none l.F] at e;cases e
   ·refine zk fun zz=>?_
    obtain ⟨r1,o',r2,_⟩:=l.R _ _ z
    refine zz ?_;clear zz
    rw [(l.N _ r2).2.2] at e;cases e
  exact (hs.2.1 b this).trans hb
 ·refine zk fun zz=>?_
  obtain ⟨q',hq',rfl⟩:=List.mem_map.mp hq
  obtain ⟨sl,e⟩:=hmem hq'
  refine zz ?_;clear zz
  exact ⟨by simp only [e,Option.getD_some],(l.N _ hq').2⟩
 ·rw [List.map_map];exact l.nd
 ·have r:=l.R a ao ha
  cases ao with
  | inst C fs=>
   refine zk fun zz=>?_
   obtain ⟨r1,d,es,n,r2,r3,r4,r5⟩:=r
   refine zz ?_;clear zz
   exact ⟨r1,d,es,n,ofOwn r2 r1 ha (fun m z=>nomatch z),ofOwn r3 r4 ha (fun m z=>nomatch z),r4,r5⟩
  | seq tup xs=>
   refine zk fun zz=>?_
   obtain ⟨r1,n,r2⟩:=r
   refine zz ?_;clear zz
   exact ⟨r1,n,same r2 fun m z=>by rw [ha] at z;cases z⟩
  | raw P=>
   refine zk fun zz=>?_
   obtain ⟨r1,o,r2,r3⟩:=r
   refine zz ?_;clear zz
   exact ⟨r1,o,same r2 (fun m z=>by rw [ha] at z;cases z),r3⟩
  | frm m₂=>
   refine zk fun zz=>?_
   obtain ⟨r1,o,r2,es,ep,hd,r3⟩:=r
   obtain ⟨sl,h2⟩:=up r2
   refine zz ?_;clear zz
   exact ⟨r1,_,h2,es,ep,hd,r3⟩
  | exc C fs tb=>exact ⟨r.1,r.2.mono fun x o ⟨h1,h2⟩=>⟨ofOwn h1 h2 ha (fun m z=>nomatch z),h2⟩⟩
theorem Led.pushOwned {h:Heap}{news:List (Addr × Obj)}{own:Addr→Option Addr}{x:Option Addr}(l:Led G c m ρ h news own) (ob:Obj) (hf:ob.isFreed=false) :
 Led G c m ρ (h.push ob) ((h.objs.size,ob) :: news) (fun b=>if b=h.objs.size then x else own b):=by
 have hg:=Heap.get?_push_size h hf
 have hab:G.g.get? h.objs.size=none:=by
  cases q:G.g.get? h.objs.size with
  | none=>rfl
  | some o'=>exact absurd (Heap.lt_size (l.F.keep _ _ q)) (Nat.lt_irrefl _)
 have hL:h.objs.size≠c.L:=fun z=>by
  refine zk fun zz=>?_
  obtain ⟨o',ho,_⟩:=jQ l.F.ns
  refine zz ?_;clear zz
  exact absurd (Heap.lt_size ho) (by rw [← z];exact Nat.lt_irrefl _)
 have hne:∀ q∈news,q.1≠h.objs.size:=fun q hq=>Nat.ne_of_lt (l.news_lt hq)
 refine ⟨⟨l.F.ns.push ob,fun b o e=>Heap.get?_push_of_some _ (l.F.keep b o e),l.F.above⟩,fun q hq=>?_,jW l.nd hne,fun a ao ha=>(l.R a ao ha).more hne,l.O⟩
 rcases List.mem_cons.mp hq with rfl | hq
 ·exact ⟨hg,hL,hab⟩
 ·exact ⟨Heap.get?_push_of_some _ (l.N q hq).1,(l.N q hq).2⟩
theorem Led.ext {h h':Heap}{news:List (Addr × Obj)}{own:Addr→Option Addr}{d a:Addr}{o o':Obj}{ao:AO}(l:Led G c m ρ h news own) (hm:(d,o)∈news) (hown:own d=some a) (hs:Heap.ExtBut d h h')
 (ho:h'.get? d=some o') (hn:AORep (putO d o' news) own a ao) (hnf:∀ m,ρ a≠some (.frm m)):Led G c m (ρ.set a ao) h' (putO d o' news) own:=by
 have hN:=l.N _ hm
 refine ⟨Fr.extB l.F hs hN.2.1 hN.2.2,fun q hq=>?_,by rw [putO_keys];exact l.nd,l.R.put hown hn,Led.outs_set l.O hnf⟩
 refine zk fun zz=>?_
 obtain ⟨q',hq',rfl⟩:=List.mem_map.mp hq
 refine zz ?_;clear zz
 by_cases e:q'.1=d
 ·rw [if_pos e];exact ⟨ho,hN.2.1,hN.2.2⟩
 ·rw [if_neg e];have:=l.N _ hq';exact ⟨hs _ _ e this.1,this.2⟩
theorem Map.set_idem {a:Addr}{ao:AO}(h:ρ a=some ao):ρ.set a ao=ρ:=by
 funext b;unfold Map.set;by_cases z:b=a
 ·rw [if_pos z,z,h]
 ·rw [if_neg z]
theorem ExcDict.put {M M':Addr→Obj→Prop}{od:Option Addr}{fs:List (Str × Value)}(h:ExcDict M od fs) (k:∀ d,od=some d→∀ o,M d o→M' d o):ExcDict M' od fs:=by
 cases od with
 | none=>exact h
 | some d=>obtain ⟨es,n,h1,h2⟩:=h;exact ⟨es,n,k d rfl _ h1,h2⟩
theorem excField {h:Heap}{news:List (Addr × Obj)}{own:Addr→Option Addr}{a C:Addr}{fs:List (Str × Value)}{tb':Option Value}{o:Obj}{vs:Array Value}{i:Nat}{v:Value}
 (l:Led G c m ρ h news own) (ha:∀ m,ρ a≠some (.frm m)) (hown:own a=some a) (ho:(a,o)∈news) (hc:o.cls = .ref C) (hd:o.data = .fields vs) (hz:vs.size=6)
 (hD:ExcDict (fun d o=>(d,o)∈news∧own d=some a) o.dict fs) (hT:∀ M:Addr→Obj→Prop,(∀ d o',d≠a→(d,o')∈news→own d=some a→M d o')→ExcTb M a (vs.setIfInBounds i v) tb') :
 ∃ news',Led G c m (ρ.set a (.exc C fs tb')) (h.update a (Obj.mapFields (·.setIfInBounds i v))) news' own:=by
 have he:=(l.N _ ho).1
 have hd':=Obj.data_mapFields hd (·.setIfInBounds i v)
 have hg:=Heap.get?_update_self (Obj.mapFields (·.setIfInBounds i v)) he (Obj.isFreed_of_fields hd')
 have hne:∀ d,o.dict=some d→d≠a:=fun d e z=>by
  rw [e] at hD
  refine zk fun zz=>?_
  obtain ⟨es,n,⟨h1,_⟩,_⟩:=hD
  refine zz ?_;clear zz
  have:=mem_same l.nd ho (z ▸ h1)
  rw [this] at hd;cases hd
 refine ⟨_,l.ext ho hown (Heap.SameBut.update _ _ _).extBut hg ⟨hown,_,_,⟨z8 ho,hown⟩,(Obj.cls_mapFields _ _).trans hc,hd',by simpa using hz,?_,?_⟩ ha⟩
 ·have e1:(Obj.mapFields (·.setIfInBounds i v) o).dict=o.dict:=by
   obtain ⟨c,d,dt,sl⟩:=o;cases dt <;> rfl
  rw [e1]
  exact hD.put fun d e o' ⟨h1,h2⟩=>⟨jx h1 (hne d e),h2⟩
 ·exact hT _ fun d o' hda h1 h2=>⟨jx h1 hda,h2⟩
theorem tbField {h:Heap}{news:List (Addr × Obj)}{own:Addr→Option Addr}{a C T:Addr}{fs:List (Str × Value)}{o oT:Obj}{vs ts:Array Value}{v:Value}
 (l:Led G c m ρ h news own) (ha:∀ m,ρ a≠some (.frm m)) (hown:own a=some a) (ho:(a,o)∈news) (hc:o.cls = .ref C) (hd:o.data = .fields vs) (hz:vs.size=6)
 (hD:ExcDict (fun d o=>(d,o)∈news∧own d=some a) o.dict fs) (h1:vs[1]? = some (.ref T)) (hTa:T≠a) (hT:(T,oT)∈news) (hTo:own T=some a) (hdT:oT.data = .fields ts) (hsz:3 < ts.size) :
 ∃ news',Led G c m (ρ.set a (.exc C fs (some v))) (h.update T (Obj.mapFields (·.setIfInBounds 3 v))) news' own∧(a,o)∈news'∧ExcDict (fun d o=>(d,o)∈news'∧own d=some a) o.dict fs:=by
 have he:=(l.N _ hT).1
 have hd':=Obj.data_mapFields hdT (·.setIfInBounds 3 v)
 have hg:=Heap.get?_update_self (Obj.mapFields (·.setIfInBounds 3 v)) he (Obj.isFreed_of_fields hd')
 have hne:∀ d,o.dict=some d→d≠T:=fun d e z=>by
  rw [e] at hD
  refine zk fun zz=>?_
  obtain ⟨es,n,⟨h1,_⟩,_⟩:=hD
  refine zz ?_;clear zz
  have:=mem_same l.nd hT (z ▸ h1)
  rw [this] at hdT;cases hdT
 have hD':ExcDict (fun d o=>(d,o)∈putO T (Obj.mapFields (·.setIfInBounds 3 v) oT) news∧own d=some a) o.dict fs:=hD.put fun d e o' ⟨h1,h2⟩=>⟨jx h1 (hne d e),h2⟩
 refine ⟨_,l.ext hT hTo (Heap.SameBut.update _ _ _).extBut hg ⟨hown,o,vs,⟨jx ho (Ne.symm hTa),hown⟩,hc,hd,hz,hD',T,_,_,h1,hTa,⟨z8 hT,hTo⟩,hd',?_⟩ ha,jx ho (Ne.symm hTa),hD'⟩
 simp [hsz]
theorem Map.set_twice {a:Addr}{ao bo:AO}:(ρ.set a ao).set a bo=ρ.set a bo:=by
 funext b;unfold Map.set;by_cases z:b=a <;> simp [z]
theorem wp_note {a C:Addr}{fs:List (Str × Value)}{tb:Option Value}{s:Shared}{rest:List Env}{Q:Unit→Shared→Prop}{E:Value→Shared→Prop}(hfr:c.fr=c.env :: rest) (hs:St G c m (ρ.set a (.exc C fs tb)) s)
 (hQ:∀ s' fl,St G c m (ρ.set a (.exc C fs (some fl))) s'→Q () s'):wpAny (model prog w) c.A (noteFrame (.ref a) c.env) Q E s:=by
 refine St.on hs fun h tk news own hs l=>?_
 have ha:∀ m,(ρ.set a (.exc C fs tb)) a≠some (.frm m):=fun m z=>by rw [Map.set_self] at z;cases z
 have entry:∀ (h:Heap) (news:List (Addr × Obj)) (own:Addr→Option Addr) (tb:Option Value) (o:Obj) (vs:Array Value) (head:Value) (hn:Bool),Led G c m (ρ.set a (.exc C fs tb)) h news own→own a=some a→(a,o)∈news→o.cls = .ref C→o.data = .fields vs→vs.size=6 →
  ExcDict (fun d o=>(d,o)∈news∧own d=some a) o.dict fs →
  wpAny (model prog w) c.A (do setField (.ref a) 1 (← EntryCells.newEntry head (← frameOf c.env) .none (rawInt c.fL) .none (← entryPlaceOf c.fL hn))) Q E ⟨h,G.fix.gens,G.fix.drawn,tk,G.fix.os⟩:=by
  intro h news own tb o vs head hn l hown ho hc hd hz hD
  refine wpAny_bind (wpAny_frameOf_fun (env:=c.env) (outer:=rest) (by show some c.fr=_;rw [hfr]) (by rw [← hfr];exact l.funFrames) rfl fun h₁ hs₁=>?_)
  rw [← hfr] at hs₁
  have l₁:=l.slots hs₁
  refine wpAny_bind (wpAny_entryPlaceOf fun pl hpl=>?_)
  unfold EntryCells.newEntry newFields
  refine wpAny_bind (wpAny_newObj_type ?_ (hpl.sizeOk5 _ _ _ _ _))
  have hnF:∀ m,(ρ.set a (.exc C fs tb)) a≠some (.frm m):=fun m z=>by rw [Map.set_self] at z;cases z
  refine zk fun zz=>?_
  obtain ⟨_,o₁,vs₁,⟨g1,_⟩,g3,g4,g5,g6,g7⟩:=l₁.R a _ Map.set_self
  refine zz ?_;clear zz
  have l₂:=l₁.pushOwned (x:=some a) { cls:=.type "traceback",dict:=none,data:=.fields ([head,.ref c.fL,.none,rawInt c.fL,.none] ++ (if pl.isEmpty then List.replicate 6 Value.none else pl)).toArray } rfl
  have hTa:h₁.objs.size≠a:=fun z=>by
   have:=l₁.news_lt g1
   rw [← z] at this;exact absurd this (Nat.lt_irrefl _)
  have g1':=List.mem_cons_of_mem (h₁.objs.size,({ cls:=.type "traceback",dict:=none,data:=.fields ([head,.ref c.fL,.none,rawInt c.fL,.none] ++ (if pl.isEmpty then List.replicate 6 Value.none else pl)).toArray }:Obj)) g1
  refine wpAny_setField (l₂.N _ g1').1 g4 (by rw [g5];decide) ?_
  obtain ⟨news',l₃⟩:=excField (tb':=some (rawInt c.fL)) (i:=1) (v:=.ref h₁.objs.size) l₂ hnF (by rw [if_neg (Ne.symm hTa)];exact hown) g1' g3 g4 g5 (g6.put fun d e o' ⟨h1,h2⟩=>⟨.tail _ h1,by rw [if_neg];exact h2;exact fun z=>absurd (l₁.news_lt h1) (by rw [z];exact Nat.lt_irrefl _)⟩)
   (fun M hM=>⟨h₁.objs.size,_,_,by simp [g5],hTa,hM _ _ hTa (.head _) (if_pos rfl),rfl,by first | (simp;done) | (rcases hpl with rfl | ⟨_,_,_,_,_,_,_,rfl⟩ <;> simp)⟩)
  rw [Map.set_twice] at l₃
  exact hQ _ _ ⟨_,_,_,_,rfl,l₃⟩
 refine zk fun zz=>?_
 obtain ⟨hown,o,vs,⟨ho,_⟩,hc,hd,hz,hD,hT⟩:=l.R a _ Map.set_self
 refine zz ?_;clear zz
 unfold noteFrame
 show wpAny _ _ (field (.ref a) 1 >>= _) _ _ _
 cases tb with
 | none=>
  refine wpAny_bind (wpAny_field (l.N _ ho).1 hd hT ?_)
  rw [if_neg (by decide)]
  exact entry _ _ _ _ _ _ _ _ l hown ho hc hd hz hD
 | some fl=>
  refine zk fun zz=>?_
  obtain ⟨T,oT,ts,h1,h2,⟨h3,h3'⟩,h4,h5⟩:=hT
  refine zz ?_;clear zz
  refine wpAny_bind (wpAny_field (l.N _ ho).1 hd h1 ?_)
  rw [if_pos (show (Value.ref T != Value.none)=true from by simp)]
  refine wpAny_bind (wpAny_field (l.N _ h3).1 h4 h5 ?_)
  by_cases hfl:(fl == rawInt c.fL)=true
  ·rw [if_pos hfl]
   exact wpAny_pure (hQ _ fl ⟨_,_,_,_,rfl,l⟩)
  ·rw [if_neg hfl]
   have h3sz:3 < ts.size:=(Array.getElem?_eq_some_iff.mp h5).1
   refine wpAny_bind (wpAny_setField (l.N _ h3).1 h4 h3sz ?_)
   refine zk fun zz=>?_
   obtain ⟨news',l',m1,m2⟩:=tbField (v:=.none) l ha hown ho hc hd hz hD h1 h2 h3 h3' h4 h3sz
   refine zz ?_;clear zz
   rw [Map.set_twice] at l'
   exact entry _ _ _ _ _ _ _ _ l' hown m1 hc hd hz m2
theorem wp_flight {a C:Addr}{fs:List (Str × Value)}{fl:Value}{s:Shared}{f:Option Addr}{Q:Unit→Shared→Prop}{E:Value→Shared→Prop}{A:Around}{M:Model}(hs:St G c m (ρ.set a (.exc C fs (some fl))) s)
 (hQ:∀ s' fl,St G c m (ρ.set a (.exc C fs (some fl))) s'→Q () s'):wpAny M A (setFlight (.ref a) f) Q E s:=by
 refine St.on hs fun h tk news own hs l=>?_
 refine zk fun zz=>?_
 obtain ⟨hown,o,vs,⟨ho,_⟩,hc,hd,hz,hD,T,oT,ts,h1,h2,⟨h3,h3'⟩,h4,h5⟩:=l.R a _ Map.set_self
 refine zz ?_;clear zz
 unfold setFlight
 refine wpAny_bind (wpAny_field (l.N _ ho).1 hd h1 ?_)
 rw [if_pos (show (Value.ref T != Value.none)=true from by simp)]
 have h3sz:3 < ts.size:=(Array.getElem?_eq_some_iff.mp h5).1
 refine wpAny_setField (l.N _ h3).1 h4 h3sz ?_
 obtain ⟨news',l',m1,m2⟩:=tbField (v:=f.elim .none fun f=>rawInt f) l (fun m z=>by rw [Map.set_self] at z;cases z) hown ho hc hd hz hD h1 h2 h3 h3' h4 h3sz
 rw [Map.set_twice] at l'
 exact hQ _ _ ⟨_,_,_,_,rfl,l'⟩
end
noncomputable def Map.del (σ:Map) (a:Addr):Map:=fun b=>if b=a then none else σ b
theorem Map.del_self {σ:Map}{a:Addr}:σ.del a a=none:=if_pos rfl
theorem Map.del_ne {σ:Map}{a b:Addr}(h:b≠a):σ.del a b=σ b:=if_neg h
theorem Map.set_del {σ:Map}{a:Addr}{ao:AO}(h:σ a=some ao):(σ.del a).set a ao=σ:=by
 funext b;unfold Map.set Map.del;by_cases z:b=a
 ·rw [if_pos z,z,h]
 ·rw [if_neg z,if_neg z]
noncomputable def zg {K:Frag}(G:Gd K) (C:Addr):Fly where
 up c e d ρ s:=∃ a fs t tb m,e = .ref a∧ρ a=none∧getF "value" fs=some (.str d t)∧St G c m (ρ.set a (.exc C fs tb)) s
section
variable {c:Cx}{X:Str→Map→Prop}{m:Loc}{σ τ ρ:Map}{α β:Type}{C:Addr}
theorem Map.set_comm {a b:Addr}{ao bo:AO}(h:a≠b):(ρ.set a ao).set b bo=(ρ.set b bo).set a ao:=by
 funext x;unfold Map.set;by_cases z:x=a
 ·subst z;simp [h]
 ·simp [z]
theorem jc:Fly.Leaves prog w G (zg G C):=by
 rintro c c' m e dv ρ s hfr hnd hL hne hab h0 ⟨a,fs,t,tb,m',rfl,ha,hv,hs⟩
 have hac:a≠c.L:=fun z=>by rw [z,Map.set_self] at ha;cases ha
 have ha':ρ a=none:=(Map.set_ne hac).symm.trans ha
 unfold leaving
 refine wpAny_bind (wp_note hfr hs fun s₁ fl hs₁=>?_)
 refine wp_flight hs₁ fun s₂ fl₂ hs₂=>?_
 refine ⟨a,fs,t,some fl₂,m,rfl,ha',hv,?_⟩
 rw [Map.set_comm (Ne.symm hac)] at hs₂
 exact St.back (c':=c') (fun env he=>by rw [hfr];exact .tail _ he) hnd hab ((Map.set_ne hac.symm).trans h0) hs₂
theorem die_loops {e:Value}{dv:Str}{s:Shared}{E:Value→Shared→Prop}{rest:List Env}(hfr:c.fr=c.env :: rest) (h:(zg G C).up c e dv ρ s) (hE:∀ s',(zg G C).up c e dv ρ s'→E e s') :
 notedBy (model prog w) c.A c.env (fun e s'=>cameBackBy (model prog w) c.A c.env E e s') e s:=by
 refine zk fun zz=>?_
 obtain ⟨a,fs,t,tb,m',rfl,ha,hv,hs⟩:=h
 refine zz ?_;clear zz
 unfold notedBy
 refine wp_note hfr hs fun s₁ fl hs₁=>?_
 unfold cameBackBy
 refine St.on hs₁ fun hp tk news own hs₁ l=>?_
 refine zk fun zz=>?_
 obtain ⟨hown,o,vs,⟨ho,_⟩,hc,hd,hz,hD,T,oT,ts,h1,h2,⟨h3,h3'⟩,h4,h5⟩:=l.R a _ Map.set_self
 refine zz ?_;clear zz
 refine wpAny_bind (wpAny_field (l.N _ ho).1 hd h1 ?_)
 rw [if_neg (show ¬ (Value.ref T == Value.none)=true from by simp)]
 exact wp_flight hs₁ fun s₂ fl₂ hs₂=>hE _ ⟨a,fs,t,some fl₂,m',rfl,ha,hv,hs₂⟩
theorem die_loop {rest:List Env}(hfr:c.fr=c.env :: rest):Fly.Loops prog w (zg G C) c:=fun e dv ρ s E h hE=>die_loops hfr h hE
inductive RaiseK (C:Addr) (X:Str→Map→Prop) (v:Value) (m':Loc) (σ':Map):Prop
 | mk (a:Addr) (fs:List (Str × Value)) (d:Str) (t:Tok) (h1:v = .ref a) (h2:σ' a=some (.exc C fs none)) (h3:getF "value" fs=some (.str d t)) (h4:X d (σ'.del a)):RaiseK C X v m' σ'
noncomputable def raiseOk (K:Frag) (C:Addr):Bool:=mroIn K C (.type "BaseException") == some true && typeIn K (.ref C) == some (.type "type")
theorem P_raise {c:Cx}{X:Str→Map→Prop}{exc:PySem.Expr}{pos:Pos}{m:Loc}{σ:Map}{Q:Flow→Loc→Map→Prop}(hh:c.hd=none) (hC:raiseOk (tops.heap_1 w.params) C=true) (h:POK prog w G (zg G C) c (eval exc c.env) m σ (RaiseK C X) X) :
 POK prog w G (zg G C) c (exec (.Raise (some exc) none pos) c.env) m σ Q X:=.of fun τ s hd hs=>by
 rw [arm_exec_Raise,show evalOpt (some exc) c.env=some (eval exc c.env) by kernel_rfl,show evalOpt none c.env=none by kernel_rfl]
 dsimp only [Option.map_some,Option.map_none]
 refine wpAny_bind (wpAny_standAt ?_)
 unfold raiseStmt
 refine wpAny_bind (wpAny_bind (h.wp hd hs fun v s₁ m₁ σ₁ hd₁ hs₁ ⟨a,fs,d,t,e,ha,hv,hX⟩=>wpAny_bind (wpAny_standAt (wpAny_pure ?_))))
 subst e
 refine St.on hs₁ fun hp tk news own hs₁ l=>?_
 refine zk fun zz=>?_
 simp only [raiseOk,Bool.and_eq_true,beq_iff_eq] at hC
 obtain ⟨r1,o,vs,⟨g1,_⟩,g3,g4,g5,g6,g7⟩:=l.R a _ (Map.or_some ha)
 obtain ⟨oc,od,oda,osl⟩:=o
 refine zz ?_;clear zz
 dsimp only at g3 g4
 subst g3 g4
 have hX':=(G.X l.O.1).keeps l.F.keep
 have he:=(l.N _ g1).1
 have t1:Looks (model prog w) hp (typeOf (.ref a)) (.ref C):=(Looks.ld he).andThen .now
 have s1:Looks (model prog w) hp (isSubtype (.ref C) (.type "BaseException")) true:=looks_mroIn hX' hC.1
 have t2:Looks (model prog w) hp (typeOf (.ref C)) (.type "type"):=looks_typeIn hX' hC.2
 unfold excFromValue isExcClass isInstance
 have h7:vs[1]? = some .none:=g7
 have fin:wpAny (model prog w) c.A (raiseNew (.ref a):Sem Flow) (Po G c τ Q) (XH (zg G C) c τ X) ⟨hp,G.fix.gens,G.fix.drawn,tk,G.fix.os⟩:=by
  refine wpAny_raiseNew_none hh ⟨d,σ₁.del a,fun b=>?_,⟨a,fs,t,none,m₁,rfl,?_,hv,?_⟩,hX⟩
  ·rcases hd₁ b with q | q
   ·exact .inl (by unfold Map.del;split <;> first | rfl | exact q)
   ·exact .inr q
  ·have:=hd₁.none_of ha
   unfold Map.or
   rw [Map.del_self,this];rfl
  ·have e:((σ₁.del a).or τ).set a (.exc C fs none)=σ₁.or τ:=by
    rw [← Map.set_or,Map.set_del ha]
   rw [e];exact hs₁
 repeat (first | exact fin | lk)
 rw [h7]
 refine wpAny_pure ?_
 rw [if_neg (by decide)]
 exact wpAny_pure fin
end
noncomputable def exOk (K:Frag) (C:Addr) (cd:ClassData) (sl:Array (Option Value)):Bool:=!cd.abstract && !cd.hasDel && (sl.toList[4]?).join == some (.builtin "Exception.__new__") && !cd.mro.isEmpty && cd.mro.contains (.ref C) && cd.mro.contains (.type "Exception") &&
 !cd.mro.contains (.type "AttributeError") && !cd.mro.contains (.type "NameError") && specialIn K (.ref C) "__call__" == some (some (.builtin "type.__call__")) && instIn K (.ref C) (.type "type") == some true
noncomputable def exData (K:Frag) (C:Addr):Obj→Bool
 | ⟨_,_,.cls cd,sl⟩=>exOk K C cd sl
 | _=>false
noncomputable def exMakesIn (K:Frag) (C:Addr):Bool:=match K.lookup C with
 | some o=>exData K C o
 | none=>false
structure ExMakes (M:Model) (h:Heap) (C:Addr):Prop where
 obj:∃ oc od cd sl,h.get? C=some ⟨oc,od,.cls cd,sl⟩∧cd.abstract=false∧cd.hasDel=false∧cd.mro.isEmpty=false
 made:Looks M h (Bind.madeBy (.ref C)) (some "Exception.__new__")
 base:Looks M h (Bind.staticBase (.ref C)) (.ref C)
 self:Looks M h (isSubtype (.ref C) (.ref C)) true
 top:Looks M h (isSubtype (.ref C) (.type "Exception")) true
 noA:Looks M h (isSubtype (.ref C) (.type "AttributeError")) false
 noN:Looks M h (isSubtype (.ref C) (.type "NameError")) false
 call:Looks M h (specialOf (.ref C) "__call__") (some (.builtin "type.__call__"))
 typ:Looks M h (isInstance (.ref C) (.type "type")) true
theorem exMakes_of {K:Frag}{M:Model}{h:Heap}(X:K.In h) {C:Addr}(e:exMakesIn K C=true):ExMakes M h C:=by
 unfold exMakesIn at e
 cases ho:K.lookup C with
 | none=>rw [ho] at e;exact nb e
 | some o=>
  rw [ho] at e
  obtain ⟨oc,od,dt,sl⟩:=o
  cases dt with
  | cls cd=>
   have e:exOk K C cd sl=true:=e
   unfold exOk at e
   simp only [Bool.and_eq_true,Bool.not_eq_true',beq_iff_eq] at e
   refine zk fun zz=>?_
   obtain ⟨⟨⟨⟨⟨⟨⟨⟨⟨e1,e2⟩,e3⟩,e4⟩,e5⟩,e6⟩,e6a⟩,e6b⟩,e7⟩,e8⟩:=e
   refine zz ?_;clear zz
   have hc:clsIn K C=some cd:=by unfold clsIn;rw [ho]
   have hm:Looks M h (mroOf (.ref C)) cd.mro:=(looks_clsIn X hc).andThen .now
   obtain ⟨c,l,hl⟩:∃ c l,cd.mro=c :: l:=by cases q:cd.mro with | nil=>rw [q] at e4;cases e4 | cons c l=>exact ⟨c,l,rfl⟩
   have made:Looks M h (Bind.madeBy (.ref C)) (some "Exception.__new__"):=by
    intro A Q E s k q
    unfold Bind.madeBy
    refine wpAny_bind (hm A _ E s k ?_)
    rw [hl,List.forIn_cons]
    refine wpAny_bind (wpAny_bind (wpAny_bind (wpAny_bind (wpAny_loadPart (k _ _ (X _ _ ho)) (wpAny_pure ?_)))))
    dsimp only
    rw [← Array.getElem?_toList,e3]
    exact wpAny_pure (wpAny_pure (wpAny_pure q))
   have sub:∀ (t:Value) (b:Bool),cd.mro.contains t=b→Looks M h (isSubtype (.ref C) t) b:=fun t b hb=>looks_mroIn X (by unfold mroIn;rw [hc,Option.bind_some,if_neg (by rw [e4];decide),hb])
   refine ⟨⟨oc,od,cd,sl,X _ _ ho,e1,e2,e4⟩,made,?_,sub _ _ e5,sub _ _ e6,sub _ _ e6a,sub _ _ e6b,looks_specialIn X e7,looks_instIn X e8⟩
   ·intro A Q E s k q
    unfold Bind.staticBase
    refine wpAny_bind (hm A _ E s k ?_)
    rw [hl,List.forIn_cons]
    exact wpAny_bind (wpAny_bind (wpAny_bind (made A _ E s k (wpAny_pure (wpAny_pure (wpAny_pure q))))))
  | _=>exact nb e
noncomputable abbrev tupObj (vs:List Value):Obj:={ cls:=.type "tuple",data:=.seq vs.toArray }
noncomputable abbrev jP (C t:Addr):Obj:={ cls:=.ref C,data:=.fields #[.ref t,.none,.none,.none,.bool false,.none] }
section
variable {prog:Program}{w:World}{A:Around}{K:Frag}{C:Addr}{R:Result→Shared→Prop}{h:Heap}{g:Array GenState}{d:Drawn}{t:Nat}{os:OsState}
theorem exc_new {rest:List Value}(Y:ExMakes (model prog w) h C) (hrest:rest.length≤sizeLine)
 (hq:R (.ok (.ret (.ref (h.objs.size+1)))) ⟨(h.push (tupObj rest)).push (jP C h.objs.size),g,d,t,os⟩) :
 codeAny (model prog w) A (.call (.builtin "Exception.__new__") ⟨.ref C :: rest,[]⟩) R ⟨h,g,d,t,os⟩:=by
 refine zk fun zz=>?_
 obtain ⟨⟨oc,od,cd,sl,hC,e1,e2,e4⟩,made,base,self,top,noA,noN,call,typ⟩:=Y
 refine zz ?_;clear zz
 have F:=PySem.F.excBase_Exception
 have hends:=F.ends
 refine codeAny_call_builtin_code (Code.quiet_builtin _ F.quiet) ?_
 unfold checkBuiltinCall
 rw [F.newKind,F.newSplit,F.newRow]
 dsimp only
 have args:Bind.checkArgs "Exception.__new__" ⟨.any,"Exception","Exception",.cls,[⟨"args",.varPos,false⟩,⟨"kwargs",.varKw,false⟩]⟩ ⟨.ref C :: rest,[]⟩=pure ():=by kernel_rfl
 rw [args]
 have here:Looks (model prog w) h (Bind.madeHere "Exception.__new__" (.ref C)) ():=base.andThen (made.andThen (Looks.of_pure (by simp only [Option.map_some,bne_self_eq_false,Bool.false_eq_true,if_false])))
 have here2:Looks (model prog w) h (Bind.madeHere "BaseException.__new__" (.ref C)) ():=base.andThen (made.andThen (Looks.of_pure (by simp only [Option.map_some,F.canon,bne_self_eq_false,Bool.false_eq_true,if_false])))
 repeat (first | rw [if_neg (by decide)] | lk)
 refine PySem.codeAny_builtinAt F.entry ?_
 unfold Builtin.«BaseException.__new__»
 refine PySem.wpAt_bind ?_
 show PySem.wpAt _ _ _ (stack >>= _) _ _ _
 refine PySem.wpAt_bind (PySem.wpAt_stack fun p below=>PySem.wpAt_of_wpAny ?_)
 wp_walk
 refine PySem.wpAt_of_wpAny ?_
 rw [F.owner]
 have hC1:=Heap.get?_push_of_some (tupObj rest) hC
 have hC2:=Heap.get?_push_of_some (jP C h.objs.size) hC1
 repeat (first | with_reducible refine wpAny_newTuple ?_ hrest | lk)
 rw [if_neg (by rw [e2];decide)]
 refine wpAny_pure (wpAny_pure ?_)
 show R _ _
 rw [Heap.size_push]
 exact hq
theorem exc_core {rest:List Value}{init:Value}(Y:ExMakes (model prog w) h C) (hi:Looks (model prog w) h (typeLookup (.ref C) "__init__") (some init))
 (hb:∀ self,Looks (model prog w) h (bindSpecial init self) (init,[self])) (hrest:rest.length≤sizeLine)
 (hq:codeAny (model prog w) (A.under (.builtin "type.__call__" ⟨.ref C :: rest,[]⟩)) (.call init ⟨.ref (h.objs.size+1) :: rest,[]⟩) (InitBack (h.objs.size+1) R) ⟨(h.push (tupObj rest)).push (jP C h.objs.size),g,d,t,os⟩) :
 codeAny (model prog w) A (.call (.ref C) ⟨rest,[]⟩) R ⟨h,g,d,t,os⟩:=by
 have Y':=Y
 refine zk fun zz=>?_
 obtain ⟨⟨oc,od,cd,sl,hC,e1,e2,e4⟩,made,base,self,top,noA,noN,call,typ⟩:=Y
 refine zz ?_;clear zz
 refine codeAny_of_tree ?_
 show wpAny _ _ (callAny (.ref C) _) _ _ _
 refine nd_load hC ?_
 show wpAny _ _ (callAny.viaDunder (.ref C) _) _ _ _
 unfold callAny.viaDunder
 refine wpAny_bind (call.at ?_)
 dsimp only
 rw [tc_bind]
 refine wpAny_bind (wpAny_pure (wpAny_bind (wpAny_pure ?_)))
 refine wpAny_pure (a:=Fin.again (.call (.builtin "type.__call__") ⟨.ref C :: rest,[]⟩)) (And.intro rfl ?_)
 refine codeAny_call_builtin_at (Code.quiet_builtin _ (by decide +kernel)) entry_typeCall (check_slot tc_kind tc_split typ (tc_args _ _ _) ?_)
 unfold Builtin.«type.__call__»
 have hm:Looks (model prog w) h (mroOf (.ref C)) cd.mro:=((Looks.ld (part:=none) hC).andThen .now).andThen .now
 repeat (first | rw [if_neg (by rw [e4];decide)] | with_reducible refine wpAny_call ?_ | lk)
 refine exc_new Y' hrest ?_
 have k:∀ b o,h.get? b=some o→((h.push (tupObj rest)).push (jP C h.objs.size)).get? b=some o:=fun b o e=>Heap.get?_push_of_some _ (Heap.get?_push_of_some _ e)
 have hx:((h.push (tupObj rest)).push (jP C h.objs.size)).get? (h.objs.size+1)=some (jP C h.objs.size):=by heap_get
 have t1:Looks (model prog w) ((h.push (tupObj rest)).push (jP C h.objs.size)) (typeOf (.ref (h.objs.size+1))) (.ref C):=(Looks.ld hx).andThen .now
 have s1:=self.keeps k
 have i1:=hi.keeps k
 have b1:=(hb (.ref (h.objs.size+1))).keeps k
 unfold isInstance callSpecial? specialOf
 repeat (first | with_reducible refine wpAny_call ?_ | lk)
 refine codeAny_mono hq fun r s' z=>?_
 rcases r with e | (v | _ | _ | _) <;> first | exact z | exact z.elim | skip
 obtain ⟨rfl,z⟩:=z
 exact wpAny_pure (wpAny_pure z)
end
section
variable {Y:Fly}{c:Cx}{X:Str→Map→Prop}{m:Loc}{σ τ ρ:Map}{C:Addr}
theorem P_makeExc {fI:Addr}{vs:List Value}{Q:Value→Loc→Map→Prop}(hm:exMakesIn (tops.heap_1 w.params) C=true) (hi:findIn (tops.heap_1 w.params) (.ref C) "__init__" = some (some (.ref fI))) (hf:isFn (tops.heap_1 w.params) (.ref fI)=true) (hz:vs.length≤sizeLine)
 (h:∀ x,σ x=none→COK prog w G Y c (c.A.under (.builtin "type.__call__" ⟨.ref C :: vs,[]⟩)) (.ref fI) ⟨.ref x :: vs,[]⟩ m (σ.set x (.exc C [] none)) (MkQ x Q) X) :
 POK prog w G Y c (call (.ref C) vs []) m σ Q X:=.of fun τ s hd hs=>by
 refine St.on hs fun hp tk news own hs l=>?_
 have X₁:=(G.X l.O.1).keeps l.F.keep
 refine wpAny_call (exc_core (exMakes_of X₁ hm) (looks_findIn X₁ hi) (fun self=>bind_fn X₁ self (beq_iff_eq.mp hf)) hz ?_)
 have l':=(l.pushOwned (x:=none) (tupObj vs) rfl).pushOwned (x:=some (hp.objs.size+1)) (jP C hp.objs.size) rfl
 rw [Heap.size_push] at l'
 have n2:∀ q∈((hp.objs.size,tupObj vs) :: news),q.1≠hp.objs.size+1:=fun q hq=>by
  rcases List.mem_cons.mp hq with rfl | hq
  ·exact Nat.ne_of_lt (Nat.lt_succ_self _)
  ·exact Nat.ne_of_lt (Nat.lt_succ_of_lt (l.news_lt hq))
 have r0:(σ.or τ) (hp.objs.size+1)=none:=by
  cases q:(σ.or τ) (hp.objs.size+1) with
  | none=>rfl
  | some ao=>
   obtain ⟨o',h'⟩:=(l.R _ ao q).at
   exact absurd rfl (n2 _ (.tail _ h'))
 obtain ⟨s0,t0⟩:=Map.or_none r0
 have hS:St G c m ((σ.set (hp.objs.size+1) (.exc C [] none)).or τ) ⟨(hp.push (tupObj vs)).push (jP C hp.objs.size),G.fix.gens,G.fix.drawn,tk,G.fix.os⟩:=by
  rw [Map.set_or]
  refine ⟨_,tk,_,fun b=>if b=hp.objs.size+1 then some (hp.objs.size+1) else (if b=hp.objs.size then none else own b),rfl,l'.F,l'.N,l'.nd,fun b bo hb=>?_,Led.outs_set l'.O fun m z=>by rw [r0] at z;cases z⟩
  by_cases e:b=hp.objs.size+1
  ·subst e
   rw [Map.set_self] at hb
   first | exact nb hb | exact nt hb | cases hb
   exact ⟨if_pos rfl,_,_,⟨.head _,if_pos rfl⟩,rfl,rfl,rfl,rfl,rfl⟩
  ·rw [Map.set_ne e] at hb
   exact l'.R b bo hb
 refine codeAny_mono ((h _ s0).go τ _ (hd.set t0) hS) fun r s' hr=>?_
 cases r with
 | error e=>exact hr
 | ok f=>
  cases f with
  | ret v=>
   refine zk fun zz=>?_
   obtain ⟨m',σ',a,b,q1,q2⟩:=hr
   refine zz ?_;clear zz
   exact ⟨q1,m',σ',a,b,q2⟩
  | _=>exact hr.elim
end
theorem refuse_exc (self:Value):refuseLoop self "__setattr__" [.type "Exception",.type "BaseException",.type "object"]=pure ():=by kernel_rfl
noncomputable def exOver:List Value→Bool
 | .ref _ :: r=>exOver r
 | l=>l == [.type "Exception",.type "BaseException",.type "object"]
theorem refuse_ex (self:Value):∀ {l:List Value},exOver l=true→refuseLoop self "__setattr__" l=pure ()
 | [],e=>by cases e
 | .ref c :: r,e=>by rw [refuseLoop_ref];exact refuse_ex self e
 | .type n :: r,e=>by rw [show (.type n :: r:List Value)=[.type "Exception",.type "BaseException",.type "object"] from beq_iff_eq.mp e];exact refuse_exc self
 | .none :: r,e | .bool _ :: r,e | .int _ _ :: r,e | .float _ _ :: r,e | .str _ _ :: r,e | .bytes _ _ :: r,e | .builtin _ :: r,e | .ellipsis :: r,e | .notImplemented :: r,e=>by
  have:=beq_iff_eq.mp e
  simp at this
section
variable {Y:Fly}{c:Cx}{X:Str→Map→Prop}{m:Loc}{σ τ ρ:Map}{C:Addr}
theorem wp_storeInDict {A:Around}{E:Value→Shared→Prop}{h:Heap}{g:Array GenState}{dw:Drawn}{tk:Nat}{os:OsState}{dx:Addr}{es:List DictEntry}{fs:List (Str × Value)}{n:Nat}{name:Str}{t:Tok}{v:Value}{Q:PySem.Fin→Shared→Prop}
 (D:h.get? dx=some (dictOf es n)) (hE:Ents es fs) (hz:(putF name v fs).length≤1000)
 (hQ:∀ h' es' n',Heap.SameBut dx h h'→h'.get? dx=some (dictOf es' n')→Ents es' (putF name v fs)→Q (.done (.ret .none)) ⟨h',g,dw,tk+1,os⟩) :
 wpAny (model prog w) A (Builtin.ObjectAttr.storeInDict dx (.str name t) name v) Q E ⟨h,g,dw,tk,os⟩:=by
 have hE':=putL_of name (PyData.keyHash w.params name) tk v hE
 refine wpAny_bind (wpAny_pure (wpAny_bind ?_))
 unfold nsSet
 refine wpAny_bind (wpAny_bind (wpAny_askSetting (wpAny_pure (wpAny_bind (wpAny_mkText (wpAny_bind (wpAny_loadPart D ?_)))))))
 dsimp only
 have cc:(!es.toArray.any (·.key.isStr name) && es.toArray.any (·.refKey))=false:=by
  have:es.toArray.any (·.refKey)=false:=by
   rw [← Array.any_toList]
   have:∀ {es:List DictEntry} {fs:List (Str × Value)},Ents es fs→es.any (·.refKey)=false:=by
    intro es
    induction es with
    | nil=>intro _ _;rfl
    | cons e r ih=>
     intro fs h
     cases fs with
     | nil=>exact h.elim
     | cons f fr=>
      refine zk fun zz=>?_
      obtain ⟨⟨⟨t,hk⟩,hv⟩,h⟩:=h
      refine zz ?_;clear zz
      rw [List.any_cons,ih h]
      unfold DictEntry.refKey;rw [hk];rfl
   exact this hE
  rw [this,Bool.and_false]
 rw [aRefKeyMayBeTheName_at,cc]
 have hp:=putName_dict name (PyData.keyHash w.params name) (.str name tk) v es n
 have D':=Heap.get?_update_self (Obj.putName name (PyData.keyHash w.params name) (.str name tk) v) D (by rw [hp];rfl)
 rw [hp] at D'
 refine wpAny_updatePart D ?_
 refine wpAny_bind (wpAny_lookBehind D' (by exact pastItsLine_dict (by rw [List.size_toArray,ents_length hE',sizeLine_eq];omega)) ?_)
 exact wpAny_pure (hQ _ _ _ (Heap.SameBut.update _ _ _) D' hE')
noncomputable def excStoreOk (K:Frag) (C:Addr) (name:Str):Bool:=findIn K (.ref C) "__setattr__" == some (some (.builtin "object.__setattr__")) &&
 (clsIn K C).any (fun cd=>exOver cd.mro && cd.hasDict && cd.mro.contains (.type "object") && !cd.mro.isEmpty) && takerIn K C name == some none
end
namespace P_setExc
noncomputable def S₀ (Y:Fly) (c:Cx) (m:Loc) (σ:Map) (X:Str→Map→Prop) (C:Addr) (x:Addr) (Q:Unit→Loc→Map→Prop):Prop:=∀ {fs:List (Str × Value)} {tb:Option Value} {name:Str} {v:Value} (hx:σ x=some (.exc C fs tb)) (hf:excStoreOk (tops.heap_1 w.params) C name=true) (hl:(putF name v fs).length≤1000) (h:Q () m (σ.set x (.exc C (putF name v fs) tb))),POK prog w G Y c (setAttr (.ref x) name v) m σ Q X
noncomputable def e₀:Fly × Cx × Loc × Map × (Str→Map→Prop) × Addr × Addr × (Unit→Loc→Map→Prop):=@Classical.epsilon _ ⟨(⟨fun _ _ _ _ _=>True⟩,dCx,default,default,default,default,default,default)⟩ fun x=>¬ S₀ x.1 x.2.1 x.2.2.1 x.2.2.2.1 x.2.2.2.2.1 x.2.2.2.2.2.1 x.2.2.2.2.2.2.1 x.2.2.2.2.2.2.2
@[irreducible] noncomputable def Y:Fly:=e₀.1
@[irreducible] noncomputable def c:Cx:=e₀.2.1
@[irreducible] noncomputable def m:Loc:=e₀.2.2.1
@[irreducible] noncomputable def σ:Map:=e₀.2.2.2.1
@[irreducible] noncomputable def X:Str→Map→Prop:=e₀.2.2.2.2.1
@[irreducible] noncomputable def C:Addr:=e₀.2.2.2.2.2.1
@[irreducible] noncomputable def x:Addr:=e₀.2.2.2.2.2.2.1
@[irreducible] noncomputable def Q:Unit→Loc→Map→Prop:=e₀.2.2.2.2.2.2.2
theorem here:S₀ Y c m σ X C x Q:=@fun fs tb name v hx hf hl h=>.of fun τ s hd hs=>by
 refine St.on hs fun hp tk news own hs l=>?_
 refine zk fun zz=>?_
 have X₁:=(G.X l.O.1).keeps l.F.keep
 obtain ⟨hown,o,vs,⟨ho,_⟩,hc,hdd,hz,hD,hT⟩:=l.R x _ (Map.or_some hx)
 obtain ⟨oc,od,oda,osl⟩:=o
 refine zz ?_;clear zz
 dsimp only at hc hdd hD
 subst hc hdd
 have he:=(l.N _ ho).1
 simp only [excStoreOk,Bool.and_eq_true,beq_iff_eq] at hf
 refine zk fun zz=>?_
 obtain ⟨⟨f1,f2⟩,f3⟩:=hf
 obtain ⟨cd,hcd,f2⟩:=any_some f2
 simp only [Bool.and_eq_true,Bool.not_eq_true'] at f2
 obtain ⟨⟨⟨g1,g2⟩,g3⟩,g4⟩:=f2
 refine zz ?_;clear zz
 have I:∃ odo,W.InstAt hp x ⟨.ref C,od,.fields vs,osl⟩ C odo:=by
  cases od with
  | none=>exact ⟨none,he,rfl,rfl,trivial⟩
  | some d=>obtain ⟨es,n,⟨q1,q2⟩,q3⟩:=hD;exact ⟨some (dictOf es n),he,rfl,rfl,(l.N _ q1).1⟩
 obtain ⟨odo,I⟩:=I
 have hxF:∀ m,(σ.or τ) x≠some (.frm m):=fun m z=>by rw [Map.or_some hx] at z;cases z
 have fin:∀ s',St G c m ((σ.or τ).set x (.exc C (putF name v fs) tb)) s'→Po G c τ Q () s':=fun s' hs'=>
  ⟨m,_,hd.set (hd.none_of hx),by rw [Map.set_or];exact hs',h⟩
 refine set_plain X₁ I f1 ?_
 have SF:=PySem.F.store_object
 have sub:Looks (model prog w) hp (isInstance (.ref x) (.type "object")) true:=I.type.andThen (looks_mroIn X₁ (by unfold mroIn;rw [hcd,Option.bind_some,if_neg (by rw [g4];decide),g3]))
 refine codeAny_call_builtin SF.slot.plain SF.entry (@check_slot (model prog w) _ _ _ "object.__setattr__" "object" "__setattr__" (.ref x) [.str name tk,v] [] _ SF.kind SF.split sub (SF.args (.ref x) (.str name tk) v) ?_)
 refine zk fun zz=>?_
 obtain ⟨attr,ha,hr⟩:=Option.bind_eq_some_iff.mp f3
 refine zz ?_;clear zz
 have hm:Looks (model prog w) hp (mroOf (.ref C)) cd.mro:=(looks_clsIn X₁ hcd).andThen .now
 have L3:Looks (model prog w) hp (Builtin.ObjectAttr.storeTaker? attr) none:=by
  cases attr with
  | none=>exact .now
  | some a=>
   refine zk fun zz=>?_
   obtain ⟨b,hb,hb2⟩:=Option.map_eq_some_iff.mp hr
   refine zz ?_;clear zz
   refine (looks_takesIn X₁ hb).andThen ?_
   cases b with
   | true=>cases hb2
   | false=>exact .now
 rw [osa_eq,refuse_eq]
 refine wpAny_bind (wpAny_bind (I.type.here (wpAny_bind (hm.here ?_))))
 rw [refuse_ex _ g1]
 refine wpAny_pure (wpAny_bind (I.type.here (wpAny_bind ((looks_findIn X₁ ha).here (wpAny_bind (L3.here ?_))))))
 refine wpAny_bind (wpAny_pure (wpAny_bind (wpAny_bind (wpAny_loadPart he (wpAny_bind ((looks_clsIn X₁ hcd).here ?_))))))
 rw [g2]
 cases od with
 | some d=>
  refine zk fun zz=>?_
  obtain ⟨es,n,⟨q1,q2⟩,q3⟩:=hD
  refine zz ?_;clear zz
  refine wpAny_pure (a:=some d) ?_
  refine wp_storeInDict (l.N _ q1).1 q3 hl fun h' es' n' hsb hg hE'=>fin _ ?_
  have hxd:x≠d:=fun z=>by
   have:=mem_same l.nd ho (z ▸ q1)
   cases this
  exact ⟨h',_,_,own,rfl,l.ext q1 q2 hsb.extBut hg ⟨hown,_,_,⟨jx ho hxd,hown⟩,rfl,rfl,hz,⟨es',n',⟨z8 q1,q2⟩,hE'⟩,by
   cases tb with
   | none=>exact hT
   | some fl=>
    refine zk fun zz=>?_
    obtain ⟨T,oT,ts,t1,t2,⟨t3,t3'⟩,t4,t5⟩:=hT
    refine zz ?_;clear zz
    have hTd:T≠d:=fun z=>by
     have:=mem_same l.nd t3 (z ▸ q1)
     rw [this] at t4;cases t4
    exact ⟨T,oT,ts,t1,t2,⟨jx t3 hTd,t3'⟩,t4,t5⟩⟩ hxF⟩
 | none=>
  have e0:fs=[]:=hD
  subst e0
  show wpAny _ _ (alloc (emptyDict) >>= fun d=>update x (fun o=>{ o with dict:=some d }) >>= fun _=>dictMade (.ref C) x d) _ _ _
  refine wpAny_bind (wpAny_alloc ?_)
  have l₁:=l.pushOwned (x:=some x) emptyDict rfl
  have hxs:x≠hp.objs.size:=fun z=>absurd (l.news_lt ho) (by rw [← z];exact Nat.lt_irrefl _)
  have ho₁:(x,(⟨.ref C,none,.fields vs,osl⟩:Obj))∈(hp.objs.size,emptyDict) :: news:=.tail _ ho
  have hg₁:=Heap.get?_update_self (fun o=>{ o with dict:=some hp.objs.size }) (l₁.N _ ho₁).1 rfl
  refine wpAny_bind (wpAny_update (l₁.N _ ho₁).1 ?_)
  refine wpAny_pure ?_
  have own₁:(fun b=>if b=hp.objs.size then some x else own b) x=some x:=(if_neg hxs).trans hown
  have q1:(hp.objs.size,dictOf [] 0)∈putO x { (⟨.ref C,none,.fields vs,osl⟩:Obj) with dict:=some hp.objs.size } ((hp.objs.size,emptyDict) :: news):=jx (.head _) (Ne.symm hxs)
  have rep₁:AORep (putO x { (⟨.ref C,none,.fields vs,osl⟩:Obj) with dict:=some hp.objs.size } ((hp.objs.size,emptyDict) :: news)) (fun b=>if b=hp.objs.size then some x else own b) x (.exc C [] tb):=by
   refine ⟨own₁,_,_,⟨z8 ho₁,own₁⟩,rfl,rfl,hz,⟨[],0,⟨q1,if_pos rfl⟩,trivial⟩,?_⟩
   cases tb with
   | none=>exact hT
   | some fl=>
    refine zk fun zz=>?_
    obtain ⟨T,oT,ts,t1,t2,⟨t3,t3'⟩,t4,t5⟩:=hT
    refine zz ?_;clear zz
    exact ⟨T,oT,ts,t1,t2,⟨jx (.tail _ t3) t2,(if_neg (fun z=>absurd (l.news_lt t3) (by rw [z];exact Nat.lt_irrefl _))).trans t3'⟩,t4,t5⟩
  have l₂:=l₁.ext ho₁ own₁ (Heap.SameBut.update _ _ _).extBut hg₁ rep₁ hxF
  refine wp_storeInDict (l₂.N _ q1).1 (fs:=[]) trivial hl fun h' es' n' hsb hg hE'=>fin _ ?_
  have q2:(fun b=>if b=hp.objs.size then some x else own b) hp.objs.size=some x:=if_pos rfl
  have:=l₂.ext (ao:=.exc C (putF name v []) tb) q1 q2 hsb.extBut hg ⟨own₁,_,_,⟨jx (z8 ho₁) hxs,own₁⟩,rfl,rfl,hz,⟨es',n',⟨z8 q1,q2⟩,hE'⟩,by
   cases tb with
   | none=>exact hT
   | some fl=>
    refine zk fun zz=>?_
    obtain ⟨T,oT,ts,t1,t2,⟨t3,t3'⟩,t4,t5⟩:=hT
    refine zz ?_;clear zz
    have hTs:T≠hp.objs.size:=fun z=>absurd (l.news_lt t3) (by rw [z];exact Nat.lt_irrefl _)
    exact ⟨T,oT,ts,t1,t2,⟨jx (jx (.tail _ t3) t2) hTs,(if_neg hTs).trans t3'⟩,t4,t5⟩⟩ (fun m z=>by rw [Map.set_self] at z;cases z)
  rw [Map.set_twice] at this
  exact ⟨h',_,_,_,rfl,this⟩
end P_setExc
section
variable {Y:Fly}{c:Cx}{X:Str→Map→Prop}{m:Loc}{σ τ ρ:Map}{C:Addr}
theorem P_setExc {x:Addr}{fs:List (Str × Value)}{tb:Option Value}{name:Str}{v:Value}{Q:Unit→Loc→Map→Prop}(hx:σ x=some (.exc C fs tb)) (hf:excStoreOk (tops.heap_1 w.params) C name=true) (hl:(putF name v fs).length≤1000) (h:Q () m (σ.set x (.exc C (putF name v fs) tb))):POK prog w G Y c (setAttr (.ref x) name v) m σ Q X:=by with_unfolding_all exact eps (fun x:Fly × Cx × Loc × Map × (Str→Map→Prop) × Addr × Addr × (Unit→Loc→Map→Prop)=>P_setExc.S₀ x.1 x.2.1 x.2.2.1 x.2.2.2.1 x.2.2.2.2.1 x.2.2.2.2.2.1 x.2.2.2.2.2.2.1 x.2.2.2.2.2.2.2) P_setExc.here (Y,c,m,σ,X,C,x,Q) hx hf hl h
end
section
variable {Y:Fly}{c:Cx}{X:Str→Map→Prop}{m:Loc}{σ τ ρ:Map}{C:Addr}
theorem tE1:typeOf (.type "Exception")=pure (.type "type"):=by kernel_rfl
theorem tE2:specialOf (.type "Exception") "__getattribute__" = pure (some (.builtin "type.__getattribute__")):=by kernel_rfl
theorem P_excMeth {pl:Sem Bool}{Q:Value × List Value→Loc→Map→Prop}(h:Q (.builtin "Exception.__init__",[]) m σ):POK prog w G Y c (getMethod (.type "Exception") "__init__" pl) m σ Q X:=.of fun τ s hd hs=>by
 unfold getMethod
 rw [tE2]
 refine wpAny_bind (wpAny_pure ?_)
 dsimp only
 rw [if_pos (by decide)]
 refine St.on hs fun hp tk news own hs l=>?_
 refine wpAny_bind ?_
 refine cls_open (K:=(tops.heap_1 w.params)) (mc:=.type "type") (hook:=none) (r:=.val (.builtin "Exception.__init__")) ((G.X l.O.1).keeps l.F.keep) (Looks.of_pure (by kernel_rfl)) (Looks.of_pure tE1) (by kernel_rfl) (Looks.of_pure (by kernel_rfl)) (by kernel_rfl) (by kernel_rfl) ?_
 refine wpAny_pure ?_
 show wpAny _ _ (handedOut _) _ _ _
 rw [handedOut_of (by rfl)]
 exact wpAny_pure (wpAny_pure ⟨m,σ,hd,hs.toks _,h⟩)
theorem lekk {a b:Nat}(h:Nat.ble a b=true):a≤b:=Nat.le_of_ble_eq_true h
theorem P_excInit {x:Addr}{fs:List (Str × Value)}{v:Value}{Q:Value→Loc→Map→Prop}(hx:σ x=some (.exc C fs none)) (hC:mroIn (tops.heap_1 w.params) C (.type "Exception")=some true) (hM:exMakesIn (tops.heap_1 w.params) C=true) (h:Q .none m σ) :
 POK prog w G Y c (call (.builtin "Exception.__init__") [.ref x,v]) m σ Q X:=.of fun τ s hd hs=>by
 refine St.on hs fun hp tk news own hs l=>?_
 refine zk fun zz=>?_
 have X₁:=(G.X l.O.1).keeps l.F.keep
 obtain ⟨hown,o,vs,⟨ho,_⟩,hc,hdd,hz,hD,hT⟩:=l.R x _ (Map.or_some hx)
 have F:=PySem.F.excBase_Exception
 obtain ⟨⟨cc,cdct,cdd,csl,hCC,ce1,ce2,ce4⟩,-⟩:=exMakes_of (M:=model prog w) X₁ hM
 refine zz ?_;clear zz
 have he:=(l.N _ ho).1
 have t1:Looks (model prog w) hp (typeOf (.ref x)) (.ref C):=by rw [← hc];exact (Looks.ld he).andThen .now
 have i1:Looks (model prog w) hp (isInstance (.ref x) (.type "Exception")) true:=t1.andThen (looks_mroIn X₁ hC)
 refine wpAny_call (codeAny_call_builtin F.init.plain F.initEntry ?_)
 have hshort:=F.noStar
 unfold checkBuiltinCall
 rw [F.initKind,F.initSplit,F.initRow]
 dsimp only
 generalize hB:Builtin.«BaseException.__init__» ⟨[.ref x,v],[]⟩=B
 repeat lk
 subst hB
 unfold Builtin.«BaseException.__init__»
 show wpAny _ _ (newTuple [v] >>= fun t=>Builtin.BaseException.bexcPut (.ref x) 0 t >>= fun _=>ret .none) _ _ _
 have l₁:=l.pushOwned (x:=none) (tupObj [v]) rfl
 have ho₁:(x,o)∈(hp.objs.size,tupObj [v]) :: news:=.tail _ ho
 have hxs:x≠hp.objs.size:=fun z=>absurd (l.news_lt ho) (by rw [← z];exact Nat.lt_irrefl _)
 refine wpAny_bind (wpAny_newTuple ?_ (by rw [sizeLine_eq];exact lekk rfl))
 unfold Builtin.BaseException.bexcPut
 obtain ⟨y,hy⟩:∃ y,vs[0]? = some y:=⟨vs[0]'(by omega),by simp [hz]⟩
 refine wpAny_bind (wpAny_bind (wpAny_field (l₁.N _ ho₁).1 hdd hy (wpAny_bind (wpAny_setField (l₁.N _ ho₁).1 hdd (by omega) ?_))))
 obtain ⟨news',l₂⟩:=excField (tb':=none) (i:=0) (v:=.ref hp.objs.size) (fs:=fs) l₁ (fun m z=>by rw [Map.or_some hx] at z;cases z) ((if_neg hxs).trans hown) ho₁ hc hdd hz (hD.put fun d e o' ⟨h1,h2⟩=>⟨.tail _ h1,(if_neg (fun z=>absurd (l.news_lt h1) (by rw [z];exact Nat.lt_irrefl _))).trans h2⟩)
  (fun M hM=>by
   have:vs[1]? = some .none:=hT
   show (vs.setIfInBounds 0 _)[1]? = _
   rw [Array.getElem?_setIfInBounds_ne (by decide)];exact this)
 have fin:Po G c τ Q .none ⟨(hp.push (tupObj [v])).update x (Obj.mapFields (·.setIfInBounds 0 (.ref hp.objs.size))),G.fix.gens,G.fix.drawn,tk,G.fix.os⟩:=by
  rw [Map.set_idem (Map.or_some hx)] at l₂
  exact ⟨m,σ,hd,⟨_,_,_,_,rfl,l₂⟩,h⟩
 cases y <;> first | exact wpAny_letGo (wpAny_pure fin) | exact wpAny_pure (wpAny_pure fin)
end
noncomputable def excFieldOk (K:Frag) (C:Addr) (name:Str):Bool:=findIn K (.ref C) "__getattribute__" == some (some (.builtin "BaseException.__getattribute__")) && findIn K (.ref C) "__getattr__" == some none && hasDictIn K C &&
 findIn K (.ref C) name == some none && mroIn K C (.type "BaseException") == some true
theorem bga_bind (self:Value):bindSpecial (.builtin "BaseException.__getattribute__") self=pure (.builtin "BaseException.__getattribute__",[self]):=
 (Slot.of (T:="BaseException") (name:="__getattribute__") (owner:="BaseException") (n:="__getattribute__") (by rw [typeLookup_type,builtinLookup_eq_fast];kernel_rfl) (by decide +kernel) (by decide +kernel) (by decide +kernel)
  (.inl (by decide +kernel)) (by rw [isSubtype_type];kernel_rfl)).bind self
section
variable {Y:Fly}{c:Cx}{X:Str→Map→Prop}{m:Loc}{σ τ ρ:Map}{C:Addr}
theorem P_getExc {x:Addr}{fs:List (Str × Value)}{tb:Option Value}{name:Str}{v:Value}{expr:Bool}{Q:Value→Loc→Map→Prop}(hx:σ x=some (.exc C fs tb)) (hf:excFieldOk (tops.heap_1 w.params) C name=true) (hv:getF name fs=some v) (hh:handedIn v=true)
 (h:Q v m σ):POK prog w G Y c (getAttr (.ref x) name expr) m σ Q X:=.of fun τ s hd hs=>by
 refine St.on hs fun hp tk news own hs l=>?_
 refine zk fun zz=>?_
 have X₁:=(G.X l.O.1).keeps l.F.keep
 obtain ⟨hown,o,vs,⟨ho,_⟩,hc,hdd,hz,hD,hT⟩:=l.R x _ (Map.or_some hx)
 obtain ⟨oc,od,oda,osl⟩:=o
 refine zz ?_;clear zz
 dsimp only at hc hdd hD
 subst hc hdd
 have he:=(l.N _ ho).1
 simp only [excFieldOk,Bool.and_eq_true,beq_iff_eq] at hf
 refine zk fun zz=>?_
 obtain ⟨⟨⟨⟨f1,f2⟩,f3⟩,f4⟩,f5⟩:=hf
 refine zz ?_;clear zz
 cases od with
 | none=>rw [show fs=[] from hD] at hv;cases hv
 | some d=>
  refine zk fun zz=>?_
  obtain ⟨es,n,⟨q1,q2⟩,q3⟩:=hD
  refine zz ?_;clear zz
  have I:W.InstAt hp x ⟨.ref C,some d,.fields vs,osl⟩ C (some (dictOf es n)):=⟨he,rfl,rfl,(l.N _ q1).1⟩
  have L0:=I.type (M:=model prog w)
  have L1:=looks_findIn (M:=model prog w) X₁ f1
  have hfo:findObj (tops.heap_1 w.params) C (some (dictOf es n)) name=some (.value v):=findObj_own f3 f4 rfl ((getL_of name q3).trans (by rw [hv]))
  have L2:=looks_find (M:=model prog w) X₁ I hfo
  have L3:Looks (model prog w) hp (hookBefore (.ref C)) none:=looks_hook X₁ (by show (if true=true then _ else _)=_;rw [if_pos rfl];exact f2)
  have L4:Looks (model prog w) hp (isInstance (.ref x) (.type "BaseException")) true:=L0.andThen (looks_mroIn X₁ f5)
  unfold getAttr getAttrBy
  refine wpAny_bind (wpAny_mkText (wpAny_holding (wpAny_bind (L0.at (wpAny_bind (L1.at ?_))))))
  dsimp only
  rw [show (onTheHeap (Value.ref C) && Value.builtin "BaseException.__getattribute__" == Value.builtin "object.__getattribute__")=false from by rw [show (Value.builtin "BaseException.__getattribute__" == Value.builtin "object.__getattribute__")=false from by decide +kernel,Bool.and_false],if_neg (by decide)]
  unfold getAttrByItsOwn
  refine wpAny_bind (L3.at (wpAny_bind (wpAny_attempt (wpAny_holding ?_))))
  unfold callGetattribute
  rw [show (expr && onTheHeap (Value.builtin "BaseException.__getattribute__"))=false from Bool.and_false _,if_neg (by decide)]
  unfold boundAndCalled
  rw [bga_bind]
  refine wpAny_bind (wpAny_pure ?_)
  show wpAny _ _ (call (.builtin "BaseException.__getattribute__") [.ref x,.str name tk]) _ _ _
  refine wpAny_call (codeAny_call_builtin (by decide +kernel) PySem.F.entry_bexc_ga ?_)
  refine @check_slot (model prog w) _ _ _ "BaseException.__getattribute__" "BaseException" "__getattribute__" (.ref x) [.str name tk] [] _ (by decide +kernel) (by decide +kernel) L4 (PySem.F.args_bexc_ga _ _) ?_
  unfold Builtin.«object.__getattribute__»
  refine wpAny_bind (wpAny_pure (wpAny_bind (wpAny_pure (wpAny_bind (L0.at (wpAny_bind (L2.at ?_)))))))
  refine wpAny_pure ?_
  show wpAny _ _ (handedOut v) _ _ _
  rw [handedOut_of hh]
  exact wpAny_pure ⟨m,σ,hd,hs.toks _,h⟩
end
noncomputable abbrev Cx.mark (c:Cx) (e:Value):Cx:={ c with hd:=some e }
section
variable {Y:Fly}{c:Cx}{X:Str→Map→Prop}{m:Loc}{σ τ ρ:Map}{C:Addr}
theorem St.mark {s:Shared}{e:Value}(h:St G c m ρ s):St G (c.mark e) m ρ s:=by
 refine St.on h fun hp tk news own h l=>?_
 exact ⟨hp,tk,news,own,rfl,l.F,l.N,l.nd,l.R,l.O⟩
theorem wp_matches {A:Around}{M:Model}{E:Value→Shared→Prop}{h:Heap}{g:Array GenState}{dw:Drawn}{tk:Nat}{os:OsState}{a:Addr}{Q:Bool→Shared→Prop}(X₁:(tops.heap_1 w.params).In h) (hC:raiseOk (tops.heap_1 w.params) C=true) (hM:exMakesIn (tops.heap_1 w.params) C=true)
 (t1:Looks M h (typeOf (.ref a)) (.ref C)) (hQ:Q true ⟨h,g,dw,tk,os⟩):wpAny M A (excMatches (.ref a) (.ref C)) Q E ⟨h,g,dw,tk,os⟩:=by
 simp only [raiseOk,Bool.and_eq_true,beq_iff_eq] at hC
 have t2:Looks M h (typeOf (.ref C)) (.type "type"):=looks_typeIn X₁ hC.2
 have s1:Looks M h (isSubtype (.ref C) (.type "BaseException")) true:=looks_mroIn X₁ hC.1
 have n1:Looks M h (isSubtype (.type "type") (.type "tuple")) false:=Looks.of_pure tc_notTuple
 refine zk fun zz=>?_
 obtain ⟨⟨oc,od,cd,sl,hCC,e1,e2,e4⟩,made,base,self,top,noA,noN,call,typ⟩:=exMakes_of (M:=M) X₁ hM
 refine zz ?_;clear zz
 unfold excMatches isExcClass isInstance
 repeat (first | exact hQ | lk)
 done
theorem P_try {c:Cx}{X:Str→Map→Prop}{body suite orelse:List Stmt}{b₀:Stmt}{np pos pos':Pos}{m:Loc}{σ:Map}{x n:Str}{hs:List ExceptHandler}{rest:List Env}{Q:Flow→Loc→Map→Prop}{X₁:Str→Map→Prop}(hfr:c.fr=c.env :: rest) (hC:raiseOk (tops.heap_1 w.params) C=true) (hM:exMakesIn (tops.heap_1 w.params) C=true) (h1:POK prog w G (zg G C) c (execs body c.env) m σ (SeqK prog w G (zg G C) orelse c X Q) X₁) (h2:∀ (d:Str) (σ':Map) (a:Addr) (m':Loc) (fs:List (Str × Value)) (t:Tok) (tb:Option Value),X₁ d σ'→σ' a=none→getF "value" fs=some (.str d t) →
 POK prog w G (zg G C) (c.mark (.ref a)) (execs (b₀ :: suite) (c.mark (.ref a)).env) (Loc.set m' n (.ref a)) (σ'.set a (.exc C fs tb)) (fun f _ σ₂=>∀ m₃,Q f m₃ σ₂) (fun _ _=>False)) (e:nsIn (tops.heap_1 w.params) mainGlobals x=some (some (.ref C))) (hx:SGlo x c:=by kernel_rfl) (hd':(x == ("__debug__" : Str))=false:=by decide) (hl:SLoc n c:=by kernel_rfl) :
 POK prog w G (zg G C) c (exec (.Try body (.ExceptHandler (some (.Name x np)) (some n) (b₀ :: suite) pos' :: hs) orelse [] pos) c.env) m σ Q X:=.of fun τ s hd hs=>by
 refine wpAny_Try_except (wpAny_mono (h1.go τ s hd hs) (fun f s₁ zq=>zq.on fun m₁ σ₁ a b q=>?_) fun ev s₁ zq=>zq.on fun d σ' hdd up hX₁=>?_)
 ·cases f with
  | next=>exact q.go τ s₁ a b
  | _=>exact ⟨m₁,σ₁,a,b,q⟩
 refine zk fun zz=>?_
 obtain ⟨a,fs,t,tb,m',rfl,ha,hv,hs'⟩:=up
 obtain ⟨sa,ta⟩:=Map.or_none ha
 refine zz ?_;clear zz
 refine wp_note hfr hs' fun s₂ fl hs₂=>wp_flight hs₂ fun s₃ fl₃ hs₃=>?_
 have hs₄:St G (c.mark (.ref a)) m' ((σ'.set a (.exc C fs (some fl₃))).or τ) s₃:=by rw [Map.set_or];exact hs₃.mark
 have hd₄:Disj (σ'.set a (.exc C fs (some fl₃))) τ:=hdd.set ta
 refine wpAny_handleBy_cons (codeAny_handlers_test ?_) (by intro q;cases q)
 refine (zh (Y:=zg G C) (c:=c.mark (.ref a)) (m:=m') (σ:=σ'.set a (.exc C fs (some fl₃))) (X:=fun _ _=>False) (pos:=np)
  (Q:=fun v m₂ σ₂=>v = .ref C∧m₂=m'∧σ₂=σ'.set a (.exc C fs (some fl₃))) e ⟨rfl,rfl,rfl⟩ hx hd').wpIs hd₄ hs₄ fun s₅ hd₅ hs₅=>?_
 refine St.on hs₅ fun hp tk news own hs₅ l=>?_
 refine zk fun zz=>?_
 have X₂:=(G.X l.O.1).keeps l.F.keep
 obtain ⟨hown,o,vs,⟨ho,_⟩,hc,hdt,hz,hD,hT⟩:=l.R a _ (Map.or_some Map.set_self)
 refine zz ?_;clear zz
 have t1:Looks (model prog w) hp (typeOf (.ref a)) (.ref C):=by rw [← hc];exact (Looks.ld (l.N _ ho).1).andThen .now
 refine wp_matches X₂ hC hM t1 ?_
 refine codeAny_handlers_suite_as ?_
 rw [Map.set_or] at hs₅
 refine wp_flight hs₅ fun s₆ fl₆ hs₆=>?_
 rw [← Map.set_or] at hs₆
 have hd₆:Disj (σ'.set a (.exc C fs (some fl₆))) τ:=hdd.set ta
 refine (zx (Y:=zg G C) (c:=c.mark (.ref a)) (m:=m') (σ:=σ'.set a (.exc C fs (some fl₆))) (X:=fun _ _=>False) (x:=n) (v:=.ref a)
  (Q:=fun _ m₂ σ₂=>m₂=Loc.set m' n (.ref a)∧σ₂=σ'.set a (.exc C fs (some fl₆))) ⟨rfl,rfl⟩ hl).wpAs hd₆ hs₆ fun _ s₇ hd₇ hs₇=>?_
 refine wpAny_mono ((h2 d σ' a m' fs t (some fl₆) hX₁ sa hv).go τ s₇ hd₇ hs₇) (fun f s₈ zq=>?_) fun _ _ z=>z.no
 refine zk fun zz=>?_
 obtain ⟨m₈,σ₈,hd₈,hs₈,q⟩:=zq
 refine zz ?_;clear zz
 refine St.on hs₈ fun h₈ tk₈ news₈ own₈ hs₈ l₈=>?_
 refine wpAny_nameGoes (env:=c.env) (hl).symm l₈.F.ns (by show (c.cs.kind == .class || (c.cs.kind == .module && c.L != mainGlobals))=false;rw [c.hk];rfl) fun h' m₉ hns hsb=>?_
 exact ⟨m₉,σ₈,hd₈,⟨h',_,news₈,own₈,rfl,l₈.F.set hns hsb,l₈.N.set hsb,l₈.nd,l₈.R,l₈.O⟩,q m₉⟩
end
section
variable {Y:Fly}{c:Cx}{X:Str→Map→Prop}{m:Loc}{σ τ ρ:Map}{C:Addr}
theorem P_itemTup {Y:Fly}{c:Cx}{X:Str→Map→Prop}{value slice:PySem.Expr}{m:Loc}{σ:Map}{a:Addr}{xs:List Value}{k:Int}{u:Tok}{x:Value}{Q:Value→Loc→Map→Prop}(hx:σ a=some (.seq true xs)) (h0:0≤k) (h1:k < 2 ^ 63) (hi:xs[k.toNat]? = some x) (h:Q x m σ) (hs:subscripted slice false (.ref a) (.int k u)=operate [.ref a,.int k u] (getItem (.ref a) (.int k u)):=by kernel_rfl) (hg:∀ r,letTemporaryGo value (.ref a) r=Pure.pure ():=by intro _;kernel_rfl) :
 POK prog w G Y c (subscriptTail value slice (.ref a) (.int k u)) m σ Q X:=.of fun τ s hd hs'=>by
 refine St.on hs' fun hp tk news own hs' l=>?_
 have I:=l.isTuple (Map.or_some hx)
 have hlt:k.toNat < xs.length:=(List.getElem?_eq_some_iff.mp hi).1
 refine item_tuple (j:=k.toNat) I (by omega) h1 ?_ (by simpa using hi) ⟨m,σ,hd,hs',h⟩ hs hg
 unfold seqIndex?
 have hk:¬ k < 0:=by omega
 simp only [List.size_toArray,hk,if_false]
 rw [if_pos]
 simp only [Bool.and_eq_true,decide_eq_true_eq]
 exact ⟨h0,by omega⟩
end
noncomputable def zU (v:Option Value) (o:Obj):Prop:=o.data = .cell v
noncomputable def jJ (cm:Loc):List (Str × Addr)→Map→Map
 | [],σ=>σ
 | q :: r,σ=>(jJ cm r σ).set q.2 (.raw (zU (cm q.1)))
theorem setCells_or {cm:Loc}{σ τ:Map}:∀ {cs:List (Str × Addr)},jJ cm cs (σ.or τ)=(jJ cm cs σ).or τ
 | []=>rfl
 | q :: r=>by
  show (jJ cm r (σ.or τ)).set q.2 _=((jJ cm r σ).set q.2 _).or τ
  rw [setCells_or,Map.set_or]
theorem Disj.cells {cm:Loc}{σ τ:Map}(h:Disj σ τ):∀ {cs:List (Str × Addr)},(∀ q∈cs,τ q.2=none)→Disj (jJ cm cs σ) τ
 | [],_=>h
 | q :: r,hn=>Disj.set (Disj.cells h fun x hx=>hn x (.tail _ hx)) (hn q (.head _))
noncomputable abbrev cxOfC (qual:Str) (scope:Scope) (f:Addr) (cdv:Value) (hk:scope.kind = .function) (d:Dyn):Cx:=
 { dp:=d.dp,un:=d.un,gd:=d.gd,hd:=d.hd,qn:=qual ++ ".<locals>.",cs:=scope,fn:=some f,ccd:=cdv,cl:=cellsFrom (d.L+1) scope.names [],L:=d.L,fL:=d.L,fr:=envOfC qual scope d.L f cdv :: d.outer,hk }
section
variable {Y:Fly}{c:Cx}{X:Str→Map→Prop}{m:Loc}{σ τ ρ:Map}
theorem Led.addCells {cm:Loc}{h:Heap}{news:List (Addr × Obj)}{own:Addr→Option Addr}:∀ {cs:List (Str × Addr)},(∀ q∈cs,h.IsCell q.2 (cm q.1))→cs.Pairwise (fun x y=>x.2≠y.2) →
 (∀ q∈cs,q.2≠c.L∧G.g.get? q.2=none∧∀ x∈news,x.1≠q.2)→Led G c m ρ h news own→∃ news' own',Led G c m (jJ cm cs ρ) h news' own'∧∀ x∈news',x∈news∨∃ q∈cs,q.2=x.1
 | [],_,_,_,l=>⟨news,own,l,fun _ hq=>.inl hq⟩
 | q :: r,h1,h2,h3,l=>by
  refine zk fun zz=>?_
  obtain ⟨p1,p2⟩:=List.pairwise_cons.mp h2
  obtain ⟨news',own',l',k⟩:=Led.addCells (cs:=r) (fun x hx=>h1 x (.tail _ hx)) p2 (fun x hx=>h3 x (.tail _ hx)) l
  refine zz ?_;clear zz
  have hne:∀ x∈news',x.1≠q.2:=fun x hx=>by
   rcases k x hx with e | ⟨q',e1,e2⟩
   ·exact (h3 q (.head _)).2.2 x e
   ·rw [← e2];exact (p1 q' e1).symm
  refine zk fun zz=>?_
  obtain ⟨o,ho,hd⟩:=h1 q (.head _)
  obtain ⟨r1,r2⟩:=l'.R.new (x:=some q.2) (ao:=.raw (zU (cm q.1))) hne ⟨if_pos rfl,o,.head _,hd⟩
  refine zz ?_;clear zz
  refine ⟨_,_,⟨l'.F,fun x hx=>?_,jW l'.nd hne,r2,Led.outs_set l'.O fun m z=>by rw [r1] at z;cases z⟩,fun x hx=>?_⟩
  ·rcases List.mem_cons.mp hx with rfl | hx
   ·exact ⟨ho,(h3 q (.head _)).1,(h3 q (.head _)).2.1⟩
   ·exact l'.N x hx
  ·rcases List.mem_cons.mp hx with rfl | hx
   ·exact .inr ⟨q,.head _,rfl⟩
   ·rcases k x hx with e | ⟨q',e1,e2⟩
    ·exact .inl e
    ·exact .inr ⟨q',.tail _ e1,e2⟩
theorem C_fnC {A:Around}{name qual:Str}{params:Arguments}{body:List Stmt}{scope:Scope}{dV kV doc pm cdv ct oc:Value}{an od:Option Addr}{osl:Array (Option Value)}{f:Addr}{args:Args}{binds:List (Str × Value)}
 {Q:Value→Loc→Map→Prop} (hY:Fly.Leaves prog w G Y)
 (hA:A.frames=some c.fr) (ho:(tops.heap_1 w.params).lookup f=some ⟨oc,od,.func (fnOf name qual params body scope dV kV doc pm an cdv ct),osl⟩) (hcd:codeIn (tops.heap_1 w.params) cdv qual=true) (hroom:A.depth < recursionLimit)
 (hbind:∀ s:Shared,(tops.heap_1 w.params).In s.heap→BindsTo s (fnOf name qual params body scope dV kV doc pm an cdv ct) args binds)
 (hkind:∀ n,∀ x∈binds,scope.names.lookup x.1=some .local∨(scope.names.lookup x.1=some .cell∧((cellsFrom n scope.names []).lookup x.1).isSome=true))
 (hnd:((cellsFrom 0 scope.names []).map (·.1)).Nodup) (hk:scope.kind = .function)
 (h:∀ d:Dyn,d.dp=A.depth+1→d.un=A.units+3→d.hd=A.handled→(∀ q∈cellsFrom (d.L+1) scope.names [],σ q.2=none)→(cellsFrom (d.L+1) scope.names []).Pairwise (fun x y=>x.2≠y.2) →
  POK prog w G Y (cxOfC qual scope f cdv hk d) (execs body (cxOfC qual scope f cdv hk d).env) (bindL (envOfC qual scope d.L f cdv).kindOf binds fun _=>none)
  (jJ (bindC (envOfC qual scope d.L f cdv).kindOf binds fun _=>none) (cellsFrom (d.L+1) scope.names []) σ)
  (fun fl _ σ'=>Q (match fl with | .ret v=>v | _=>.none) m σ') X)
 (hco:scope.isCoroutine=false) (hgen:scope.isGenerator=false):COK prog w G Y c A (.ref f) args m σ Q X:=.mk fun τ s hd hs=>by
 refine St.on hs fun hp tk news own hs l=>?_
 refine zk fun zz=>?_
 have hX:(tops.heap_1 w.params).In hp:=(G.X l.O.1).keeps l.F.keep
 have h0:=l.frame_none
 obtain ⟨s0,t0⟩:=Map.or_none h0
 refine zz ?_;clear zz
 refine codeAny_call_function hroom (hX _ _ ho) rfl hco hgen rfl (codeRec_of hX hcd) (hbind ⟨hp,G.fix.gens,G.fix.drawn,tk,G.fix.os⟩ hX _ _ _ _ ?_)
 refine wpAny_newFunctionEnv_cells hk (hkind _) fun env' he s' x=>?_
 subst he
 refine ⟨((G.T l.O.1).nolimit.keeps l.F.keep).keeps x.toInCall.keep,codeAny_func ?_⟩
 refine zk fun zz=>?_
 obtain ⟨h₁,tk₁,rfl,_⟩:=x.done
 have hk₁:=x.toInCall.keep
 obtain ⟨oL,hoL,hfL⟩:=jQ l.F.ns
 refine zz ?_;clear zz
 have ndL:∀ env∈c.fr,env.frame≠some hp.objs.size:=fun env he z=>by
  refine zk fun zz=>?_
  obtain ⟨g0,L₂,g1,g2,g3⟩:=l.O.2 env he
  refine zz ?_;clear zz
  have e:L₂=hp.objs.size:=Option.some.inj (g1.symm.trans z)
  rcases g3 with g3 | ⟨m₂,g3⟩
  ·exact absurd (Heap.lt_size hoL) (by rw [← g3,e];exact Nat.lt_irrefl _)
  ·refine zk fun zz=>?_
   obtain ⟨r1,o',r2,r3⟩:=l.R _ _ g3
   refine zz ?_;clear zz
   exact absurd (l.news_lt r2) (e ▸ Nat.lt_irrefl _)
 let d:Dyn:=⟨A.depth+1,A.units+3,A.guards,A.handled,c.fr,hp.objs.size,ndL⟩
 have hcA:(cxOfC qual scope f cdv hk d).A=A.deeper (envOfC qual scope hp.objs.size f cdv):=by
  refine zk fun zz=>?_
  obtain ⟨ha,da,fa',ga,ua⟩:=A
  refine zz ?_;clear zz
  simp only at hA
  subst hA
  rfl
 have hne:∀ q∈news,q.1≠c.L:=fun q hq=>(l.N q hq).2.1
 have gn:∀ {a:Addr},hp.objs.size≤a→G.g.get? a=none:=fun {a} ha=>by
  cases q:G.g.get? a with
  | none=>rfl
  | some o=>exact absurd (Heap.lt_size (l.F.keep _ _ q)) (Nat.not_lt.mpr ha)
 have R':=(l.R.new (d:=c.L) (o:=oL) (x:=some c.L) (ao:=.frm m) hne ⟨by simp,oL,.head _,hfL⟩).2
 have l':Led G (cxOfC qual scope f cdv hk d) (bindL (envOfC qual scope hp.objs.size f cdv).kindOf binds fun _=>none) ((σ.or τ).set c.L (.frm m)) h₁ ((c.L,oL) :: news) (fun b=>if b=c.L then some c.L else own b):=by
  refine ⟨⟨x.toInCall.ns,fun b o e=>hk₁ _ _ (l.F.keep b o e),Nat.le_of_lt (Nat.lt_of_le_of_lt l.F.above (Heap.lt_size hoL))⟩,fun q hq=>?_,jW l.nd hne,R',l.O.1,fun env he=>?_⟩
  ·rcases List.mem_cons.mp hq with rfl | hq
   ·exact ⟨hk₁ _ _ hoL,Nat.ne_of_lt (Heap.lt_size hoL),g_none l.F⟩
   ·exact ⟨hk₁ _ _ (l.N q hq).1,Nat.ne_of_lt (l.news_lt hq),(l.N q hq).2.2⟩
  ·rcases List.mem_cons.mp he with rfl | he
   ·exact ⟨hk,hp.objs.size,rfl,Nat.le_of_lt (Nat.lt_of_le_of_lt l.F.above (Heap.lt_size hoL)),.inl rfl⟩
   ·refine zk fun zz=>?_
    obtain ⟨g0,L₂,g1,g2,g3⟩:=l.O.2 env he
    refine zz ?_;clear zz
    refine ⟨g0,L₂,g1,g2,.inr ?_⟩
    by_cases z:L₂=c.L
    ·exact ⟨m,by rw [z];exact Map.set_self⟩
    ·rcases g3 with g3 | ⟨m₂,g3⟩
     ·exact absurd g3 z
     ·exact ⟨m₂,(Map.set_ne z).trans g3⟩
 have hmem:∀ q∈cellsFrom (hp.objs.size+1) scope.names [],hp.objs.size < q.2:=fun q hq=>x.above q.1 q.2 hq
 have hnd':((cellsFrom (hp.objs.size+1) scope.names []).map (·.1)).Nodup:=cellsFrom_names scope.names 0 (hp.objs.size+1) [] [] rfl ▸ hnd
 have hcl:∀ q∈cellsFrom (hp.objs.size+1) scope.names [],h₁.IsCell q.2 (bindC (envOfC qual scope hp.objs.size f cdv).kindOf binds (fun _=>none) q.1):=fun q hq=>x.cell q.1 q.2 (lookup_of_mem_nodup hnd' hq)
 obtain ⟨news',own',l'',kk⟩:=Led.addCells hcl x.apart (fun q hq=>⟨Nat.ne_of_gt (hmem q hq),gn (Nat.le_of_lt (hmem q hq)),fun y hy=>by
  rcases List.mem_cons.mp hy with rfl | hy
  ·exact Nat.ne_of_lt (Nat.lt_trans (Heap.lt_size hoL) (hmem q hq))
  ·exact Nat.ne_of_lt (Nat.lt_trans (l.news_lt hy) (hmem q hq))⟩) l'
 have hcn:∀ q∈cellsFrom (hp.objs.size+1) scope.names [],((σ.or τ).set c.L (.frm m)) q.2=none:=fun q hq=>by
  rw [Map.set_ne (Nat.ne_of_gt (Nat.lt_trans (Heap.lt_size hoL) (hmem q hq)))]
  cases z:(σ.or τ) q.2 with
  | none=>rfl
  | some ao=>
   obtain ⟨o',ho'⟩:=(l.R _ _ z).at
   exact absurd (l.news_lt ho') (Nat.not_lt.mpr (Nat.le_of_lt (hmem q hq)))
 have e1:jJ (bindC (envOfC qual scope hp.objs.size f cdv).kindOf binds fun _=>none) (cellsFrom (hp.objs.size+1) scope.names []) ((σ.or τ).set c.L (.frm m)) =
  (jJ (bindC (envOfC qual scope hp.objs.size f cdv).kindOf binds fun _=>none) (cellsFrom (hp.objs.size+1) scope.names []) σ).or (τ.set c.L (.frm m)):=by
  rw [← zE s0,setCells_or]
 have hcn2:∀ q∈cellsFrom (hp.objs.size+1) scope.names [],σ q.2=none∧(τ.set c.L (.frm m)) q.2=none:=fun q hq=>by
  have:=hcn q hq
  rw [← zE s0] at this
  exact Map.or_none this
 have hd':Disj (jJ (bindC (envOfC qual scope hp.objs.size f cdv).kindOf binds fun _=>none) (cellsFrom (hp.objs.size+1) scope.names []) σ) (τ.set c.L (.frm m)):=
  Disj.cells (disj_frm (c:=c) hd s0 m) fun q hq=>(hcn2 q hq).2
 have hb:=(h d rfl rfl rfl (fun q hq=>(hcn2 q hq).1) x.apart).go _ ⟨h₁,G.fix.gens,G.fix.drawn,tk₁,G.fix.os⟩ hd' ⟨h₁,_,news',own',rfl,e1 ▸ l''⟩
 rw [hcA] at hb
 refine wpAny_mono hb (fun fl s' ⟨m',σ',a,b,q⟩=>?_) fun e s' ⟨dv,σ',a,b,q⟩=>?_
 ·obtain ⟨s1,dd⟩:=zV a
  exact ⟨m,σ',dd,St.back (m:=m) (fun _=>.tail _) ndL l.F.above (by unfold Map.or;rw [s1];exact t0) (by rw [← zE s1];exact b),q⟩
 ·obtain ⟨s1,dd⟩:=zV a
  rw [zE s1] at b
  have:=hY c (cxOfC qual scope f cdv hk d) m e dv (σ'.or τ) s' rfl ndL rfl (fun z=>by
   have z':hp.objs.size=c.L:=z
   exact absurd (Heap.lt_size hoL) (by rw [← z'];exact Nat.lt_irrefl _)) l.F.above (by unfold Map.or;rw [s1];exact t0) b
  rw [hcA] at this
  exact wpAny_mono this (fun _ s'' y=>⟨dv,σ',dd,y,q⟩) fun _ _ z=>z.elim
theorem jw {Y:Fly}{c:Cx}{X:Str→Map→Prop}{pos:Pos}{m:Loc}{σ:Map}{Q:Value→Loc→Map→Prop}{x:Str}{a:Addr}{v:Value}(hc:c.cl.lookup x=some a) (hv:σ a=some (.raw (zU (some v)))) (h:Q v m σ) (hl:c.env.kindOf x=some .cell:=by kernel_rfl) (hd:(x == ("__debug__" : Str))=false:=by decide) :
 POK prog w G Y c (eval (.Name x pos) c.env) m σ Q X:=.of fun τ s hd' hs=>by
 refine St.on hs fun hp tk news own hs l=>?_
 refine zk fun zz=>?_
 obtain ⟨h1,o,h2,h3⟩:=l.R a _ (Map.or_some hv)
 refine zz ?_;clear zz
 exact wpAny_Name (wpAny_loadName_cell (env:=c.env) c.hk hl hc ⟨o,(l.N _ h2).1,h3⟩ ⟨m,σ,hd',hs,h⟩) hd
theorem P_storeCell {Q:Unit→Loc→Map→Prop}{x:Str}{a:Addr}{v:Value}{v₀:Option Value}(hc:c.cl.lookup x=some a) (hv:σ a=some (.raw (zU v₀))) (h:Q () m (σ.set a (.raw (zU (some v))))) (hl:c.env.kindOf x=some .cell:=by kernel_rfl) :
 POK prog w G Y c (storeName c.env x v) m σ Q X:=.of fun τ s hd' hs=>by
 refine St.on hs fun hp tk news own hs l=>?_
 refine zk fun zz=>?_
 obtain ⟨h1,o,h2,h3⟩:=l.R a _ (Map.or_some hv)
 refine zz ?_;clear zz
 refine wpAny_storeName_cell (env:=c.env) c.hk hl hc ⟨o,(l.N _ h2).1,h3⟩ fun h' ⟨o',ho',hv'⟩ hs'=>⟨m,_,hd'.set (hd'.none_of hv),?_,h⟩
 rw [Map.set_or]
 exact St.ext l h2 h1 hs'.extBut ho' ⟨h1,o',z8 h2,hv'⟩ fun m z=>by rw [Map.or_some hv] at z;cases z
theorem C_fnCR {A:Around}{n:Nat}{name qual:Str}{params:Arguments}{body:List Stmt}{scope:Scope}{dV kV doc pm cdv ct oc:Value}{an od:Option Addr}{osl:Array (Option Value)}{f:Addr}{args:Args}{binds:List (Str × Value)}
 {Q:Value→Loc→Map→Prop} (hY:Fly.Leaves prog w G Y) (hA:A.frames=some c.fr) (hR:A.depth+2 * (n+1) < recursionLimit∧A.units+40 * (n+1) < cLine∧A.handled=none)
 (ho:(tops.heap_1 w.params).lookup f=some ⟨oc,od,.func (fnOf name qual params body scope dV kV doc pm an cdv ct),osl⟩) (hcd:codeIn (tops.heap_1 w.params) cdv qual=true)
 (hbind:∀ s:Shared,(tops.heap_1 w.params).In s.heap→BindsTo s (fnOf name qual params body scope dV kV doc pm an cdv ct) args binds)
 (hkind:∀ n,∀ x∈binds,scope.names.lookup x.1=some .local∨(scope.names.lookup x.1=some .cell∧((cellsFrom n scope.names []).lookup x.1).isSome=true))
 (hnd:((cellsFrom 0 scope.names []).map (·.1)).Nodup) (hk:scope.kind = .function) (hco:scope.isCoroutine=false) (hgen:scope.isGenerator=false)
 (h:∀ d:Dyn,((cxOfC qual scope f cdv hk d).A.depth+2 * n < recursionLimit∧(cxOfC qual scope f cdv hk d).A.units+40 * n < cLine∧(cxOfC qual scope f cdv hk d).A.handled=none)→(∀ q∈cellsFrom (d.L+1) scope.names [],σ q.2=none) →
  (cellsFrom (d.L+1) scope.names []).Pairwise (fun x y=>x.2≠y.2) →
  POK prog w G Y (cxOfC qual scope f cdv hk d) (execs body (cxOfC qual scope f cdv hk d).env) (bindL (envOfC qual scope d.L f cdv).kindOf binds fun _=>none)
  (jJ (bindC (envOfC qual scope d.L f cdv).kindOf binds fun _=>none) (cellsFrom (d.L+1) scope.names []) σ)
  (fun fl _ σ'=>Q (match fl with | .ret v=>v | _=>.none) m σ') X):COK prog w G Y c A (.ref f) args m σ Q X:=
 C_fnC hY hA ho hcd (by have:=hR.1;omega) hbind hkind hnd hk (fun d hd1 hd2 hd3 h1 h2=>h d ⟨by
  have:=hR.1
  show d.dp+2 * n < _
  omega,by
  have:=hR.2.1
  show d.un+40 * n < _
  omega,hd3.trans hR.2.2⟩ h1 h2) hco hgen
end
noncomputable def hdP {prog:Program}{w:World}{Kt:Type} [DecidableEq Kt] (knd:HeapKind prog w Kt) (d:Addr) (xs:List (Kt × Addr × Value)) (o:Obj):Prop:=
 (d == sysModules)=false∧o.ExactDict∧(∃ es ep,o.data = .dict es ep∧es.toList=xs.map (entryOfKey knd))∧(xs.map (·.1)).Nodup
structure KeyRep {prog:Program}{w:World}{Kt:Type} [DecidableEq Kt] (knd:HeapKind prog w Kt) where
 at_:Map→Kt→Addr→Prop
 keeps:∀ {σ σ':Map} {k:Kt} {a:Addr},(∀ b xs,σ b=some (.seq true xs)→σ' b=some (.seq true xs))→at_ σ k a→at_ σ' k a
 sound:∀ {c:Cx} {m:Loc} {ρ:Map} {h:Heap} {news:List (Addr × Obj)} {own:Addr→Option Addr} {k:Kt} {a:Addr},Led G c m ρ h news own→at_ ρ k a→knd.is h k a
 nodict:∀ {σ:Map} {k:Kt} {a:Addr} {P:Obj→Prop},at_ σ k a→σ a≠some (.raw P)
theorem KeyRep.up {prog:Program}{w:World}{Kt:Type} [DecidableEq Kt] {knd:HeapKind prog w Kt}(R:KeyRep knd) {σ τ:Map}{k:Kt}{a:Addr}(h:R.at_ σ k a):R.at_ (σ.or τ) k a:=R.keeps (fun _ _ h=>Map.or_some h) h
theorem strsItems {prog:Program}{w:World}{xs:List Value}{ks:List Str}(h:StrsAre xs ks):ItemsAre (strKind prog w) ks xs:=by
 induction h with
 | nil=>exact .nil
 | cons p t _ ih=>exact .cons (strKind_is _ _ _ _) ih
noncomputable def jZ (prog:Program) (w:World):KeyRep (tupleKind (strKind prog w)) where
 at_:=fun σ ks a=>∃ xs,σ a=some (.seq true xs)∧StrsAre xs ks
 keeps:=fun k ⟨xs,h1,h2⟩=>⟨xs,k _ _ h1,h2⟩
 sound:=fun l ⟨xs,h1,h2⟩=>by
  refine zk fun zz=>?_
  obtain ⟨n,q1,q2⟩:=l.seqAt h1
  refine zz ?_;clear zz
  exact ⟨_,xs.toArray,n,(l.N _ q1).1,rfl,rfl,by simpa using strsItems h2⟩
 nodict:=fun ⟨xs,h1,_⟩ z=>by rw [h1] at z;cases z
section
variable {Y:Fly}{c:Cx}{X:Str→Map→Prop}{m:Loc}{σ τ ρ:Map}{Kt:Type} [DecidableEq Kt] {knd:HeapKind prog w Kt}{R:KeyRep knd}{d a:Addr}{k:Kt}{xs:List (Kt × Addr × Value)}
noncomputable def TD (R:KeyRep knd) (σ:Map) (d:Addr) (xs:List (Kt × Addr × Value)):Prop:=σ d=some (.raw (hdP knd d xs))∧∀ x∈xs,R.at_ σ x.1 x.2.1
theorem TD.keeps {σ':Map}(h:TD R σ d xs) (h1:σ' d=some (.raw (hdP knd d xs))) (h2:∀ b ys,σ b=some (.seq true ys)→σ' b=some (.seq true ys)):TD R σ' d xs:=⟨h1,fun x hx=>R.keeps h2 (h.2 x hx)⟩
theorem TD.dictOf {h:Heap}{news:List (Addr × Obj)}{own:Addr→Option Addr}(T:TD R σ d xs) (l:Led G c m (σ.or τ) h news own):h.DictOfH knd d xs∧(d == sysModules)=false:=by
 refine zk fun zz=>?_
 obtain ⟨o,h1,h2,h3,h4,⟨es,ep,h5,h6⟩,h7⟩:=l.rawAt (Map.or_some T.1)
 refine zz ?_;clear zz
 exact ⟨⟨o,es,ep,(l.N _ h1).1,h4,h5,h6,fun x hx=>R.sound l (R.up (T.2 x hx)),h7⟩,h3⟩
theorem P_inT {Q:Value→Loc→Map→Prop}(T:TD R σ d xs) (hu:knd.room c.A.in1) (hk:R.at_ σ k a) (h:Q (.bool (atKey xs k).isSome) m σ):POK prog w G Y c (compareOp .In (.ref a) (.ref d)) m σ Q X:=.of fun τ s hd hs=>by
 refine St.on hs fun hp tk news own hs l=>?_
 refine zk fun zz=>?_
 obtain ⟨D,lo⟩:=T.dictOf l
 refine zz ?_;clear zz
 exact wpAny_in_heap hu (R.sound l (R.up hk)) lo D ⟨m,σ,hd,hs.toks _,h⟩
theorem P_itemT {value slice:PySem.Expr}{p:Addr × Value}{Q:Value→Loc→Map→Prop}(T:TD R σ d xs) (hu:knd.room c.A.in1) (hk:R.at_ σ k a) (hp:atKey xs k=some p) (h:Q p.2 m σ)
 (hs:subscripted slice false (.ref d) (.ref a)=operate [.ref d,.ref a] (getItem (.ref d) (.ref a)):=by kernel_rfl) :
 POK prog w G Y c (subscriptTail value slice (.ref d) (.ref a)) m σ Q X:=.of fun τ s hd hs'=>by
 refine St.on hs' fun hp' tk news own hs' l=>?_
 refine zk fun zz=>?_
 obtain ⟨D,lo⟩:=T.dictOf l
 refine zz ?_;clear zz
 exact tail_any D.typeIs slot_dict_getitem.lookup (wpAny_getItem_heap hu (R.sound l (R.up hk)) D hp ⟨m,σ,hd,hs'.toks _,h⟩) hs
theorem P_setT {v:Value}{Q:Unit→Loc→Map→Prop}(T:TD R σ d xs) (hu:knd.room c.A.in1) (hk:R.at_ σ k a) (hz:xs.length≤sizeLine) (h:TD R (σ.set d (.raw (hdP knd d (storedH xs k a v)))) d (storedH xs k a v)→Q () m (σ.set d (.raw (hdP knd d (storedH xs k a v))))) :
 POK prog w G Y c (setItem (.ref d) (.ref a) v) m σ Q X:=.of fun τ s hd hs=>by
 refine St.on hs fun hp tk news own hs l=>?_
 refine zk fun zz=>?_
 obtain ⟨D,lo⟩:=T.dictOf l
 obtain ⟨o,h1,h2,h3⟩:=l.rawAt (Map.or_some T.1)
 refine zz ?_;clear zz
 refine wpAny_setItem_heap (hsz:=hz) hu (R.sound l (R.up hk)) D fun h' hm' hs'=>?_
 refine zk fun zz=>?_
 obtain ⟨o',es',ep',ho',hc',hd',he',hk',hn'⟩:=hm'
 refine zz ?_;clear zz
 refine ⟨m,_,hd.set (hd.none_of T.1),?_,h ⟨Map.set_self,fun x hx=>?_⟩⟩
 ·rw [Map.set_or]
  exact St.ext l h1 h2 hs'.extBut ho' ⟨h2,o',z8 h1,lo,hc',⟨es',ep',hd',he'⟩,hn'⟩ fun m z=>by rw [Map.or_some T.1] at z;cases z
 ·have up:∀ {k:Kt} {a:Addr},R.at_ σ k a→R.at_ (σ.set d (.raw (hdP knd d (storedH xs k a v)))) k a:=fun {k a} ha=>R.keeps (fun b ys hb=>(Map.set_ne fun z=>by rw [z,T.1] at hb;cases hb).trans hb) ha
  have up':∀ {k':Kt} {a':Addr},R.at_ σ k' a'→R.at_ (σ.set d (.raw (hdP knd d (storedH xs k a v)))) k' a':=fun {k' a'} ha=>R.keeps (fun b ys hb=>(Map.set_ne fun z=>by rw [z,T.1] at hb;cases hb).trans hb) ha
  rcases mem_storedH hx with ⟨y,hy,e1,e2⟩ | ⟨e1,e2⟩
  ·rw [e1,e2];exact up' (T.2 y hy)
  ·rw [e1,e2];exact up' hk
theorem edP.heapKind {o:Obj}(h:edP d o):hdP knd d [] o:=by
 refine zk fun zz=>?_
 obtain ⟨h1,h2,ep,h3⟩:=h
 refine zz ?_;clear zz
 exact ⟨h1,h2,⟨#[],ep,h3,rfl⟩,List.nodup_nil⟩
theorem P_emptyDictT {R:KeyRep knd}{pos:Pos}{Q:Value→Loc→Map→Prop}(h:∀ d,σ d=none→TD R (σ.set d (.raw (hdP knd d []))) d []→Q (.ref d) m (σ.set d (.raw (hdP knd d [])))):POK prog w G Y c (eval (.Dict [] [] pos) c.env) m σ Q X:=.of fun τ s hd hs=>by
 refine wpAny_mono ((js (Y:=Y) (X:=X) (pos:=pos) (Q:=fun v m' σ'=>∃ d,σ d=none∧v = .ref d∧m'=m∧σ'=σ.set d (.raw (edP d))) fun d h0=>⟨d,h0,rfl,rfl,rfl⟩).go τ s hd hs) (fun v s' zq=>?_) fun _ _ x=>x
 refine zk fun zz=>?_
 obtain ⟨m',σ',a,b,d,h0,e1,e2,e3⟩:=zq
 refine zz ?_;clear zz
 subst e1 e2 e3
 refine zk fun zz=>?_
 obtain ⟨o,ho,k⟩:=b.reraw (a:=d) (P:=edP d) (Map.or_some Map.set_self)
 refine zz ?_;clear zz
 have hd':τ d=none:=a.none_of Map.set_self
 refine ⟨_,σ.set d (.raw (hdP knd d [])),hd.set hd',?_,h d h0 ⟨Map.set_self,fun x hx=>nomatch hx⟩⟩
 have:=k _ (edP.heapKind (knd:=knd) ho)
 rw [Map.set_or] at this ⊢
 have e:((σ.or τ).set d (.raw (edP d))).set d (.raw (hdP knd d []))=(σ.or τ).set d (.raw (hdP knd d [])):=by
  funext b;unfold Map.set;by_cases z:b=d <;> simp [z]
 rwa [e] at this
theorem edP.int {o:Obj}(h:edP d o):o.IsDictOf (PySem.intKind prog w) []:=by
 refine zk fun zz=>?_
 obtain ⟨h1,h2,ep,h3⟩:=h
 refine zz ?_;clear zz
 exact ⟨#[],ep,h2,h3,fun e he=>by simp at he,.nil,List.nodup_nil⟩
theorem P_popMeth {pl:Sem Bool}{Q:Value × List Value→Loc→Map→Prop}(hx:σ d=some (.raw (edP d))) (h:Q (.builtin "dict.pop",[.ref d]) m σ):POK prog w G Y c (getMethod (.ref d) "pop" pl) m σ Q X:=.of fun τ s hd hs=>by
 refine St.on hs fun hp tk news own hs l=>?_
 refine zk fun zz=>?_
 obtain ⟨o,h1,h2,h3⟩:=l.rawAt (Map.or_some hx)
 refine zz ?_;clear zz
 have hD:=kda_dict (s:=⟨hp,G.fix.gens,G.fix.drawn,tk,G.fix.os⟩) l.N h1 h3.int
 exact getMethod_builtin hD.typeIs PySem.F.plainAttrs_dict PySem.F.slot_dict_pop PySem.F.type_dict_pop hD.mapOf.noDict ⟨m,σ,hd,hs,h⟩
theorem P_popEmpty {k:Int}{t:Tok}{v:Value}{Q:Value→Loc→Map→Prop}(hx:σ d=some (.raw (edP d))) (h:Q v m σ):POK prog w G Y c (call (.builtin "dict.pop") [.ref d,.int k t,v]) m σ Q X:=.of fun τ s hd hs=>by
 refine St.on hs fun hp tk news own hs l=>?_
 refine zk fun zz=>?_
 obtain ⟨o,h1,h2,h3⟩:=l.rawAt (Map.or_some hx)
 refine zz ?_;clear zz
 have hD:=kda_dict (s:=⟨hp,G.fix.gens,G.fix.drawn,tk,G.fix.os⟩) l.N h1 h3.int
 exact call_meetsIn PySem.F.slot_dict_pop hD.typeIs PySem.F.entry_dict_pop (PySem.F.args_dict_pop_3 _ _ _) (meets_dict_pop_default (PySem.intKind prog w) d (k:=k) (intKind_is _ _ _ _) h3.1 (by rfl) v) ⟨[],hD,rfl,m,σ,hd,hs.toks _,h⟩
end
section
variable {prog:Program}{w:World}{A:Around}{E:Value→Shared→Prop}{s:Shared}
noncomputable def LineKey (prog:Program) (w:World) (h:Heap) (k:Str × List Str) (a:Addr):Prop:=
 ∃ o n b t,h.get? a=some o∧o.cls = .type "tuple"∧o.data = .seq #[.str k.1 t,.ref b] n∧IsTupleKey (strKind prog w) h k.2 b
theorem LineKey.typeIs {k:Str × List Str}{a:Addr}(x:LineKey prog w s.heap k a):s.TypeIs (.ref a) "tuple":=let ⟨o,_,_,_,ho,hc,_⟩:=x;⟨o,ho,hc⟩
noncomputable def lineHash (prog:Program) (w:World) (k:Str × List Str):Int:=reduceHash (Builtin.Tuple.tupleHashOf [(strKind prog w).hash k.1,tupleKeyHash (strKind prog w) k.2])
theorem line_hash {k:Str × List Str}{a:Addr}{Q:Int→Shared→Prop}(hu:A.units+2 < cLine) (hk:LineKey prog w s.heap k a) (h:Q (lineHash prog w k) { s with toks:=s.toks+(k.2.length+3) }) :
 wpAny (model prog w) A (pyHash (.ref a)) Q E s:=by
 have hT:=hk.typeIs
 refine zk fun zz=>?_
 obtain ⟨o,n,b,t,ho,_,hd,hb⟩:=hk
 refine zz ?_;clear zz
 unfold pyHash
 first | unfold pyHashByItsType | skip
 first | refine wpAny_bind (wpAny_cRoomFor_or (.inr (by omega)) ?_) | skip
 refine wpAny_bind (wpAny_specialOf hT F.slot_tuple_hash.lookup ?_)
 show wpAny _ _ (if (some (Value.builtin "tuple.__hash__") == some Value.none)=true then _ else _) Q E s
 rw [if_neg (by rw [beq_builtin_none];exact Bool.false_ne_true)]
 refine wpAny_bind (wpAny_specialOf hT F.slot_tuple_hash.lookup ?_)
 show wpAny _ _ (callSpecialIfBoundUnlessNone? (.ref a) "__hash__" _ >>= _) Q E s
 refine wpAny_bind (wpAny_callSpecialIfBoundUnlessNone?_slot hT F.slot_tuple_hash (wpAny_call_entry F.slot_tuple_hash hT F.entry_tuple_hash ?_ (F.args_tuple_hash_1 _)))
 show wpAny _ _ (Builtin.Tuple.tupleItemsOf (.ref a) >>= _) _ _ s
 refine wpAny_bind (wpAny_tupleItemsOf ho hd ?_)
 refine wpAny_bind ?_
 rw [← Array.forIn_toList]
 show wpAny _ _ (forIn [Value.str k.1 t,Value.ref b] _ _) _ _ s
 rw [List.forIn_cons]
 refine wpAny_bind (wpAny_bind ((strKind prog w).pyHash (k:=k.1) (strKind_is _ _ _ _) ?_))
 refine wpAny_pure ?_
 show wpAny _ _ (forIn [Value.ref b] _ _) _ _ _
 rw [List.forIn_cons]
 refine wpAny_bind (wpAny_bind (wpAny_pyHash_tuple (knd:=strKind prog w) (ks:=k.2) (by show A.units+1 < _;omega) hb ?_))
 refine wpAny_pure ?_
 show wpAny _ _ (forIn ([]:List Value) _ _) _ _ _
 rw [List.forIn_nil]
 refine wpAny_pure ?_
 show wpAny _ _ (retInt (Builtin.Tuple.tupleHashOf [(strKind prog w).hash k.1,tupleKeyHash (strKind prog w) k.2])) _ _ _
 refine wpAny_ret_mkInt ?_
 show wpAny _ _ (if (decide (-(2:Int) ^ 63≤Builtin.Tuple.tupleHashOf [(strKind prog w).hash k.1,tupleKeyHash (strKind prog w) k.2]) && decide (Builtin.Tuple.tupleHashOf [(strKind prog w).hash k.1,tupleKeyHash (strKind prog w) k.2] < 2 ^ 63))=true then _ else _) Q E _
 have e:s.toks+1+(k.2.length+1)+1=s.toks+(k.2.length+3):=by omega
 unfold lineHash reduceHash at h
 by_cases hr:(decide (-(2:Int) ^ 63≤Builtin.Tuple.tupleHashOf [(strKind prog w).hash k.1,tupleKeyHash (strKind prog w) k.2]) && decide (Builtin.Tuple.tupleHashOf [(strKind prog w).hash k.1,tupleKeyHash (strKind prog w) k.2] < 2 ^ 63))=true
 ·rw [if_pos hr]
  rw [if_pos hr] at h
  exact wpAny_pure (by simpa [e] using h)
 ·rw [if_neg hr]
  rw [if_neg hr] at h
  exact wpAny_bind (wpAny_rule (wpAny_pure (by simpa [e] using h)))
theorem line_eq_tree {x y:Str × List Str}{a b:Addr}{P:Fin→Shared→Prop}(hu:A.units+1 < cLine) (hx:LineKey prog w s.heap x a) (hy:LineKey prog w s.heap y b) (h:P (.done (.ret (.bool (decide (x=y))))) s) :
 wpAny (model prog w) A (Builtin.«tuple.__eq__» ⟨[.ref a,.ref b],[]⟩) P E s:=by
 have hTb:=hy.typeIs
 refine zk fun zz=>?_
 obtain ⟨oa,na,la,ta,hoa,_,hda,hia⟩:=hx
 obtain ⟨ob,nb,lb,tb,hob,_,hdb,hib⟩:=hy
 refine zz ?_;clear zz
 show wpAny _ _ (isInstance (.ref b) (.type "tuple") >>= _) _ _ s
 refine wpAny_bind (wpAny_isInstance hTb isSubtype_tuple_tuple ?_)
 rw [if_neg (by decide)]
 refine wpAny_bind (wpAny_tupleItemsOf hoa hda ?_)
 refine wpAny_bind (wpAny_tupleItemsOf hob hdb ?_)
 refine wpAny_bind ?_
 show wpAny _ _ (forIn [(Value.str x.1 ta,Value.str y.1 tb),(Value.ref la,Value.ref lb)] _ _) _ _ _
 rw [List.forIn_cons]
 refine wpAny_bind (wpAny_bind ((strKind prog w).eqBool (a:=x.1) (b:=y.1) (strKind_is _ _ _ _) (strKind_is _ _ _ _) ?_))
 by_cases h1:x.1=y.1
 ·rw [decide_eq_true h1]
  rw [if_neg (by decide)]
  refine wpAny_pure ?_
  show wpAny _ _ (forIn [(Value.ref la,Value.ref lb)] _ _) _ _ _
  rw [List.forIn_cons]
  refine wpAny_bind (wpAny_bind (wpAny_eqBool_tuple (knd:=strKind prog w) (by omega) hia hib ?_))
  by_cases h2:x.2=y.2
  ·rw [decide_eq_true h2]
   rw [if_neg (by decide)]
   refine wpAny_pure ?_
   show wpAny _ _ (forIn ([]:List (Value × Value)) _ _) _ _ _
   rw [List.forIn_nil]
   have e:x=y:=Prod.ext h1 h2
   rw [decide_eq_true e] at h
   exact wpAny_pure (wpAny_pure h)
  ·rw [decide_eq_false h2]
   rw [if_pos (by decide)]
   have e:x≠y:=fun z=>h2 (by rw [z])
   rw [decide_eq_false e] at h
   exact wpAny_bind (wpAny_pure (wpAny_pure (wpAny_pure (wpAny_pure h))))
 ·rw [decide_eq_false h1]
  rw [if_pos (by decide)]
  have e:x≠y:=fun z=>h1 (by rw [z])
  rw [decide_eq_false e] at h
  exact wpAny_bind (wpAny_pure (wpAny_pure (wpAny_pure (wpAny_pure h))))
theorem LineKey.inj {h:Heap}{a:Addr}{x y:Str × List Str}(hx:LineKey prog w h x a) (hy:LineKey prog w h y a):x=y:=by
 refine zk fun zz=>?_
 obtain ⟨o,n,b,t,ho,_,hd,hb⟩:=hx
 obtain ⟨o',n',b',t',ho',_,hd',hb'⟩:=hy
 refine zz ?_;clear zz
 obtain rfl:o=o':=Option.some.inj (ho.symm.trans ho')
 rw [hd] at hd'
 have e:=(Data.seq.inj hd').1
 have e1:Value.str x.1 t=Value.str y.1 t':=by have:=congrArg (·[0]?) e;simpa using this
 have e2:Value.ref b=Value.ref b':=by have:=congrArg (·[1]?) e;simpa using this
 have e3:b=b':=Value.ref.inj e2
 subst e3
 exact Prod.ext (Value.str.inj e1).1 (hb.inj hb')
theorem LineKey.keeps {h h':Heap}{k:Str × List Str}{a d:Addr}{o:Obj}{es ep}(x:LineKey prog w h k a) (ho:h.get? d=some o) (hd:o.data = .dict es ep) (hs:Heap.SameBut d h h'):LineKey prog w h' k a:=by
 refine zk fun zz=>?_
 obtain ⟨o',n,b,t,ho',hc,hd',hb⟩:=x
 refine zz ?_;clear zz
 have hne:a≠d:=by
  rintro rfl
  obtain rfl:o'=o:=Option.some.inj (ho'.symm.trans ho)
  rw [hd] at hd';exact nomatch hd'
 exact ⟨o',n,b,t,(hs.2 a hne).trans ho',hc,hd',hb.keeps ho hd hs⟩
theorem line_eqBool {x y:Str × List Str}{a b:Addr}{Q:Bool→Shared→Prop}(hu:A.units+2 < cLine) (hx:LineKey prog w s.heap x a) (hy:LineKey prog w s.heap y b) (h:Q (decide (x=y)) s) :
 wpAny (model prog w) A (eqBool (.ref a) (.ref b)) Q E s:=by
 unfold eqBool
 try with_reducible refine wpAny_holding ?_
 show wpAny _ _ (if (Value.ref a == Value.ref b)=true then _ else _) Q E s
 by_cases hab:(Value.ref a == Value.ref b)=true
 ·rw [if_pos hab]
  have e:a=b:=by have:=eq_of_beq hab;injection this
  subst e
  obtain rfl:=hx.inj hy
  exact wpAny_bind (wpAny_rule (wpAny_pure (by simpa using h)))
 ·rw [if_neg hab]
  exact wpAny_bind (wpAny_richCompare_same_room (op:=.Eq) hx.typeIs hy.typeIs F.slot_tuple_eq
   (wpAny_call_entry F.slot_tuple_eq hx.typeIs F.entry_tuple_eq (line_eq_tree (by show A.units+1+1 < _;omega) hx hy ⟨_,rfl,(fun e=>nomatch e),wpAny_truthy_bool h⟩) (F.args_tuple_eq_2 _ _)) (by omega))
theorem quiet_seq {n k:Nat}{a:Addr}{o:Obj}{items:Array Value}{Q:Bool→Shared→Prop}(ho:s.heap.get? a=some o) (hc:o.cls = .type "tuple") (hd:o.data = .seq items k)
 (hi:∀ v∈items.toList,∀ Q:Bool→Shared→Prop,Q true s→wpAny (model prog w) A (eqIsQuiet n v) Q E s) (h:Q true s):wpAny (model prog w) A (eqIsQuiet (n+1) (.ref a)) Q E s:=by
 have hT:s.TypeIs (.ref a) "tuple":=⟨o,ho,hc⟩
 unfold eqIsQuiet
 refine wpAny_bind (wpAny_specialOf hT F.slot_tuple_eq.lookup ?_)
 show wpAny _ _ (isInstance (.ref a) (.type "tuple") >>= _) _ _ s
 refine wpAny_bind (wpAny_isInstance hT isSubtype_tuple_tuple ?_)
 rw [if_neg (by decide)]
 refine wpAny_bind (wpAny_seqItems ho hd ?_)
 refine wpAny_bind ?_
 show wpAny _ _ (forIn items _ _) _ _ s
 rw [← Array.forIn_toList]
 refine wpAny_forIn_list _ (fun rest r s'=>r.1=none∧s'=s∧∀ v∈rest,v∈items.toList) _ ?_ ?_ _ _ ⟨rfl,rfl,fun _ h=>h⟩
 ·rintro v rest r s' ⟨hr,rfl,hall⟩
  refine wpAny_bind (hi v (hall v List.mem_cons_self) _ ?_)
  rw [if_neg (by decide)]
  exact wpAny_pure ⟨rfl,rfl,fun u hu'=>hall u (List.mem_cons_of_mem _ hu')⟩
 ·rintro ⟨r1,r2⟩ s' ⟨hr,rfl,_⟩
  simp only at hr
  subst hr
  exact wpAny_pure h
theorem line_quiet {k:Str × List Str}{a:Addr}{Q:Bool→Shared→Prop}(hk:LineKey prog w s.heap k a) (h:Q true s):wpAny (model prog w) A (eqIsQuiet 8 (.ref a)) Q E s:=by
 refine zk fun zz=>?_
 obtain ⟨o,n,b,t,ho,hc,hd,ob,items,n',hob,hcb,hdb,hib⟩:=hk
 refine zz ?_;clear zz
 refine quiet_seq ho hc hd (fun v hv Q hQ=>?_) h
 rcases List.mem_cons.mp hv with rfl | hv
 ·rw [eqIsQuiet_byValue _ rfl];exact wpAny_pure hQ
 ·rcases List.mem_cons.mp hv with rfl | hv
  ·refine quiet_seq hob hcb hdb (fun v hv Q hQ=>?_) hQ
   rw [eqIsQuiet_byValue _ (hib.byValue v hv)];exact wpAny_pure hQ
  ·first | exact nb hv | exact nt hv | cases hv
end
noncomputable def j9 (prog:Program) (w:World):HeapKind prog w (Str × List Str) where
 is:=LineKey prog w
 hash:=lineHash prog w
 draws:=fun k=>k.2.length+3
 room:=fun A=>A.units+2 < cLine
 inj:=fun hx hy=>hx.inj hy
 keeps:=fun x ho hd hs=>x.keeps ho hd hs
 pyHash:=fun hu hk h=>line_hash hu hk h
 eqBool:=fun hu hx hy h=>line_eqBool hu hx hy h
 quiet:=fun hk h=>line_quiet hk h
noncomputable def ke (prog:Program) (w:World):KeyRep (j9 prog w) where
 at_:=fun σ k a=>∃ b t ys,σ a=some (.seq true [.str k.1 t,.ref b])∧σ b=some (.seq true ys)∧StrsAre ys k.2
 keeps:=fun h ⟨b,t,ys,h1,h2,h3⟩=>⟨b,t,ys,h _ _ h1,h _ _ h2,h3⟩
 sound:=fun l ⟨b,t,ys,h1,h2,h3⟩=>by
  refine zk fun zz=>?_
  obtain ⟨n,q1,q2⟩:=l.seqAt h1
  obtain ⟨n',q3,q4⟩:=l.seqAt h2
  refine zz ?_;clear zz
  exact ⟨_,n,b,t,(l.N _ q1).1,rfl,rfl,_,ys.toArray,n',(l.N _ q3).1,rfl,rfl,by simpa using strsItems h3⟩
 nodict:=fun ⟨b,t,ys,h1,_⟩ z=>by rw [h1] at z;cases z
section
variable {Y:Fly}{c:Cx}{X:Str→Map→Prop}{m:Loc}{σ τ ρ:Map}{Kt:Type} [DecidableEq Kt] {knd:HeapKind prog w Kt}{R:KeyRep knd}{d a:Addr}{k:Kt}{xs:List (Kt × Addr × Value)}
theorem P_notInT {Q:Value→Loc→Map→Prop}(T:TD R σ d xs) (hu:knd.room c.A.in1) (hk:R.at_ σ k a) (h:Q (.bool (!(atKey xs k).isSome)) m σ):POK prog w G Y c (compareOp .NotIn (.ref a) (.ref d)) m σ Q X:=.of fun τ s hd hs=>by
 refine St.on hs fun hp tk news own hs l=>?_
 refine zk fun zz=>?_
 obtain ⟨D,lo⟩:=T.dictOf l
 refine zz ?_;clear zz
 exact wpAny_notIn_heap hu (R.sound l (R.up hk)) lo D ⟨m,σ,hd,hs.toks _,h⟩
theorem P_tupleOf {l:Addr}{ys:List Value}{Q:Value→Loc→Map→Prop}(hl:σ l=some (.seq false ys)) (hz:ys.length≤16384) (h:∀ t,σ t=none→Q (.ref t) m (σ.set t (.seq true ys))):POK prog w G Y c (call (.type "tuple") [.ref l] []) m σ Q X:=.of fun τ s hd hs=>by
 refine St.on hs fun hp tk news own hs L=>?_
 refine kde_tupleOf L.F L.N (L.isList (Map.or_some hl)) (by simpa using hz) (zs:=ys) (by simp) fun D h' F' N' hlt=>?_
 refine zk fun zz=>?_
 obtain ⟨r1,r2⟩:=St.new (tk:=tk) (x:=none) (ao:=.seq true ys) L F' N' hlt ⟨by simp,0,.head _⟩
 obtain ⟨s1,s2⟩:=Map.or_none r1
 refine zz ?_;clear zz
 exact ⟨m,_,hd.set s2,by rw [Map.set_or];exact r2,h _ s1⟩
theorem P_callWithTy {Y:Fly}{c:Cx}{X:Str→Map→Prop}{e:PySem.Expr}{rest:List PySem.Expr}{pos:Pos}{m:Loc}{σ:Map}{T:String}{Q:Value→Loc→Map→Prop}(h:POK prog w G Y c (spliced (backTo pos (starEach (e :: rest) c.env))) m σ (Thn prog w G Y (fun _ vs=>call (.type T) vs []) c X Q) X) (he:SArg e:=by kernel_rfl) (hplain:SArgs rest:=by kernel_rfl) :
 POK prog w G Y c (callWith pos (.type T) [] (backTo pos (starEach (e :: rest) c.env)) []) m σ Q X:=.of fun τ s hd hs=>
 PyProof.Rows.callWith_type1 (h.wp hd hs fun v s' m' σ' a b q=>q.go τ _ a b) (sArg_eq he) (sArgs_eq hplain)
end
section
variable {Y:Fly}{c:Cx}{X:Str→Map→Prop}{m:Loc}{σ τ ρ:Map}
theorem wp_setLast {A:Around}{E:Value→Shared→Prop}{s:Shared}{l:Addr}{p:List Value}{y v:Value}{t:Tok}{n:Nat}{Q:Unit→Shared→Prop}(ho:s.heap.get? l=some (listOf (p ++ [y]).toArray n))
 (hQ:Q () { s with heap:=s.heap.update l (Obj.mapSeq (·.setIfInBounds p.length v)) }):wpAny (model prog w) A (setItem (.ref l) (.int (-1) t) v) Q E s:=by
 have hl:s.heap.IsList l (p ++ [y]).toArray:=⟨_,ho,rfl,n,rfl⟩
 have hd:(listOf (p ++ [y]).toArray n).data = .seq (p ++ [y]).toArray n:=rfl
 unfold setItem
 try with_reducible refine wpAny_holding ?_
 first | refine wpAny_bind (wpAny_pure ?_) | skip
 refine wpAny_bind (wpAny_sequenceKey hl.typeIs (by decide) ?_)
 refine wpAny_bind (wpAny_callSpecial?_slot (name:=Str.ofString "__setitem__") hl.typeIs slot_list_setitem
  (wpAny_call_entry slot_list_setitem hl.typeIs entry_list_setitem ?_ (args_list_setitem _ _ _)))
 show wpAny _ _ (Builtin.List.listSubscript? (.int (-1) t) >>= _) _ _ s
 refine wpAny_bind (wpAny_listSubscript_int (fitsIndex_neg (by decide) (by decide)) ?_)
 have hidx:seqIndex? (-1) (p ++ [y]).toArray.size=some p.length:=by
  rw [seqIndex_neg (by decide) (by simp;omega)]
  simp
  omega
 show wpAny _ _ ((Builtin.List.listItems (.ref l) >>= fun xs=>Pure.pure ((seqIndex? (-1) xs.size).bind fun i=>xs[i]?.map (i,·))) >>= _) _ _ s
 refine wpAny_bind (wpAny_bind ?_)
 show wpAny _ _ (seqItems? (.ref l) >>= _) _ _ s
 refine wpAny_bind (wpAny_seqItems ho hd (wpAny_pure (wpAny_pure ?_)))
 rw [hidx]
 have hx:(p ++ [y]).toArray[p.length]? = some y:=by simp
 simp only [Option.bind_some,hx,Option.map_some]
 show wpAny _ _ (setSeqItemAt l p.length v >>= _) _ _ s
 refine wpAny_bind (wpAny_setSeqItemAt ho hd ?_)
 first
  | exact wpAny_bind (wpAny_pure (wpAny_pure ⟨.none,rfl,wpAny_pure hQ⟩))
  | exact wpAny_pure ⟨.none,rfl,wpAny_pure hQ⟩
theorem P_setItemBack {a:Addr}{p:List Value}{y v:Value}{t:Tok}{Q:Unit→Loc→Map→Prop}(hx:σ a=some (.seq false (p ++ [y]))) (h:Q () m (σ.set a (.seq false (p ++ [v])))) :
 POK prog w G Y c (setItem (.ref a) (.int (-1) t) v) m σ Q X:=.of fun τ s hd hs=>by
 refine St.on hs fun hp tk news own hs l=>?_
 refine zk fun zz=>?_
 obtain ⟨n,g1,g2⟩:=l.seqAt (Map.or_some hx)
 refine zz ?_;clear zz
 have ho:=(l.N _ g1).1
 refine wp_setLast (n:=n) ho ⟨m,_,hd.set (hd.none_of hx),?_,h⟩
 rw [Map.set_or]
 have e:(p ++ [y]).toArray.setIfInBounds p.length v=(p ++ [v]).toArray:=by
  apply Array.toList_inj.mp
  simp
 have q:=PySem.IsL.update ho (·.setIfInBounds p.length v)
 rw [e] at q
 exact St.ext l g1 g2 (Heap.SameBut.update ..).extBut q ⟨g2,_,z8 g1⟩ fun m z=>by rw [Map.or_some hx] at z;cases z
theorem P_getItemBack {a:Addr}{p:List Value}{y:Value}{t:Tok}{Q:Value→Loc→Map→Prop}(hx:σ a=some (.seq false (p ++ [y]))) (h:Q y m σ) :
 POK prog w G Y c (getItem (.ref a) (.int (-1) t)) m σ Q X:=.of fun τ s hd hs=>by
 refine St.on hs fun hp tk news own hs l=>?_
 exact kde_getNeg (l.isList (Map.or_some hx)) (by decide) (by decide) (j:=p.length) (by unfold seqIndex?;simp <;> omega) (by simp) ⟨m,σ,hd,hs,h⟩
end
section
variable {prog:Program}{w:World}{A:Around}{E:Value→Shared→Prop}{s:Shared}
theorem collect_dict {d:Addr}{kvs:List (Str × Value)}{ep:Nat}{Q:List Value→Shared→Prop}(lo:(d == sysModules)=false) (hh:A.handled=none) (hm:s.heap.DictAt (strKind prog w) d kvs ep)
 (hQ:∀ h' tk (vs:List Value),(∀ b o,s.heap.get? b=some o→h'.get? b=some o)→s.heap.objs.size < h'.objs.size→vs.length=kvs.length→(∀ (j:Nat) (v:Value),vs[j]? = some v→∃ k x,kvs[j]? = some (k,x)∧(strKind prog w).is k v=true)→Q vs { s with heap:=h',toks:=tk })
 (hn:kvs.length≤sizeLine):wpAny (model prog w) A (collect (.ref d)) Q E s:=by
 unfold collect
 refine wpAny_bind (wpAny_runValue (codeAny_builtin F.entry_proto_collect ?_))
 rw [Around.under_plainId F.plain_proto_collect _]
 show wpAny _ A.in1 (newList [] >>= fun l=>again (.builtin "list.__iadd__" ⟨[l,.ref d],[]⟩)) _ _ s
 refine wpAny_bind (wpAny_newObj_type ?_)
 refine wpAny_pure ⟨plainId_quiet F.plain_list_iadd _,codeAny_builtin F.entry_list_iadd ?_⟩
 rw [Around.under_plainId F.plain_list_iadd _]
 show wpAny _ A.in1 (Builtin.List.listExtendWith (.ref s.heap.objs.size) (.ref d) (.ref s.heap.objs.size)) _ _ _
 have hlt:d < s.heap.objs.size:=hm.lt_size
 let R0:Result→Shared→Prop:=fun r s'=>match r with
  | .ok (.ret v)=>v = .ref s.heap.objs.size∧∃ h' tk acc' c',s'={ s with heap:=h',toks:=tk }∧(∀ b o,s.heap.get? b=some o→h'.get? b=some o)∧h'.get? s.heap.objs.size=some { cls:=.type "list",dict:=none,data:=.seq acc' c',slots:=#[] } ∧
   ItemsOf (fun i v=>∃ k x,kvs[i]? = some (k,x)∧(strKind prog w).is k v=true) acc' kvs.length
  | _=>False
 have hfin:∀ v s',R0 (.ok (.ret v)) s'→wpAny (model prog w) A (match v with
  | .ref a=>do
   match (← load a).data with
   | .seq xs _=>Pure.pure xs.toList
   | _=>unsupported "internal:collect"
  | _=>unsupported "internal:collect") Q E s':=by
  rintro v s' ⟨rfl,h',tk,acc',c',rfl,hk,hS',hacc⟩
  show wpAny _ A (load s.heap.objs.size >>= _) _ _ _
  refine wpAny_bind (wpAny_load (s:={ s with heap:=h',toks:=tk }) hS' ?_)
  exact wpAny_pure (hQ h' tk acc'.toList hk (Heap.lt_size hS') (by rw [Array.length_toList];exact hacc.1) fun j v e=>hacc.2 j v (by rw [← Array.getElem?_toList];exact e))
 refine wpAny_mono (kdl_extend (R:=R0) (A:=A) (s:={ s with heap:=s.heap.push { cls:=.type "list",data:=.seq ([]:List Value).toArray } }) (kdl_dict (kvs:=kvs) (ep:=ep) lo) hh (hm.push _) s.heap.objs.size (Nat.ne_of_gt hlt) (Nat.ne_of_gt hlt) (.ref s.heap.objs.size) 0 (Heap.get?_push_size _ rfl)
  (fun h' tk acc' c' hk hS' hacc=>⟨rfl,h',tk,acc',c',rfl,fun b o e=>hk b o (Nat.ne_of_lt (Heap.lt_size e)) (Heap.get?_push_of_some _ e),hS',hacc⟩) hn) (fun fin s' hf=>?_) fun e s' he=>he.elim
 cases fin with
 | done f=>
  cases f with
  | ret v=>exact hfin v s' hf
  | _=>exact hf.elim
 | again c'=>
  refine ⟨hf.1,codeAny_mono hf.2 fun r s'' hr=>?_⟩
  cases r with
  | error e=>exact hr.elim
  | ok f=>
   cases f with
   | ret v=>exact hfin v s'' hr
   | _=>exact hr.elim
end
section
variable {Y:Fly}{c:Cx}{X:Str→Map→Prop}{m:Loc}{σ τ ρ:Map}
theorem strs_of {kvs:List (Str × Value)}:∀ {vs:List Value},vs.length=kvs.length→(∀ (j:Nat) (v:Value),vs[j]? = some v→∃ k x,kvs[j]? = some (k,x)∧(strKind prog w).is k v=true)→StrsAre vs (kvs.map (·.1)):=by
 induction kvs with
 | nil=>
  intro vs hl _
  cases vs with
  | nil=>exact .nil
  | cons v vs=>cases hl
 | cons kv kvs ih=>
  intro vs hl h
  cases vs with
  | nil=>cases hl
  | cons v vs=>
   refine zk fun zz=>?_
   obtain ⟨k,x,e1,e2⟩:=h 0 v rfl
   simp only [List.getElem?_cons_zero,Option.some.injEq] at e1
   obtain ⟨t,rfl⟩:=Value.isStrOf_shape e2
   refine zz ?_;clear zz
   subst e1
   exact .cons _ _ (ih (by simpa using hl) fun j u hu=>by simpa using h (j+1) u (by simpa using hu))
theorem P_sortedD {d:Addr}{kvs:List (Str × Value)}{Q:Value→Loc→Map→Prop}(hh:c.hd=none) (hx:σ d=some (.raw (sdP prog w d kvs))) (h64:kvs.length < 64)
 (h:∀ D ys ks,σ D=none→StrsAre ys ks→ks.Perm (kvs.map (·.1))→Q (.ref D) m (σ.set D (.seq false ys))):POK prog w G Y c (call (.builtin "sorted") [.ref d] []) m σ Q X:=.of fun τ s hd hs=>by
 refine St.on hs fun hp tk news own hs l=>?_
 refine zk fun zz=>?_
 obtain ⟨o,h1,h2,h3⟩:=l.rawAt (Map.or_some hx)
 obtain ⟨ep,he⟩:=KdkAt.of h3.2
 refine zz ?_;clear zz
 refine Calls.call_function_entry kind_sorted plain_sorted entry_sorted (args_sorted1 _) ?_
 unfold Builtin.«sorted»
 refine wpAny_bind (m:=checkCount "sorted" 1 1 _) (wpAny_pure ?_)
 refine wpAny_bind (collect_dict (s:=⟨hp,G.fix.gens,G.fix.drawn,tk,G.fix.os⟩) h3.1 hh (he.dictAt (l.N _ h1).1) (fun h' tk' vs hk hgt hl hv=>?_) (by rw [sizeLine_eq];omega))
 have hS:StrsAre vs (kvs.map (·.1)):=strs_of hl hv
 refine wpAny_bind (wpAny_newList ?_ (by rw [hl,sizeLine_eq];omega))
 have hoL:(h'.push (seqObj "list" vs.toArray 0)).get? h'.objs.size=some (seqObj "list" vs.toArray 0):=Heap.get?_push_size _ rfl
 refine wpAny_bind (wpAny_holding (wpAny_call_entry slot_list_sort ⟨_,hoL,rfl⟩ entry_list_sort (list_sort_treeK (s:=⟨h'.push (seqObj "list" vs.toArray 0),G.fix.gens,G.fix.drawn,tk',G.fix.os⟩) strKind_oneLt hoL hS.keysOf (fun v₁ v₂ rest e=>keyKind_strs (by rw [← e];exact hS)) (by omega) fun st' a1 a2=>⟨_,rfl,?_⟩) (args_list_sort _)))
 refine zk fun zz=>?_
 obtain ⟨ss',b1,b2,b3⟩:=sorted_out_str hS a1 a2
 obtain ⟨e,he'⟩:=sortedHeap_at (vs:=vs) (out:=(arrOf st').map (·.2)) hoL
 refine zz ?_;clear zz
 have hkk:∀ b o,hp.get? b=some o→(sortedHeap (h'.push (seqObj "list" vs.toArray 0)) h'.objs.size vs ((arrOf st').map (·.2))).get? b=some o:=fun b o hb=>by
  have hb':=hk b o hb
  have hlt:=Heap.lt_size hb'
  rw [sortedHeap_old (Nat.ne_of_lt hlt) (by rw [size_push'];exact Nat.lt_succ_of_lt hlt)]
  exact Heap.get?_push_of_some _ hb'
 have hle:hp.objs.size≤h'.objs.size:=Nat.le_of_lt hgt
 have F':Fr G.g c.L (sortedHeap (h'.push (seqObj "list" vs.toArray 0)) h'.objs.size vs ((arrOf st').map (·.2))) m:=l.F.kept hkk
 have N':=l.N.kept_cons l.F hkk hle he'
 obtain ⟨r1,r2⟩:=St.new (tk:=tk') (x:=some h'.objs.size) (ao:=.seq false ((arrOf st').map (·.2)).toList) l F' N' (fun q hq=>Nat.lt_of_lt_of_le (l.news_lt hq) hle) ⟨by simp,e,by rw [Array.toArray_toList];exact .head _⟩
 obtain ⟨s1,s2⟩:=Map.or_none r1
 exact wpAny_pure ⟨_,rfl,m,_,hd.set s2,by rw [Map.set_or];exact r2,h _ _ _ s1 b1 b2⟩
end
noncomputable def jO (vl vu:Value) (o:Obj):Prop:=o.cls = .type "slice"∧o.data = .fields #[vl,vu,.none]
noncomputable def tupO (xs:List Value):Obj:={ cls:=.type "tuple",data:=.seq xs.toArray 0 }
noncomputable def lstO (xs:List Value):Obj:={ cls:=.type "list",data:=.seq xs.toArray 0 }
noncomputable def HasT (K:Frag) (σ:Map) (a:Addr) (xs:List Value):Prop:=σ a=some (.seq true xs)∨K.lookup a=some (tupO xs)
noncomputable def HasL (K:Frag) (σ:Map) (a:Addr) (xs:List Value):Prop:=σ a=some (.seq false xs)∨K.lookup a=some (lstO xs)
section
variable {Y:Fly}{c:Cx}{X:Str→Map→Prop}{m:Loc}{σ τ ρ:Map}
theorem Led.hasT {h:Heap}{news:List (Addr × Obj)}{own:Addr→Option Addr}{a:Addr}{xs:List Value}(l:Led G c m (σ.or τ) h news own) (x:HasT (tops.heap_1 w.params) σ a xs):h.IsTuple a xs.toArray:=by
 rcases x with x | x
 ·exact l.isTuple (Map.or_some x)
 ·exact ⟨_,(G.X l.O.1).keeps l.F.keep _ _ x,rfl,0,rfl⟩
theorem Led.hasL {h:Heap}{news:List (Addr × Obj)}{own:Addr→Option Addr}{a:Addr}{xs:List Value}(l:Led G c m (σ.or τ) h news own) (x:HasL (tops.heap_1 w.params) σ a xs):h.IsList a xs.toArray:=by
 rcases x with x | x
 ·exact l.isList (Map.or_some x)
 ·exact ⟨_,(G.X l.O.1).keeps l.F.keep _ _ x,rfl,0,rfl⟩
theorem P_inTup {t:Addr}{xs:List Value}{ys:List Str}{k:Str}{u:Tok}{Q:Value→Loc→Map→Prop}(hx:HasT (tops.heap_1 w.params) σ t xs) (hi:StrsAre xs ys) (h:Q (.bool (ys.any fun x=>x == k)) m σ) :
 POK prog w G Y c (compareOp .In (.str k u) (.ref t)) m σ Q X:=.of fun τ s hd hs=>by
 refine St.on hs fun hp tk news own hs l=>?_
 exact in_tuple_strs (l.hasT hx) (by simpa using hi) ⟨m,σ,hd,hs,h⟩
theorem P_notInTup {t:Addr}{xs:List Value}{ys:List Str}{k:Str}{u:Tok}{Q:Value→Loc→Map→Prop}(hx:HasT (tops.heap_1 w.params) σ t xs) (hi:StrsAre xs ys) (h:Q (.bool (!ys.any fun x=>x == k)) m σ) :
 POK prog w G Y c (compareOp .NotIn (.str k u) (.ref t)) m σ Q X:=.of fun τ s hd hs=>by
 refine St.on hs fun hp tk news own hs l=>?_
 exact notin_tuple_strs (l.hasT hx) (by simpa using hi) ⟨m,σ,hd,hs,h⟩
theorem jM {Q:Value→Loc→Map→Prop}(h:Q .none m σ):POK prog w G Y c (evalPart none c.env) m σ Q X:=POK.pure h
theorem jN {Y:Fly}{c:Cx}{X:Str→Map→Prop}{e:PySem.Expr}{m:Loc}{σ:Map}{Q:Value→Loc→Map→Prop}(h:POK prog w G Y c (eval e c.env) m σ Q X):POK prog w G Y c (evalPart (some e) c.env) m σ Q X:=h
theorem P_slice {Y:Fly}{c:Cx}{X:Str→Map→Prop}{lower upper:Option PySem.Expr}{p:Pos}{m:Loc}{σ:Map}{Q:Value→Loc→Map→Prop}(h:POK prog w G Y c (evalPart lower c.env) m σ (fun l m' σ'=>POK prog w G Y c (evalPart upper c.env) m' σ' (fun u m₂ σ₂=>∀ sl,σ₂ sl=none→Q (.ref sl) m₂ (σ₂.set sl (.raw (jO l u)))) X) X) :
 POK prog w G Y c (eval (.Slice lower upper none p) c.env) m σ Q X:=.of fun τ s hd hs=>by
 refine wpAny_Slice (h.wp hd hs fun vl s₁ m₁ σ₁ a b q=>q.wp a b fun vu s₂ m₂ σ₂ a₂ b₂ q₂=>evalPart_none_step ?_)
 refine St.on b₂ fun hp tk news own b₂ l=>?_
 refine zk fun zz=>?_
 obtain ⟨r1,r2⟩:=St.push (tk:=tk) (tk':=tk) (P:=jO vl vu) (o:={ cls:=.type "slice",data:=.fields #[vl,vu,.none] }) l ⟨rfl,rfl⟩
 obtain ⟨s1,s2⟩:=Map.or_none r1
 refine zz ?_;clear zz
 exact ⟨m₂,_,a₂.set s2,by rw [Map.set_or];exact r2,q₂ _ s1⟩
theorem P_tailSliceL {Y:Fly}{c:Cx}{X:Str→Map→Prop}{value:PySem.Expr}{lw up:Option PySem.Expr}{sp:Pos}{m:Loc}{σ:Map}{a sl:Addr}{xs:List Value}{vl vu:Value}{lo hi:Option Int}{Q:Value→Loc→Map→Prop}(hx:HasL (tops.heap_1 w.params) σ a xs) (hsl:σ sl=some (.raw (jO vl vu))) (pl:IsPart vl lo) (pu:IsPart vu hi) (hz:xs.length≤sizeLine) (h:∀ D,σ D=none→Q (.ref D) m (σ.set D (.seq false (kms_pick xs lo hi)))) :
 POK prog w G Y c (subscriptTail value (.Slice lw up none sp) (.ref a) (.ref sl)) m σ Q X:=.of fun τ s hd hs'=>by
 refine St.on hs' fun hp tk news own hs' l=>?_
 refine zk fun zz=>?_
 have I:=l.hasL hx
 obtain ⟨o,g1,g2,g3⟩:=l.rawAt (Map.or_some hsl)
 refine zz ?_;clear zz
 refine tail_any (s:=⟨hp,G.fix.gens,G.fix.drawn,tk,G.fix.os⟩) I.typeIs slot_list_getitem.lookup (wpAny_getItem_list_slice (s:=⟨hp,G.fix.gens,G.fix.drawn,tk,G.fix.os⟩) I ⟨o,(l.N _ g1).1,g3.1,g3.2⟩ pl pu .none (by simp) ?_ (by simpa using hz)) rfl
 have N1:=News.push l.F l.N { cls:=.type "list",data:=.seq (slicePick xs.toArray lo hi none) }
 rw [kms_pick_eq] at N1 ⊢
 refine zk fun zz=>?_
 obtain ⟨r1,r2⟩:=St.new (tk:=tk) (x:=some hp.objs.size) (ao:=.seq false (kms_pick xs lo hi)) l (l.F.push _) N1 (fun q hq=>l.news_lt hq) ⟨by simp,0,.head _⟩
 obtain ⟨s1,s2⟩:=Map.or_none r1
 refine zz ?_;clear zz
 exact ⟨m,_,hd.set s2,by rw [Map.set_or];exact r2,h _ s1⟩
theorem P_tailSliceT {Y:Fly}{c:Cx}{X:Str→Map→Prop}{value:PySem.Expr}{lw up:Option PySem.Expr}{sp:Pos}{m:Loc}{σ:Map}{a sl:Addr}{xs:List Value}{k:Nat}{u:Tok}{Q:Value→Loc→Map→Prop}(hx:HasT (tops.heap_1 w.params) σ a xs) (hsl:σ sl=some (.raw (jO (.int k u) .none))) (h1:1≤k) (h2:k≤xs.length) (hz:xs.length≤sizeLine) (h:∀ D,σ D=none→Q (.ref D) m (σ.set D (.seq true (xs.drop k)))) :
 POK prog w G Y c (subscriptTail value (.Slice lw up none sp) (.ref a) (.ref sl)) m σ Q X:=.of fun τ s hd hs'=>by
 refine St.on hs' fun hp tk news own hs' l=>?_
 refine zk fun zz=>?_
 have I:=l.hasT hx
 obtain ⟨o,g1,g2,g3⟩:=l.rawAt (Map.or_some hsl)
 refine zz ?_;clear zz
 refine tail_any (s:=⟨hp,G.fix.gens,G.fix.drawn,tk,G.fix.os⟩) (IsTup.typeIs (s:=⟨hp,G.fix.gens,G.fix.drawn,tk,G.fix.os⟩) I) slot_tuple_getitem.lookup (getItem_tuple_from (s:=⟨hp,G.fix.gens,G.fix.drawn,tk,G.fix.os⟩) I ⟨o,(l.N _ g1).1,g3.1,g3.2⟩ h1 (by simpa using h2) ?_ (by simpa using hz)) rfl
 have N1:=News.push l.F l.N { cls:=.type "tuple",data:=.seq (xs.toArray.toList.drop k).toArray }
 refine zk fun zz=>?_
 obtain ⟨r1,r2⟩:=St.new (tk:=tk) (x:=none) (ao:=.seq true (xs.drop k)) l (l.F.push _) N1 (fun q hq=>l.news_lt hq) ⟨by simp,0,.head _⟩
 obtain ⟨s1,s2⟩:=Map.or_none r1
 refine zz ?_;clear zz
 exact ⟨m,_,hd.set s2,by rw [Map.set_or];exact r2,h _ s1⟩
theorem P_itemL {Y:Fly}{c:Cx}{X:Str→Map→Prop}{value slice:PySem.Expr}{m:Loc}{σ:Map}{a:Addr}{xs:List Value}{k:Int}{u:Tok}{x:Value}{Q:Value→Loc→Map→Prop}(hx:HasL (tops.heap_1 w.params) σ a xs) (h0:0≤k) (h1:k < 2 ^ 63) (hi:xs[k.toNat]? = some x) (h:Q x m σ) (hs:subscripted slice false (.ref a) (.int k u)=operate [.ref a,.int k u] (getItem (.ref a) (.int k u)):=by kernel_rfl) :
 POK prog w G Y c (subscriptTail value slice (.ref a) (.int k u)) m σ Q X:=.of fun τ s hd hs'=>by
 refine St.on hs' fun hp tk news own hs' l=>?_
 have I:=l.hasL hx
 exact tail_any I.typeIs slot_list_getitem.lookup (wpAny_getItem_list I h0 h1 (by simpa using hi) ⟨m,σ,hd,hs',h⟩) hs
theorem P_addL {a b:Addr}{xs ys:List Value}{Q:Value→Loc→Map→Prop}(hx:HasL (tops.heap_1 w.params) σ a xs) (hy:HasL (tops.heap_1 w.params) σ b ys) (hz:xs.length+ys.length≤sizeLine)
 (h:∀ d,σ d=none→Q (.ref d) m (σ.set d (.seq false (xs ++ ys)))):POK prog w G Y c (binaryOp .Add (.ref a) (.ref b)) m σ Q X:=.of fun τ s hd hs=>by
 refine St.on hs fun hp tk news own hs l=>?_
 refine kmk_add_lit l.F l.N (l.hasL hx) (l.hasL hy) rfl (fun D h' F' N' hD=>?_) (by simpa using hz)
 refine zk fun zz=>?_
 obtain ⟨r1,r2⟩:=St.new (tk:=tk) (x:=some D) (ao:=.seq false (xs ++ ys)) l F' N' hD ⟨by simp,0,.head _⟩
 obtain ⟨s1,s2⟩:=Map.or_none r1
 refine zz ?_;clear zz
 exact ⟨m,_,hd.set s2,by rw [Map.set_or];exact r2,h _ s1⟩
theorem P_lenStr {x:Str}{t:Tok}{Q:Value→Loc→Map→Prop}(hz:x.length≤sizeLine) (h:∀ t',Q (.int x.length t') m σ):POK prog w G Y c (call (.builtin "len") [.str x t]) m σ Q X:=
 .of fun τ s hd hs=>PyProof.Rows.len_str (by have:=sizeLine_eq;omega) ⟨m,σ,hd,hs.toks _,h _⟩
theorem P_iaddStr {x y:Str}{t u:Tok}{Q:Value→Loc→Map→Prop}(hz:x.length+y.length≤sizeLine) (h:∀ t,Q (.str (x ++ y) t) m σ):POK prog w G Y c (inplaceOp .Add (.str x t) (.str y u)) m σ Q X:=
 .of fun τ s hd hs=>PyProof.Rows.iadd_str (fun _ _=>⟨m,σ,hd,hs.toks _,h _⟩) hz
end
inductive As2 (x y:Str) (Q:Flow→Loc→Map→Prop) (v:Value) (m':Loc) (σ':Map):Prop
 | mk (t:Addr) (a b:Value) (h1:v = .ref t) (h2:HasT (tops.heap_1 w.params) σ' t [a,b]) (q:Q .next ((m'.set x a).set y b) σ'):As2 x y Q v m' σ'
inductive As2r (x y:Str) (Q:Flow→Loc→Map→Prop) (v:Value) (m':Loc) (σ':Map):Prop
 | mk (t:Addr) (a b:Value) (h1:v = .ref t) (h2:HasT (tops.heap_1 w.params) σ' t [a,b]) (q:Q .next ((m'.set y b).set x a) σ'):As2r x y Q v m' σ'
section
variable {Y:Fly}{c:Cx}{X:Str→Map→Prop}{m:Loc}{σ τ ρ:Map}
theorem P_bindName {x:Str}{v:Value}{Q:Unit→Loc→Map→Prop}(h:POK prog w G Y c (storeName c.env x v) m σ Q X):POK prog w G Y c (bindName c.env x v) m σ Q X:=
 .of fun τ s hd hs=>wpAny_bindName (h.go τ s hd hs)
theorem P_inOrderNil {xs:List Value}{Q:Unit→Loc→Map→Prop}(h:Q () m σ):POK prog w G Y c (assignInOrder [] xs) m σ Q X:=.of fun τ s hd hs=>assignInOrder_nil ⟨m,σ,hd,hs,h⟩
theorem P_inOrder {t:Value→Sem Unit}{ts:List (Value→Sem Unit)}{x:Value}{xs:List Value}{Q:Unit→Loc→Map→Prop}
 (h:POK prog w G Y c (t x) m σ (Thn prog w G Y (fun _ _=>assignInOrder ts xs) c X Q) X):POK prog w G Y c (assignInOrder (t :: ts) (x :: xs)) m σ Q X:=
 .of fun τ s hd hs=>assignInOrder_cons (h.wp hd hs fun v s' m' σ' a b q=>q.go τ s' a b)
theorem P_assignNm {Y:Fly}{c:Cx}{X:Str→Map→Prop}{pos:Pos}{m:Loc}{σ:Map}{x:Str}{v:Value}{Q:Unit→Loc→Map→Prop}(h:POK prog w G Y c (storeName c.env x v) m σ Q X):POK prog w G Y c (assign (.Name x pos) c.env v) m σ Q X:=
 .of fun τ s hd hs=>assign_Name (h.go τ s hd hs)
theorem P_assign2 (hh:c.hd=none) {x y:Str}{p1 p2 tp pos:Pos}{k:Nat}{value:PySem.Expr}{Q:Flow→Loc→Map→Prop}
 (h:POK prog w G Y c (eval value c.env) m σ (As2 x y Q) X)
 (hl1:SLoc x c:=by kernel_rfl) (hl2:SLoc y c:=by kernel_rfl)
 (hs:swapsWithSole [.Tuple [.Name x p1,.Name y p2] k tp] value pos.line c.env=Pure.pure false:=by kernel_rfl)
 (hw:swappedStores [.Tuple [.Name x p1,.Name y p2] k tp] value c.env=Pure.pure none:=by kernel_rfl) :
 POK prog w G Y c (exec (.Assign [.Tuple [.Name x p1,.Name y p2] k tp] value pos) c.env) m σ Q X:=.of fun τ s hd hs'=>by
 refine Assign_Tuple (h.wp hd hs' fun v s₁ m₁ σ₁ a₁ b₁ zq=>?_) hs hw
 refine zk fun zz=>?_
 obtain ⟨t,a,b,e,ht,hq⟩:=zq
 refine zz ?_;clear zz
 subst e
 refine St.on b₁ fun hp tk news own b₁ l=>?_
 refine unpackN_ (s:=⟨hp,G.fix.gens,G.fix.drawn,tk,G.fix.os⟩) l.F l.N (l.hasT ht) hh (by rfl) (by rfl) fun h' F' N'=>?_
 have hst:St G c m₁ (σ₁.or τ) ⟨h',G.fix.gens,G.fix.drawn,tk,G.fix.os⟩:=⟨h',tk,news,own,rfl,F',N',l.nd,l.R,l.O⟩
 exact POK.goAs (Q':=Q) (g:=fun _=>Flow.next) (P_inOrder (P_assignNm (zx (P_inOrder (P_assignNm (zx (P_inOrderNil hq) hl2))) hl1))) τ _ a₁ hst
theorem P_assign2s (hh:c.hd=none) {x y:Str}{p1 p2 tp pos:Pos}{k:Nat}{value:PySem.Expr}{Q:Flow→Loc→Map→Prop}
 (h:POK prog w G Y c (eval value c.env) m σ (As2r x y Q) X)
 (hl1:SLoc x c:=by kernel_rfl) (hl2:SLoc y c:=by kernel_rfl)
 (hs:swapsWithSole [.Tuple [.Name x p1,.Name y p2] k tp] value pos.line c.env=Pure.pure false:=by kernel_rfl)
 (hw:swappedStores [.Tuple [.Name x p1,.Name y p2] k tp] value c.env=Pure.pure (some [x,y]):=by kernel_rfl) :
 POK prog w G Y c (exec (.Assign [.Tuple [.Name x p1,.Name y p2] k tp] value pos) c.env) m σ Q X:=.of fun τ s hd hs'=>by
 refine Assign_Tuple_swapped (h.wp hd hs' fun v s₁ m₁ σ₁ a₁ b₁ zq=>?_) hs hw
 refine zk fun zz=>?_
 obtain ⟨t,a,b,e,ht,hq⟩:=zq
 refine zz ?_;clear zz
 subst e
 refine St.on b₁ fun hp tk news own b₁ l=>?_
 refine unpackItemsN_ (s:=⟨hp,G.fix.gens,G.fix.drawn,tk,G.fix.os⟩) l.F l.N (l.hasT ht) hh (by rfl) fun h' F' N'=>?_
 have hst:St G c m₁ (σ₁.or τ) ⟨h',G.fix.gens,G.fix.drawn,tk,G.fix.os⟩:=⟨h',tk,news,own,rfl,F',N',l.nd,l.R,l.O⟩
 exact POK.goAs (Q':=Q) (g:=fun _=>Flow.next) (P_inOrder (P_bindName (zx (P_inOrder (P_bindName (zx (P_inOrderNil hq) hl1))) hl2))) τ _ a₁ hst
end
section
variable {Y:Fly}{c:Cx}{X:Str→Map→Prop}{m:Loc}{σ τ ρ:Map}
theorem P_boolOne {Y:Fly}{c:Cx}{X:Str→Map→Prop}{e:PySem.Expr}{pos:Pos}{m:Loc}{σ:Map}{op:PySem.BoolOp}{Q:Value→Loc→Map→Prop}(h:POK prog w G Y c (eval e c.env) m σ Q X):POK prog w G Y c (eval (.BoolOp op [e] pos) c.env) m σ Q X:=.of fun τ s hd hs=>BoolOp_one (h.go τ s hd hs)
theorem P_boolAnd {Y:Fly}{c:Cx}{X:Str→Map→Prop}{e₁ e₂:PySem.Expr}{rest:List PySem.Expr}{pos:Pos}{m:Loc}{σ:Map}{Q:Value→Loc→Map→Prop}(h:POK prog w G Y c (eval e₁ c.env) m σ (fun v m' σ'=>POK prog w G Y c (truthy v) m' σ' (fun b m₂ σ₂=>(b=true→POK prog w G Y c (eval (.BoolOp .And (e₂ :: rest) pos) c.env) m₂ σ₂ Q X)∧(b=false→Q v m₂ σ₂)) X) X) :
 POK prog w G Y c (eval (.BoolOp .And (e₁ :: e₂ :: rest) pos) c.env) m σ Q X:=.of fun τ s hd hs=>
 BoolOp_and (h.wp hd hs fun v s' m' σ' a b q=>q.wp a b fun t s₂ m₂ σ₂ a₂ b₂ q₂=>by
  cases t with
  | true=>rw [if_pos rfl];exact (q₂.1 rfl).go τ s₂ a₂ b₂
  | false=>rw [if_neg (by decide)];exact ⟨m₂,σ₂,a₂,b₂,q₂.2 rfl⟩)
end
section
variable {Y:Fly}{c:Cx}{X:Str→Map→Prop}{m:Loc}{σ τ ρ:Map}
theorem iadd_lookup:typeLookup (.type "list") (dunderI "add")=Pure.pure (some (.builtin "list.__iadd__")):=PySem.F.slot_list_iadd.lookup
theorem iadd_seq:seqSlot? (.type "list") (dunderI "add")=Pure.pure (some (.builtin "list.__iadd__")):=PySem.seqSlot_of iadd_lookup (by decide +kernel)
theorem wp_iaddList {A:Around}{E:Value→Shared→Prop}{s:Shared}{a b:Addr}{xs ys:Array Value}{n n2:Nat}{Q:Value→Shared→Prop}(ha:s.heap.get? a=some (listOf xs n)) (hb:s.heap.get? b=some (listOf ys n2)) (h1:xs.size+ys.size≤100000)
 (h:Q (.ref a) { s with heap:=s.heap.update a (Obj.mapSeq fun x=>x ++ ys) }):wpAny (model prog w) A (inplaceOp .Add (.ref a) (.ref b)) Q E s:=by
 have ta:s.TypeIs (.ref a) "list":=⟨_,ha,rfl⟩
 have tb:s.TypeIs (.ref b) "list":=⟨_,hb,rfl⟩
 unfold inplaceOp
 refine wpAny_holding ?_
 have hfi:fillsInplaceSlot (.type "list") "add" (PySem.Operator.Add == .Add)=Pure.pure false:=by
  unfold fillsInplaceSlot
  show (typeLookup (.type "list") (dunderI "add") >>= fun fi=>Pure.pure (fi.isSome && !isSeqSlot fi))=Pure.pure false
  rw [iadd_lookup]
  show (Pure.pure (((some (Value.builtin "list.__iadd__")).isSome && !isSeqSlot (some (Value.builtin "list.__iadd__")))):Sem Bool)=_
  have e:isSeqSlot (some (Value.builtin "list.__iadd__"))=true:=by decide +kernel
  rw [e];rfl
 refine wpAny_bind (wpAny_typeOf ta (wpAny_bind (wpAny_of_eq hfi ?_)))
 show wpAny _ A (if false=true then _ else _) Q E s
 rw [if_neg Bool.false_ne_true]
 refine wpAny_bind (wpAny_binaryOp1_none (nm:="add") ta tb noFill_list_add ?_)
 refine wpAny_bind (wpAny_of_eq iadd_seq ?_)
 refine wpAny_bind (wpAny_rule ?_)
 refine call_meets PySem.F.slot_list_iadd ta PySem.F.entry_list_iadd (PySem.F.args_list_iadd_2 _ _) (AutoSeq1.list___iadd___list_list_0 a xs n b ys n2 ?_ (by rw [sizeLine_eq];omega) (by rw [sizeLine_eq];omega)) ⟨ha,hb,h⟩
 have e:Builtin.List.listTooLong (xs.size+ys.size)=false:=by
  unfold Builtin.List.listTooLong
  simp only [decide_eq_false_iff_not]
  have:=sizeLine_eq
  omega
 rw [e];simp
theorem P_iaddList {a b:Addr}{xs ys:List Value}{Q:Value→Loc→Map→Prop}(hx:σ a=some (.seq false xs)) (hy:σ b=some (.seq false ys)) (hz:xs.length+ys.length≤100000)
 (h:Q (.ref a) m (σ.set a (.seq false (xs ++ ys)))):POK prog w G Y c (inplaceOp .Add (.ref a) (.ref b)) m σ Q X:=.of fun τ s hd hs=>by
 refine St.on hs fun hp tk news own hs l=>?_
 refine zk fun zz=>?_
 obtain ⟨n,g1,g2⟩:=l.seqAt (Map.or_some hx)
 obtain ⟨n',g3,g4⟩:=l.seqAt (Map.or_some hy)
 refine zz ?_;clear zz
 refine wp_iaddList (s:=⟨hp,G.fix.gens,G.fix.drawn,tk,G.fix.os⟩) (l.N _ g1).1 (l.N _ g3).1 (by simpa using hz) ⟨m,_,hd.set (hd.none_of hx),?_,h⟩
 rw [Map.set_or]
 have q:=PySem.IsL.update (l.N _ g1).1 (· ++ ys.toArray)
 have e:xs.toArray ++ ys.toArray=(xs ++ ys).toArray:=by simp
 rw [e] at q
 exact St.ext l g1 g2 (Heap.SameBut.update ..).extBut q ⟨g2,_,z8 g1⟩ fun m z=>by rw [Map.or_some hx] at z;cases z
end
section
open PySem PySem.W PyProof.Rows PySem.Spec PySem.Calls PySem.SeqAt PySem.EqNone
section
variable {Y:Fly}{c:Cx}{X:Str→Map→Prop}{m:Loc}{σ τ ρ:Map}{α β:Type}
theorem P_neTup {a b:Addr}{xs ys:List Value}{e:Nat→Bool}{Q:Value→Loc→Map→Prop}(hx:σ a=some (.seq true xs)) (hy:σ b=some (.seq true ys)) (hu:c.A.units < cLine)
 (he:∀ s j (h1:j < xs.length) (h2:j < ys.length),EqAt c.A.in1 s xs[j] ys[j] (e j)) (h:Q (.bool (!((List.range (min xs.length ys.length)).all e && xs.length == ys.length))) m σ) :
 POK prog w G Y c (compareOp .NotEq (.ref a) (.ref b)) m σ Q X:=.of fun τ s hd hs=>by
 refine St.on hs fun hp tk news own hs l=>?_
 exact RcNeAt.tuples (s:=⟨hp,G.fix.gens,G.fix.drawn,tk,G.fix.os⟩) (l.isTuple (Map.or_some hx)) (l.isTuple (Map.or_some hy)) hu (fun j h1 h2=>he _ j (by simpa using h1) (by simpa using h2)) prog w _ _ ⟨m,σ,hd,hs,by simpa using h⟩
theorem P_neTupSame {a b:Addr}{xs ys:List Value}{Q:Value→Loc→Map→Prop}(hx:σ a=some (.seq true xs)) (hy:σ b=some (.seq true ys)) (hu:c.A.units < cLine) (hl:xs.length=ys.length)
 (he:∀ s j (h1:j < xs.length) (h2:j < ys.length),EqAt c.A.in1 s xs[j] ys[j] true) (h:Q (.bool false) m σ) :
 POK prog w G Y c (compareOp .NotEq (.ref a) (.ref b)) m σ Q X:=P_neTup (e:=fun _=>true) hx hy hu he (by
 have e1:(!((List.range (min xs.length ys.length)).all (fun _=>true) && xs.length == ys.length))=false:=by simp [hl]
 rw [e1];exact h)
theorem P_neNone {Q:Value→Loc→Map→Prop}(h:Q (.bool false) m σ):POK prog w G Y c (compareOp .NotEq .none .none) m σ Q X:=.of fun τ s hd hs=>ne_none_none ⟨m,σ,hd,hs,h⟩
theorem P_inAny {a:Addr}{xs:List Value}{v:Value}{e:Value→Bool}{Q:Value→Loc→Map→Prop}(hx:σ a=some (.seq true xs)) (he:∀ s,∀ y∈xs,EqAt c.A.in1 s y v (e y)) (h:Q (.bool (xs.any e)) m σ) :
 POK prog w G Y c (compareOp .In v (.ref a)) m σ Q X:=.of fun τ s hd hs=>by
 refine St.on hs fun hp tk news own hs l=>?_
 exact in_tupleAt e (l.isTuple (Map.or_some hx)) (fun y hy=>he _ y (by simpa using hy)) ⟨m,σ,hd,hs,by simpa using h⟩
theorem P_notInAny {a:Addr}{xs:List Value}{v:Value}{e:Value→Bool}{Q:Value→Loc→Map→Prop}(hx:σ a=some (.seq true xs)) (he:∀ s,∀ y∈xs,EqAt c.A.in1 s y v (e y)) (h:Q (.bool (!xs.any e)) m σ) :
 POK prog w G Y c (compareOp .NotIn v (.ref a)) m σ Q X:=.of fun τ s hd hs=>by
 refine St.on hs fun hp tk news own hs l=>?_
 exact notIn_tupleAt e (l.isTuple (Map.or_some hx)) (fun y hy=>he _ y (by simpa using hy)) ⟨m,σ,hd,hs,by simpa using h⟩
theorem P_notInText {x y:Str}{t u:Tok}{Q:Value→Loc→Map→Prop}(h:Q (.bool (!(!(Builtin.Str.occurrences x y 0 x.length 1).isEmpty))) m σ):POK prog w G Y c (compareOp .NotIn (.str y u) (.str x t)) m σ Q X:=.of fun τ s hd hs=>
 PyProof.Rows.notIn_str ⟨m,σ,hd,hs,h⟩
noncomputable def rangeP (n:Int) (o:Obj):Prop:=∃ t u v,o={ cls:=.type "range",dict:=none,data:=.fields #[.int 0 t,.int n u,.int 1 v],slots:=#[] }
noncomputable def RIter (n:Nat) (i:Nat) (o:Obj):Prop:=o={ cls:=.type "range_iterator",dict:=none,data:=.fields #[rawInt (0+(i:Nat) * 1),rawInt ((n:Int) - (i:Nat)),rawInt 1],slots:=#[] }
theorem P_range {n:Int}{t:Tok}{Q:Value→Loc→Map→Prop}(h:∀ a,σ a=none→Q (.ref a) m (σ.set a (.raw (rangeP n)))):POK prog w G Y c (call (.type "range") [.int n t]) m σ Q X:=.of fun τ s hd hs=>by
 refine St.on hs fun hp tk news own hs l=>?_
 refine call_range_1 ?_
 refine zk fun zz=>?_
 obtain ⟨r1,r2⟩:=St.push (tk:=tk) (tk':=tk+1+1) (P:=rangeP n) (o:={ cls:=.type "range",data:=.fields #[.int 0 tk,.int n t,.int 1 (tk+1)] }) l ⟨_,_,_,rfl⟩
 obtain ⟨s1,s2⟩:=Map.or_none r1
 refine zz ?_;clear zz
 exact ⟨m,_,hd.set s2,by rw [Map.set_or];exact r2,h _ s1⟩
theorem Iterable.range {a:Addr}{n:Nat}(hn:n≤1000):Iterable prog w G c (.ref a) n (fun i v=>∃ t,v = .int i t) (fun ρ=>ρ a=some (.raw (rangeP n))):=by
 intro ρ s m Q E hC hs hQ
 refine St.on hs fun h tk news own hs l=>?_
 refine zk fun zz=>?_
 obtain ⟨o,h1,h2,t,u,v,rfl⟩:=l.rawAt hC
 refine zz ?_;clear zz
 have hsz:Builtin.Range.rangeSize 0 n 1=n:=by
  unfold Builtin.Range.rangeSize
  have:(0:Int)≤n:=Int.natCast_nonneg n
  simp
  omega
 have hsm:Builtin.Range.small 0 n 1=true:=by
  unfold Builtin.Range.small
  rw [hsz]
  have:(0:Int)≤n:=Int.natCast_nonneg n
  simp [Builtin.Range.rangeFitsLong]
  omega
 refine wpAny_pyIter_range (s:=⟨h,G.fix.gens,G.fix.drawn,tk,G.fix.os⟩) (l.N _ h1).1 hsm ?_
 rw [hsz]
 obtain ⟨r1,r2⟩:=St.push (tk:=tk) (tk':=tk) (P:=RIter n 0) (o:={ cls:=.type "range_iterator",data:=.fields #[rawInt 0,rawInt n,rawInt 1] }) l (by unfold RIter;simp)
 refine hQ _ (RIter n) _ r1 r2 fun c' hh=>?_
 have W:=Walks.range (prog:=prog) (w:=w) (A:=c'.A) hh h.objs.size 0 1 n
 have W':Walks prog w c'.A h.objs.size [h.objs.size] [h.objs.size] n (fun i v=>∃ t,v = .int i t) (fun i h'=>IsRangeIter h' h.objs.size (0+(i:Nat) * 1) ((n:Int) - (i:Nat)) 1):=by
  simpa using W
 refine PWalk.of W' (fun i ρ' h' m' news' own' hC' h0' l'=>?_) fun i h' hS=>⟨_,hS,rfl⟩
 refine zk fun zz=>?_
 obtain ⟨q1,o,q2,q3⟩:=l'.R _ _ Map.set_self
 refine zz ?_;clear zz
 have:=(l'.N _ q2).1
 rw [show o=_ from q3] at this
 exact this
end
end
noncomputable def DAt (h:Heap) (d:Addr) (es:Array DictEntry) (ep:Nat):Prop:=∃ o,h.get? d=some o∧o.ExactDict∧o.data = .dict es ep
section
variable {prog:Program}{w:World}{A:Around}{E:Value→Shared→Prop}{s:Shared}
theorem iter_start {d:Addr}{es:Array DictEntry}{ep:Nat}{Q:Value→Shared→Prop}(hd:(d == sysModules)=false) (hm:DAt s.heap d es ep)
 (hQ:Q (.ref s.heap.objs.size) { s with heap:=s.heap.push { cls:=.type "dict_keyiterator",data:=.fields #[.ref d,.int 0 0,.int es.size 0,.int ep 0] } }):wpAny (model prog w) A (pyIter (.ref d)) Q E s:=by
 refine zk fun zz=>?_
 obtain ⟨o,ho,hc,hdat⟩:=id hm
 refine zz ?_;clear zz
 have hT:s.TypeIs (.ref d) "dict":=⟨o,ho,hc.1⟩
 refine wpAny_pyIter_slot hT PySem.F.slot_dict_iter (wpAny_call_entry PySem.F.slot_dict_iter hT PySem.F.entry_dict_iter ?_ (PySem.F.args_dict_iter_1 _))
 unfold Builtin.«dict.__iter__» Builtin.Dict.dictSlotNone
 refine wpAny_bind (wpAny_bind (wpAny_notOrdered_dict hT ?_))
 show wpAny _ _ (pure (Value.ref d)) _ _ s
 refine wpAny_pure ?_
 show wpAny _ _ (Builtin.Dict.showsAll d >>= _) _ _ s
 unfold Builtin.Dict.showsAll
 rw [if_neg (by rw [hd];exact Bool.false_ne_true)]
 refine wpAny_bind (wpAny_pure (wpAny_bind (wpAny_dictEntries ho hdat (wpAny_bind (wpAny_dictEpoch ho hdat ?_)))))
 exact wpAny_bind (wpAny_newObj_type (wpAny_pure ⟨_,rfl,"dict_keyiterator",_,⟨_,Heap.get?_push_size _ rfl,rfl⟩,PySem.F.slot_dict_keyiterator_next.lookup,by simpa [rawInt] using hQ⟩))
theorem iter_next {it d:Addr}{i ep:Nat}{es:Array DictEntry}{en:DictEntry}{Q:Option Value→Shared→Prop}(hit:s.heap.IsKeyIter it d i es.size ep) (hm:DAt s.heap d es ep) (hx:es[i]? = some en)
 (hQ:∀ h',h'.IsKeyIter it d (i+1) es.size ep→Heap.SameBut it s.heap h'→Q (some en.key) { s with heap:=h' }):wpAny (model prog w) A (pyNext (.ref it)) Q E s:=by
 refine zk fun zz=>?_
 obtain ⟨o,ho,hc,hd⟩:=id hit
 obtain ⟨od,hod,hcd,hdd⟩:=id hm
 refine zz ?_;clear zz
 have hown:Builtin.Dict_items.ownsTuple "dict_keyiterator" = false:=by decide
 unfold pyNext
 refine wpAny_bind (wpAny_attempt (wpAny_callSpecial?_slot (name:=Str.ofString "__next__") hit.typeIs PySem.F.slot_dict_keyiterator_next
  (wpAny_call_entry PySem.F.slot_dict_keyiterator_next hit.typeIs PySem.F.entry_dict_keyiterator_next (wpAny_bind (wpAny_pure (wpAny_bind (wpAny_bind ?_)))) (PySem.F.args_dict_keyiterator_next_1 _))))
 first | refine wpAny_bind (wpAny_typeNameOfWhole_keyiter hit.typeIs (wpAny_pure ?_)) | refine wpAny_bind (wpAny_typeNameOf_keyiter hit.typeIs (wpAny_pure ?_))
 refine wpAny_bind (wpAny_fieldsOf ho hd ?_)
 rw [if_neg (show ¬ Builtin.Dict_items.ownsTuple "dict_keyiterator" = true by rw [hown];decide)]
 show wpAny _ _ (if (Value.ref d == Value.none)=true then _ else _) _ _ s
 rw [if_neg (show ¬ ((Value.ref d == Value.none)=true) from Bool.false_ne_true)]
 refine wpAny_bind (wpAny_pure (wpAny_bind (wpAny_dictEntries hod hdd ?_)))
 rw [if_neg (by simp)]
 refine wpAny_bind (wpAny_pure (wpAny_bind (wpAny_dictEpoch hod hdd ?_)))
 rw [if_neg (by simp)]
 refine wpAny_pure ?_
 dsimp only
 rw [if_neg (show ¬ ((i:Int) < 0) by omega),Int.toNat_natCast,hx]
 dsimp only
 refine wpAny_bind ?_
 first | refine wpAny_bind (wpAny_typeNameOfWhole_keyiter hit.typeIs (wpAny_pure ?_)) | refine wpAny_bind (wpAny_typeNameOf_keyiter hit.typeIs (wpAny_pure ?_))
 refine wpAny_bind (wpAny_isOneOf_keyiter hit.typeIs ?_)
 show wpAny _ _ (setField (.ref it) 1 (rawInt ((i:Int)+1)) >>= _) _ _ s
 refine wpAny_bind (wpAny_setField ho hd (by simp) ?_)
 have hit':(s.heap.update it (Obj.mapFields (·.setIfInBounds 1 (rawInt ((i:Int)+1))))).IsKeyIter it d (i+1) es.size ep:=
  ⟨_,Heap.get?_update_self _ ho (Obj.isFreed_of_fields (Obj.data_mapFields hd _)),(Obj.cls_mapFields ..).trans hc,by rw [Obj.data_mapFields hd];simp [rawInt]⟩
 refine wpAny_bind (wpAny_holding (wpAny_bind (wpAny_isOneOf_keyiter (s:={ s with heap:=s.heap.update it (Obj.mapFields (·.setIfInBounds 1 (rawInt ((i:Int)+1)))) }) hit'.typeIs ?_)))
 show wpAny _ _ (pure en.key) _ _ _
 exact wpAny_pure (wpAny_pure ⟨_,rfl,wpAny_pure (hQ _ hit' (Heap.SameBut.update ..))⟩)
theorem iter_end {it d:Addr}{i ep:Nat}{es:Array DictEntry}{Q:Option Value→Shared→Prop}(hh:A.handled=none) (hit:s.heap.IsKeyIter it d i es.size ep) (hm:DAt s.heap d es ep) (hx:es[i]? = none)
 (hQ:∀ h',Heap.ExtBut it s.heap h'→Q none { s with heap:=h' }):wpAny (model prog w) A (pyNext (.ref it)) Q E s:=by
 refine zk fun zz=>?_
 obtain ⟨o,ho,hc,hd⟩:=id hit
 obtain ⟨od,hod,hcd,hdd⟩:=id hm
 refine zz ?_;clear zz
 have hown:Builtin.Dict_items.ownsTuple "dict_keyiterator" = false:=by decide
 unfold pyNext
 refine wpAny_bind (wpAny_attempt (wpAny_callSpecial?_slot (name:=Str.ofString "__next__") hit.typeIs PySem.F.slot_dict_keyiterator_next
  (wpAny_call_entry PySem.F.slot_dict_keyiterator_next hit.typeIs PySem.F.entry_dict_keyiterator_next (wpAny_bind (wpAny_pure (wpAny_bind (wpAny_bind ?_)))) (PySem.F.args_dict_keyiterator_next_1 _))))
 first | refine wpAny_bind (wpAny_typeNameOfWhole_keyiter hit.typeIs (wpAny_pure ?_)) | refine wpAny_bind (wpAny_typeNameOf_keyiter hit.typeIs (wpAny_pure ?_))
 refine wpAny_bind (wpAny_fieldsOf ho hd ?_)
 rw [if_neg (show ¬ Builtin.Dict_items.ownsTuple "dict_keyiterator" = true by rw [hown];decide)]
 show wpAny _ _ (if (Value.ref d == Value.none)=true then _ else _) _ _ s
 rw [if_neg (show ¬ ((Value.ref d == Value.none)=true) from Bool.false_ne_true)]
 refine wpAny_bind (wpAny_pure (wpAny_bind (wpAny_dictEntries hod hdd ?_)))
 rw [if_neg (by simp)]
 refine wpAny_bind (wpAny_pure (wpAny_bind (wpAny_dictEpoch hod hdd ?_)))
 rw [if_neg (by simp)]
 refine wpAny_pure ?_
 dsimp only
 rw [if_neg (show ¬ ((i:Int) < 0) by omega),Int.toNat_natCast,hx]
 dsimp only
 refine wpAny_bind ?_
 first | refine wpAny_bind (wpAny_typeNameOfWhole_keyiter hit.typeIs (wpAny_pure ?_)) | refine wpAny_bind (wpAny_typeNameOf_keyiter hit.typeIs (wpAny_pure ?_))
 show wpAny _ _ (setField (.ref it) 0 .none >>= _) _ _ s
 refine wpAny_bind (wpAny_setField ho hd (by simp) ?_)
 show wpAny _ _ (newExc (.type "StopIteration") [] >>= _) _ _ _
 refine wpAny_bind ?_
 unfold newExc newTuple
 refine wpAny_bind (wpAny_newObj_type ?_ (by size_fits))
 refine wpAny_bind (m:=firstArgMember _ _) (wpAny_of_eq (a:=Value.none) (by kernel_rfl) ?_)
 refine wpAny_newObj_type ?_ (by size_fits)
 refine wpAny_raiseNew_none hh ?_
 refine wpAny_bind (wpAny_isInstance (T:="StopIteration") (b:=true) ⟨_,Heap.get?_push_size _ rfl,rfl⟩ isSubtype_stop ?_)
 exact wpAny_pure (hQ _ (((Heap.SameBut.update ..).extBut.push _).push _))
end
section
variable {Y:Fly}{c:Cx}{X:Str→Map→Prop}{m:Loc}{σ τ ρ:Map}{Kt:Type} [DecidableEq Kt] {knd:HeapKind prog w Kt}{R:KeyRep knd}{d a:Addr}{xs:List (Kt × Addr × Value)}{k:Kt}
noncomputable def hdE (knd:HeapKind prog w Kt) (d:Addr) (xs:List (Kt × Addr × Value)) (es:Array DictEntry) (ep:Nat) (o:Obj):Prop:=
 (d == sysModules)=false∧o.ExactDict∧o.data = .dict es ep∧es.toList=xs.map (entryOfKey knd)∧(xs.map (·.1)).Nodup
theorem hdE.close {es:Array DictEntry}{ep:Nat}{o:Obj}(h:hdE knd d xs es ep o):hdP knd d xs o:=⟨h.1,h.2.1,⟨es,ep,h.2.2.1,h.2.2.2.1⟩,h.2.2.2.2⟩
theorem POK.openT {α:Type}{t:Sem α}{Q:α→Loc→Map→Prop}(hx:σ d=some (.raw (hdP knd d xs))) (h:∀ es ep,POK prog w G Y c t m (σ.set d (.raw (hdE knd d xs es ep))) Q X):POK prog w G Y c t m σ Q X:=
 POK.reraw hx fun o ⟨h1,h2,⟨es,ep,h3,h4⟩,h5⟩=>⟨_,⟨h1,h2,h3,h4,h5⟩,h es ep⟩
theorem Iterable.dictT {es:Array DictEntry}{ep:Nat}:Iterable prog w G c (.ref d) xs.length (fun i v=>∃ x,xs[i]? = some x∧v = .ref x.2.1) (fun ρ=>ρ d=some (.raw (hdE knd d xs es ep))):=by
 intro ρ s m Q E hC hs hQ
 refine St.on hs fun h tk news own hs l=>?_
 refine zk fun zz=>?_
 obtain ⟨o,h1,h2,h3,h4,h5,h6,h7⟩:=l.rawAt hC
 refine zz ?_;clear zz
 have hsz:es.size=xs.length:=by have:=congrArg List.length h6;simpa using this
 refine iter_start (s:=⟨h,G.fix.gens,G.fix.drawn,tk,G.fix.os⟩) h3 ⟨o,(l.N _ h1).1,h4,h5⟩ ?_
 obtain ⟨r1,r2⟩:=St.push (tk:=tk) (tk':=tk) (P:=fun o=>KdkIter o d 0 es.size ep) (o:={ cls:=.type "dict_keyiterator",data:=.fields #[.ref d,.int 0 0,.int es.size 0,.int ep 0] }) l ⟨rfl,rfl⟩
 have hne:d≠h.objs.size:=fun z=>by rw [← z,hC] at r1;cases r1
 refine hQ _ (fun i o=>KdkIter o d i es.size ep) _ r1 r2 fun c' hh=>?_
 have W:Walks prog w c'.A h.objs.size [h.objs.size,d] [h.objs.size] xs.length (fun i v=>∃ x,xs[i]? = some x∧v = .ref x.2.1) (fun i h'=>h'.IsKeyIter h.objs.size d i es.size ep∧DAt h' d es ep):=
  { sub:=fun b hb=>by simp at hb;simp [hb]
    frame:=fun i h₁ h₂ st hk=>⟨by
     refine zk fun zz=>?_
     obtain ⟨o,e,r⟩:=st.1
     refine zz ?_;clear zz
     exact ⟨o,hk _ (by simp) o e,r⟩,by
     refine zk fun zz=>?_
     obtain ⟨o,e,r⟩:=st.2
     refine zz ?_;clear zz
     exact ⟨o,hk _ (by simp) o e,r⟩⟩
    item:=fun i s Q E hi st hQ=>by
     have he:es.toList[i]? = some (entryOfKey knd xs[i]):=by rw [h6];simp [hi]
     refine iter_next st.1 st.2 (en:=entryOfKey knd xs[i]) (by rw [← Array.getElem?_toList];exact he) fun h' hit' hs'=>?_
     refine hQ _ h' s.toks ⟨xs[i],by simp [hi],rfl⟩ ⟨hit',?_⟩ fun b o hb e=>hs'.extBut b o (fun h=>hb (by simp [h])) e
     refine zk fun zz=>?_
     obtain ⟨o,e,r⟩:=st.2
     refine zz ?_;clear zz
     exact ⟨o,hs'.extBut _ _ hne e,r⟩
    done:=fun s Q E st hQ=>iter_end hh st.1 st.2 (by simp [hsz]) fun h' he'=>hQ h' s.toks fun b o hb e=>he' b o (fun h=>hb (by simp [h])) e
    self:=fun _ _ _ _ st hQ=>wpAny_pyIter_keyiter st.1 hQ }
 refine PWalk.of W (fun i ρ' h' m' news' own' hC' h0' l'=>?_) fun i h' hS=>?_
 ·refine zk fun zz=>?_
  obtain ⟨oI,q1,_,q3⟩:=l'.rawAt (a:=h.objs.size) Map.set_self
  obtain ⟨o',g1,_,g3⟩:=l'.rawAt ((Map.set_ne hne).trans hC')
  refine zz ?_;clear zz
  exact ⟨q3.at (l'.N _ q1).1,o',(l'.N _ g1).1,g3.2.1,g3.2.2.1⟩
 ·refine zk fun zz=>?_
  obtain ⟨o',g1,g2,g3⟩:=hS.1
  refine zz ?_;clear zz
  exact ⟨o',g1,g2,g3⟩
theorem P_dictSet {v:Value}{Q:Unit→Loc→Map→Prop}(T:TD R σ d xs) (hu:knd.room c.A) (hk:R.at_ σ k a) (hz:xs.length≤sizeLine) (h:Q () m (σ.set d (.raw (hdP knd d (storedH xs k a v))))) :
 POK prog w G Y c (dictSet d (.ref a) v) m σ Q X:=.of fun τ s hd hs=>by
 refine St.on hs fun hp tk news own hs l=>?_
 refine zk fun zz=>?_
 obtain ⟨D,lo⟩:=T.dictOf l
 obtain ⟨o,h1,h2,h3⟩:=l.rawAt (Map.or_some T.1)
 refine zz ?_;clear zz
 refine wpAny_dictSet_heap (hsz:=hz) hu (R.sound l (R.up hk)) D fun h' hm' hs'=>?_
 refine zk fun zz=>?_
 obtain ⟨o',es',ep',ho',hc',hd',he',hk',hn'⟩:=hm'
 refine zz ?_;clear zz
 refine ⟨m,_,hd.set (hd.none_of T.1),?_,h⟩
 rw [Map.set_or]
 exact St.ext l h1 h2 hs'.extBut ho' ⟨h2,o',z8 h1,lo,hc',⟨es',ep',hd',he'⟩,hn'⟩ fun m z=>by rw [Map.or_some T.1] at z;cases z
end
inductive DictK {Kt:Type} [DecidableEq Kt] {knd:HeapKind prog w Kt}(Y:Fly) (R:KeyRep knd) (kx vx:PySem.Expr) (x:Str) (ifs:List PySem.Expr) (scope:Scope) (cl:List (Str × Addr)) (hk:scope.kind = .function) (c:Cx) (Q:Value→Loc→Map→Prop) (v:Value) (m':Loc) (σ':Map):Prop
 | mk (n:Nat) (P:Nat→Value→Prop) (C:Map→Prop) (J:Nat→List (Kt × Addr × Value)→Map→Prop) (it:Iterable prog w G c v n P C) (hn:n≤sizeLine) (h1:∀ i ys σ τ,J i ys σ→C (σ.or τ))
  (h2:∀ i ys σ,J i ys σ→ys.length≤i∧∀ y∈ys,R.at_ σ y.1 y.2.1) (h3:J 0 [] σ')
  (turn:∀ Cd i v ys m₁ σ,i < n→P i v→J i ys σ→m₁ x=some v→POK prog w G Y (c.comp scope cl hk Cd) (forIn ifs true fun e r=>if r=true then do let ok ← PySem.isTrue e (c.comp scope cl hk Cd).env (eval e (c.comp scope cl hk Cd).env);pure (ForInStep.yield ok) else pure (ForInStep.yield r)) m₁ σ
   (fun ok m₂ σ₂=>(ok=true→POK prog w G Y (c.comp scope cl hk Cd) (eval kx (c.comp scope cl hk Cd).env) m₂ σ₂ (fun kv m₃ σ₃=>POK prog w G Y (c.comp scope cl hk Cd) (eval vx (c.comp scope cl hk Cd).env) m₃ σ₃ (fun y m₄ σ₄=>∃ k a,kv = .ref a∧R.at_ σ₄ k a∧(∀ y∈ys,R.at_ σ₄ y.1 y.2.1)∧J (i+1) (storedH ys k a y) σ₄) NoX) NoX)∧(ok=false→J (i+1) ys σ₂)) NoX)
  (fin:∀ ys σ D,J n ys σ→σ D=none→Q (.ref D) m' (σ.set D (.raw (hdP knd D ys)))):DictK Y R kx vx x ifs scope cl hk c Q v m' σ'
section
variable {Y:Fly}{c:Cx}{X:Str→Map→Prop}{m:Loc}{σ τ ρ:Map}{Kt:Type} [DecidableEq Kt] {knd:HeapKind prog w Kt}{R:KeyRep knd}
theorem P_newDictT {Q:Value→Loc→Map→Prop}(h:∀ d,σ d=none→Q (.ref d) m (σ.set d (.raw (hdP knd d [])))):POK prog w G Y c newDict m σ Q X:=.of fun τ s hd hs=>by
 refine St.on hs fun hp tk news own hs l=>?_
 refine zk fun zz=>?_
 obtain ⟨r1,r2⟩:=St.push (tk:=tk) (tk':=tk) (P:=hdP knd hp.objs.size []) (o:={ cls:=.type "dict",dict:=none,data:=.dict #[] }) l ⟨l.F.notModules (modules_low (G.T l.O.1).nolimit),⟨rfl,rfl,rfl⟩,⟨#[],0,rfl,rfl⟩,List.nodup_nil⟩
 obtain ⟨s1,s2⟩:=Map.or_none r1
 refine zz ?_;clear zz
 exact wpAny_newObj_type ⟨m,_,hd.set s2,by rw [Map.set_or];exact r2,h _ s1⟩
theorem P_dictComp (hh:c.hd=none) {kx vx iter:PySem.Expr}{x:Str}{px pos:Pos}{ifs:List PySem.Expr}{scope:Scope}{cl:List (Str × Addr)}{Q:Value→Loc→Map→Prop}
 (hclos:closureFor scope c.env=pure cl) (hk:scope.kind = .function) (hcell:∀ y∈scope.names,y.2≠.cell)
 (hnames:∀ y∈scope.names,y.2 = .local→scope.names.lookup y.1=some .local) (hx:scope.names.lookup x=some .local) (hroom:knd.room c.A)
 (h:POK prog w G Y c (eval iter c.env) m σ (DictK Y R kx vx x ifs scope cl hk c Q) X)
 (hf:∀ x,foldedSetIterable iter c.env x=Pure.pure x:=by intro _;rfl):POK prog w G Y c (eval (.DictComp kx vx [⟨.Name x px,iter,ifs,0⟩] scope pos) c.env) m σ Q X:=.of fun τ s hd hs=>by
 rw [arm_eval_DictComp]
 show wpAny _ c.A (comprehension (.DictComp kx vx [⟨.Name x px,iter,ifs,0⟩] scope pos) scope c.env (firstIterPos [⟨.Name x px,iter,ifs,0⟩] pos) newDict false (eval iter c.env) none) _ _ s
 refine wpAny_comprehension_free (use:=none) rfl hf hclos hk hnames (h.wp hd hs fun v s₁ m₁ σ₁ hd₁ hs₁ zq=>?_)
 refine zk fun zz=>?_
 obtain ⟨n,P,C,J,hI,hn,hJC,hJl,hJ0,turn,fin⟩:=zq
 refine zz ?_;clear zz
 refine hI (σ₁.or τ) s₁ m₁ _ _ (hJC _ _ _ _ hJ0) hs₁ fun I It s₂ hI0 hs₂ W'=>?_
 have acc:=(P_newDictT (knd:=knd) (Y:=Y) (c:=c) (m:=m₁) (σ:=σ₁) (X:=fun _ _=>False) (Q:=fun v m' σ'=>∃ D,σ₁ D=none∧v = .ref D∧m'=m₁∧σ'=σ₁.set D (.raw (hdP knd D []))) fun D h0=>⟨D,h0,rfl,rfl,rfl⟩).go
  (τ.set I (.raw (It 0))) s₂ (hd₁.setR (Map.or_none hI0).1) (by rw [zE (Map.or_none hI0).1];exact hs₂)
 refine wpAny_mono acc (fun v₃ s₃ zq=>?_) fun e s' z=>z.no
 refine zk fun zz=>?_
 obtain ⟨m₃,σ₃,hd₃,hs₃,D,hD0,e1,e2,e3⟩:=zq
 refine zz ?_;clear zz
 subst e1 e2 e3
 have hDτ:(τ.set I (.raw (It 0))) D=none:=hd₃.none_of Map.set_self
 have hDI:D≠I:=fun z=>by rw [z,Map.set_self] at hDτ;cases hDτ
 have hτD:τ D=none:=(Map.set_ne hDI).symm.trans hDτ
 refine zk fun zz=>?_
 obtain ⟨i0,t0⟩:=Map.or_none hI0
 refine zz ?_;clear zz
 refine St.on hs₃ fun H tk news own hs₃ l=>?_
 have hL0:=l.frame_none
 have hσL:(σ₁.set D (.raw (hdP knd D []))) c.L=none:=(Map.or_none hL0).1
 have hLI:c.L≠I:=fun z=>by have:=(Map.or_none hL0).2;rw [z,Map.set_self] at this;cases this
 have hτL:τ c.L=none:=(Map.set_ne hLI).symm.trans (Map.or_none hL0).2
 have hLD:c.L≠D:=fun z=>by rw [z,Map.set_self] at hσL;cases hσL
 have s1:σ₁ c.L=none:=(Map.set_ne hLD).symm.trans hσL
 have hab:=l.F.above
 have hfr:=l.frNe
 refine wpAny_newFunctionEnv hcell (by intro y hy;simp at hy) (fun h₁ hns₁ hsb₁=>?_) hk
 let c₁:Cx:=c.comp scope cl hk H.objs.size
 have hs₄:=St.enter (scope:=scope) (cl:=cl) (hk:=hk) (tk:=tk+0) l hns₁ hsb₁
 have W:=W' c₁ hh
 let T:Nat→List (Kt × Addr × Value)→Map:=fun i ys=>((τ.set c.L (.frm m₃)).set D (.raw (hdP knd D ys))).set I (.raw (It i))
 have loop:codeAny (model prog w) c₁.A (.compLoop (.DictComp kx vx [⟨.Name x px,iter,ifs,0⟩] scope pos) 0 (.ref I) (.ref D) c₁.env)
  (compPost (model prog w) c.A (XH Y c τ X) none (Po G c τ Q) (.ref D) H.objs.size) ⟨h₁,G.fix.gens,G.fix.drawn,tk+0,G.fix.os⟩:=by
  refine codeAny_compLoop_testsD (fun k s'=>∃ i ys m' σ',k=n - i∧i≤n∧J i ys σ'∧Disj σ' (T i ys)∧St G c₁ m' (σ'.or (T i ys)) s') ?_ n ⟨0,[],fun x=>([]:List (Str × Value)).reverse.lookup x,σ₁,(Nat.sub_zero n).symm,Nat.zero_le _,hJ0,?_,?_⟩
  ·rintro k s' ⟨i,ys,m',σ',rfl,hi,hJ,hd',hs'⟩
   refine zk fun zz=>?_
   obtain ⟨sI,hd1⟩:=zV hd'
   obtain ⟨sD,hd2⟩:=zV hd1
   obtain ⟨sL,hd3⟩:=zV hd2
   refine zz ?_;clear zz
   have r0:(σ'.or ((τ.set c.L (.frm m₃)).set D (.raw (hdP knd D ys)))) I=none:=by
    unfold Map.or
    rw [sI,Map.set_ne hDI.symm,Map.set_ne hLI.symm];exact t0
   have hs'':=hs'
   rw [show T i ys=((τ.set c.L (.frm m₃)).set D (.raw (hdP knd D ys))).set I (.raw (It i)) from rfl,zE sI] at hs''
   by_cases hlt:i < n
   ·refine W.item i _ s' m' _ _ hlt (hJC _ _ _ _ hJ) r0 hs'' fun v s₅ hP hs₅=>?_
    have hs₅':St G c₁ m' (σ'.or (T (i+1) ys)) s₅:=by
     rw [show T (i+1) ys=((τ.set c.L (.frm m₃)).set D (.raw (hdP knd D ys))).set I (.raw (It (i+1))) from rfl,zE sI];exact hs₅
    have hd5:Disj σ' (T (i+1) ys):=hd1.setR sI
    refine wpAny_assign_Name ((zx (Y:=Y) (c:=c₁) (m:=m') (σ:=σ') (X:=fun _ _=>False) (x:=x) (v:=v) (Q:=fun _ m₂ σ₂=>m₂=m'.set x v∧σ₂=σ') ⟨rfl,rfl⟩ (Eq.symm (lookup_relabel_local hx))).wpAs hd5 hs₅' fun _ s₆ hd₆ hs₆=>?_)
    refine wpAny_mono ((turn H.objs.size i v ys (m'.set x v) _ hlt hP hJ (if_pos rfl)).go _ _ hd₆ hs₆) (fun ok s₇ zq=>?_) fun e s' z=>z.no
    refine zk fun zz=>?_
    obtain ⟨m₇,σ₇,hd₇,hs₇,q1,q2⟩:=zq
    refine zz ?_;clear zz
    cases ok with
    | false=>
     rw [if_neg (by decide)]
     exact ⟨n - (i+1),by omega +splitNatSub,i+1,ys,m₇,σ₇,rfl,hlt,q2 rfl,hd₇,hs₇⟩
    | true=>
     rw [if_pos rfl]
     refine wpAny_mono ((q1 rfl).go _ _ hd₇ hs₇) (fun kv s₇₁ zq=>?_) fun e s' z=>z.no
     refine zk fun zz=>?_
     obtain ⟨m₇₁,σ₇₁,hd₇₁,hs₇₁,q3⟩:=zq
     refine zz ?_;clear zz
     refine wpAny_mono (q3.go _ _ hd₇₁ hs₇₁) (fun y s₈ zq=>?_) fun e s' z=>z.no
     refine zk fun zz=>?_
     obtain ⟨m₈,σ₈,hd₈,hs₈,kk,ka,ekv,qk,qys,q⟩:=zq
     refine zz ?_;clear zz
     subst ekv
     refine zk fun zz=>?_
     obtain ⟨uI,ud1⟩:=zV hd₈
     obtain ⟨uD,ud2⟩:=zV ud1
     refine zz ?_;clear zz
     have hs₉:St G c₁ m₈ ((σ₈.set D (.raw (hdP knd D ys))).or ((τ.set c.L (.frm m₃)).set I (.raw (It (i+1))))) s₈:=by
      rw [← or_pull uD hDI];exact hs₈
     have hz:ys.length≤sizeLine:=Nat.le_trans (hJl _ _ _ hJ).1 (by omega +splitNatSub)
     have hDT:((τ.set c.L (.frm m₃)).set I (.raw (It (i+1)))) D=none:=by
      rw [Map.set_ne hDI,Map.set_ne hLD.symm];exact hτD
     have hd₉:Disj (σ₈.set D (.raw (hdP knd D ys))) ((τ.set c.L (.frm m₃)).set I (.raw (It (i+1)))):=Disj.set (ud2.setR uI) hDT
     have keepD:∀ {k:Kt} {a:Addr},R.at_ σ₈ k a→R.at_ (σ₈.set D (.raw (hdP knd D ys))) k a:=fun ha=>R.keeps (fun b xs hb=>(Map.set_ne fun z=>by rw [z,uD] at hb;cases hb).trans hb) ha
     refine (P_dictSet (R:=R) (Y:=Y) (c:=c₁) (m:=m₈) (X:=fun _ _=>False) (d:=D) (xs:=ys) (v:=y) (Q:=fun _ m₂ σ₂=>m₂=m₈∧σ₂=(σ₈.set D (.raw (hdP knd D ys))).set D (.raw (hdP knd D (storedH ys kk ka y)))) ⟨Map.set_self,fun x hx=>keepD (qys x hx)⟩ hroom (keepD qk) hz ⟨rfl,rfl⟩).wpAs hd₉ hs₉ fun _ s₁₀ hd₁₀ hs₁₀=>?_
     rw [set_set] at hs₁₀ hd₁₀
     refine ⟨n - (i+1),by omega +splitNatSub,i+1,storedH ys kk ka y,m₈,σ₈,rfl,hlt,q,(ud2.setR uD).setR uI,?_⟩
     show St G c₁ m₈ (σ₈.or (((τ.set c.L (.frm m₃)).set D (.raw (hdP knd D (storedH ys kk ka y)))).set I (.raw (It (i+1))))) _
     rw [or_pull uD hDI];exact hs₁₀
   ·have e:n=i:=by omega +splitNatSub
    subst e
    refine W.done _ s' m' _ _ (hJC _ _ _ _ hJ) r0 hs'' fun s₅ hs₅=>?_
    rw [or_two sL sD hLD] at hs₅
    have h0:((σ'.set D (.raw (hdP knd D ys))).or τ) c.L=none:=(Map.or_eq ((Map.set_ne hLD).trans sL)).trans hτL
    refine St.on hs₅ fun h5 tk5 news5 own5 hs₅ l5=>?_
    exact ⟨m',l5.F.ns,fun h' hs'=>⟨m₃,σ'.set D (.raw (hdP knd D ys)),hd3.set hτD,St.backTo (c':=c.comp scope cl hk H.objs.size) (fun _ h=>h) hfr hab h0 l5 hs'.extBut,fin ys σ' D hJ sD⟩⟩
  ·exact ((hd₁.setR s1).setR hD0).setR i0
  ·show St G _ _ (σ₁.or (((τ.set c.L (.frm m₃)).set D (.raw (hdP knd D []))).set I (.raw (It 0)))) _
   rw [or_three s1 hD0 i0 hLD hLI hDI]
   exact hs₄
 refine codeAny_compStart_dict loop ?_
 obtain ⟨i1,i2⟩:=Map.or_none hI0
 rw [or_four i0 hLI hDI] at hs₄
 refine W.self 0 _ _ _ _ _ ?_ ?_ hs₄ loop
 ·rw [or_five s1 hD0]
  exact hJC _ _ _ _ hJ0
 ·unfold Map.set Map.or
  have a1:¬ I=c.L:=fun z=>hLI z.symm
  have a2:¬ I=D:=fun z=>hDI z.symm
  simp [a1,a2,i0,t0]
end
section
variable {Y:Fly}{c:Cx}{X:Str→Map→Prop}{m:Loc}{σ τ ρ:Map}
theorem P_tailSliceTo {Y:Fly}{c:Cx}{X:Str→Map→Prop}{value:PySem.Expr}{lw up:Option PySem.Expr}{sp:Pos}{m:Loc}{σ:Map}{x:Str}{t u:Tok}{j:Int}{sl:Addr}{Q:Value→Loc→Map→Prop}(hsl:σ sl=some (.raw (jO .none (.int j u)))) (hz:x.length≤sizeLine) (h:∀ t',Q (.str (Txt.slice x none (some j)) t') m σ) :
 POK prog w G Y c (subscriptTail value (.Slice lw up none sp) (.str x t) (.ref sl)) m σ Q X:=.of fun τ s hd hs'=>by
 refine St.on hs' fun hp tk news own hs' l=>?_
 refine zk fun zz=>?_
 obtain ⟨o,g1,g2,g3⟩:=l.rawAt (Map.or_some hsl)
 refine zz ?_;clear zz
 exact tail_any (s:=⟨hp,G.fix.gens,G.fix.drawn,tk,G.fix.os⟩) (typeIs_str _ _ _) PySem.F.slot_str_getitem.lookup
  (wpAny_getItem_str_slice (l:=none) (u:=some (j,u)) (st:=none) ⟨o,(l.N _ g1).1,g3.1,g3.2⟩ rfl (post_val_or_str ⟨Nat.le_trans (Txt.slice_le x _ _) hz,fun t' k=>⟨m,σ,hd,hs'.toks _,h t'⟩⟩)) rfl
end
section
variable {Y:Fly}{c:Cx}{X:Str→Map→Prop}{m:Loc}{σ τ ρ:Map}
theorem P_dictDisp {Y:Fly}{c:Cx}{X:Str→Map→Prop}{values:List PySem.Expr}{pos:Pos}{m:Loc}{σ:Map}{keys:List (Option PySem.Expr)}{Q:Value→Loc→Map→Prop}(h:∀ D,σ D=none→POK prog w G Y c (evalPairs (pairTrees keys values c.env pos)) m (σ.set D (.raw (sdP prog w D []))) (fun vs m' σ'=>POK prog w G Y c (storeAll D vs) m' σ' (fun _=>Q (.ref D)) X) X) (hall:keys.all (·.isSome)=true:=by rfl) (hl:keys.length=values.length:=by rfl) (h0:keys≠[]:=by simp) (hlen:keys.length≤15:=by decide):POK prog w G Y c (eval (.Dict keys values pos) c.env) m σ Q X:=.of fun τ s hd hs=>by
 refine St.on hs fun hp tk news own hs l=>?_
 refine zk fun zz=>?_
 obtain ⟨r1,r2⟩:=St.push (tk:=tk) (tk':=tk) (P:=sdP prog w hp.objs.size []) (o:={ cls:=.type "dict",dict:=none,data:=.dict #[] }) l ⟨l.F.notModules (modules_low (G.T l.O.1).nolimit),#[],0,⟨rfl,rfl,rfl⟩,rfl,fun e he=>by simp at he,.nil,List.nodup_nil⟩
 obtain ⟨s1,s2⟩:=Map.or_none r1
 refine zz ?_;clear zz
 refine wpAny_Dict_any hall hl h0 hlen (wpAny_mono ((h _ s1).go τ _ (hd.set s2) (by rw [Map.set_or];exact r2)) (fun vs s₁ zq=>?_) fun _ _ e=>e)
 refine zk fun zz=>?_
 obtain ⟨m',σ',a,b,q⟩:=zq
 refine zz ?_;clear zz
 exact POK.goAs (Q':=Q) (g:=fun _=>Value.ref hp.objs.size) q τ s₁ a b
theorem P_pairNil {Y:Fly}{c:Cx}{X:Str→Map→Prop}{pos:Pos}{m:Loc}{σ:Map}{Q:List (Value × Value)→Loc→Map→Prop}(h:Q [] m σ):POK prog w G Y c (evalPairs (pairTrees [] [] c.env pos)) m σ Q X:=.of fun τ s hd hs=>pairTrees_nil_walk ⟨m,σ,hd,hs,h⟩
theorem jL {Y:Fly}{c:Cx}{X:Str→Map→Prop}{k v:PySem.Expr}{vs:List PySem.Expr}{pos:Pos}{m:Loc}{σ:Map}{ks:List (Option PySem.Expr)}{Q:List (Value × Value)→Loc→Map→Prop}(h:POK prog w G Y c (eval k c.env) m σ (fun kv m' σ'=>POK prog w G Y c (eval v c.env) m' σ' (fun vv m₂ σ₂=>POK prog w G Y c (evalPairs (pairTrees ks vs c.env pos)) m₂ σ₂ (fun r=>Q ((kv,vv) :: r)) X) X) X) :
 POK prog w G Y c (evalPairs (pairTrees (some k :: ks) (v :: vs) c.env pos)) m σ Q X:=.of fun τ s hd hs=>
 pairTrees_cons_walk (h.wp hd hs fun kv s₁ m₁ σ₁ a b q=>q.wp a b fun vv s₂ m₂ σ₂ a₂ b₂ q₂=>POK.goAs (Q':=Q) (g:=fun r=>(kv,vv) :: r) q₂ τ s₂ a₂ b₂)
theorem P_storeNil {D:Addr}{Q:PUnit→Loc→Map→Prop}(h:Q ⟨⟩ m σ):POK prog w G Y c (storeAll D []) m σ Q X:=POK.pure h
theorem jD {D:Addr}{kvs:List (Str × Value)}{k:Str}{t:Tok}{v:Value}{r:List (Value × Value)}{Q:PUnit→Loc→Map→Prop}(hx:σ D=some (.raw (sdP prog w D kvs))) (hz:kvs.length≤sizeLine)
 (h:POK prog w G Y c (storeAll D r) m (σ.set D (.raw (sdP prog w D (stored kvs k v)))) Q X):POK prog w G Y c (storeAll D ((.str k t,v) :: r)) m σ Q X:=.of fun τ s hd hs=>by
 have e:storeAll D ((.str k t,v) :: r)=(do dictSet D (.str k t) v;storeAll D r):=by
  unfold storeAll
  simp
 rw [e]
 refine St.on hs fun hp tk news own hs l=>?_
 refine zk fun zz=>?_
 obtain ⟨o,h1,h2,h3⟩:=l.rawAt (Map.or_some hx)
 refine zz ?_;clear zz
 refine wpAny_bind (wpAny_dictSet_pairs (hsz:=hz) (strKind_is' k t) (Heap.dictOf_iff.mpr ⟨o,(l.N _ h1).1,h3.2⟩) fun h' hmm hs=>?_)
 refine zk fun zz=>?_
 obtain ⟨o',ho',hd'⟩:=Heap.dictOf_iff.mp hmm
 refine zz ?_;clear zz
 refine h.go τ _ (hd.set (hd.none_of hx)) ?_
 rw [Map.set_or]
 exact St.ext l h1 h2 hs.extBut ho' ⟨h2,o',z8 h1,h3.1,hd'⟩ fun m z=>by rw [Map.or_some hx] at z;cases z
end
section
variable {Y:Fly}{c:Cx}{X:Str→Map→Prop}{m:Loc}{σ τ ρ:Map}
theorem P_tailSliceG {Y:Fly}{c:Cx}{X:Str→Map→Prop}{value:PySem.Expr}{lw up:Option PySem.Expr}{sp:Pos}{m:Loc}{σ:Map}{a sl:Addr}{xs:List Value}{vl vu:Value}{lo hi:Option Int}{Q:Value→Loc→Map→Prop}(hx:G.g.IsList a xs.toArray) (hsl:σ sl=some (.raw (jO vl vu))) (pl:IsPart vl lo) (pu:IsPart vu hi) (hz:xs.length≤sizeLine) (h:∀ D,σ D=none→Q (.ref D) m (σ.set D (.seq false (kms_pick xs lo hi)))) :
 POK prog w G Y c (subscriptTail value (.Slice lw up none sp) (.ref a) (.ref sl)) m σ Q X:=.of fun τ s hd hs'=>by
 refine St.on hs' fun hp tk news own hs' l=>?_
 have I:hp.IsList a xs.toArray:=by
  refine zk fun zz=>?_
  obtain ⟨o,ho,r⟩:=hx
  refine zz ?_;clear zz
  exact ⟨o,l.F.keep _ _ ho,r⟩
 refine zk fun zz=>?_
 obtain ⟨o,g1,g2,g3⟩:=l.rawAt (Map.or_some hsl)
 refine zz ?_;clear zz
 refine tail_any (s:=⟨hp,G.fix.gens,G.fix.drawn,tk,G.fix.os⟩) I.typeIs slot_list_getitem.lookup (wpAny_getItem_list_slice (s:=⟨hp,G.fix.gens,G.fix.drawn,tk,G.fix.os⟩) I ⟨o,(l.N _ g1).1,g3.1,g3.2⟩ pl pu .none (by simp) ?_ (by simpa using hz)) rfl
 have N1:=News.push l.F l.N { cls:=.type "list",data:=.seq (slicePick xs.toArray lo hi none) }
 rw [kms_pick_eq] at N1 ⊢
 refine zk fun zz=>?_
 obtain ⟨r1,r2⟩:=St.new (tk:=tk) (x:=some hp.objs.size) (ao:=.seq false (kms_pick xs lo hi)) l (l.F.push _) N1 (fun q hq=>l.news_lt hq) ⟨by simp,0,.head _⟩
 obtain ⟨s1,s2⟩:=Map.or_none r1
 refine zz ?_;clear zz
 exact ⟨m,_,hd.set s2,by rw [Map.set_or];exact r2,h _ s1⟩
end
section
variable {α:Type} [DecidableEq α]
noncomputable def drun (par:α→List α):Nat→List α→List (α × List α)→Option (Except α (List α))
 | _,line,[]=>some (.ok line)
 | 0,_,_ :: _=>none
 | n+1,line,(p,[]) :: st=>drun par n line st
 | n+1,line,(p,q :: r) :: st=>
  if q∈p :: st.map (·.1) then some (.error q)
  else if q∈line then drun par n line ((p,r) :: st)
  else drun par n (line ++ [q]) ((q,par q) :: (p,r) :: st)
noncomputable def dgo (par:α→List α):Nat→List α→α→List α→Except α (List α)
 | n,path,q,line=>if q∈path then .error q else if q∈line then .ok line else
  match n with
  | 0=>.ok line
  | n+1=>(par q).foldlM (fun l x=>dgo par n (q :: path) x l) (line ++ [q])
noncomputable def bl (par:α→List α):Nat→α→List α→List α
 | 0,_,seen=>seen
 | n+1,q,seen=>if q∈seen then seen else (par q).foldl (fun s x=>bl par n x s) (seen ++ [q])
variable {par:α→List α}{U:List α}
theorem dgo_0 {path line:List α}{q:α}:dgo par 0 path q line=if q∈path then .error q else if q∈line then .ok line else .ok line:=rfl
theorem dgo_s {n:Nat}{path line:List α}{q:α}:dgo par (n+1) path q line=if q∈path then .error q else if q∈line then .ok line else (par q).foldlM (fun l x=>dgo par n (q :: path) x l) (line ++ [q]):=rfl
theorem bl_0 {q:α}{s:List α}:bl par 0 q s=s:=rfl
theorem bl_s {n:Nat}{q:α}{s:List α}:bl par (n+1) q s=if q∈s then s else (par q).foldl (fun s x=>bl par n x s) (s ++ [q]):=rfl
theorem drun_nil {n:Nat}{line:List α}:drun par n line []=some (.ok line):=by cases n <;> rfl
theorem drun_0 {line:List α}{x:α × List α}{st:List (α × List α)}:drun par 0 line (x :: st)=none:=rfl
theorem drun_pop {n:Nat}{line:List α}{p:α}{st:List (α × List α)}:drun par (n+1) line ((p,[]) :: st)=drun par n line st:=rfl
theorem drun_step {n:Nat}{line r:List α}{p q:α}{st:List (α × List α)}:drun par (n+1) line ((p,q :: r) :: st)=if q∈p :: st.map (·.1) then some (.error q) else if q∈line then drun par n line ((p,r) :: st) else drun par n (line ++ [q]) ((q,par q) :: (p,r) :: st):=rfl
noncomputable def left (U seen:List α):Nat:=(U.filter fun x=>decide (x∉seen)).length
theorem left_mono {s t:List α}(h:∀ x∈s,x∈t):left U t≤left U s:=by
 unfold left
 induction U with
 | nil=>simp
 | cons u r ih=>
  rw [List.filter_cons,List.filter_cons]
  by_cases h1:u∈t
  ·by_cases h2:u∈s
   ·simpa [h1,h2] using ih
   ·simp only [h1,h2,not_true,not_false_iff,decide_true,decide_false,if_true,if_false,List.length_cons,Bool.false_eq_true];omega
  ·have h2:u∉s:=fun z=>h1 (h u z)
   simp only [h1,h2,not_false_iff,decide_true,if_true,List.length_cons];omega
theorem left_lt {s:List α}{q:α}(hq:q∈U) (hs:q∉s):left U (s ++ [q]) < left U s:=by
 unfold left
 induction U with
 | nil=>cases hq
 | cons u r ih=>
  rw [List.filter_cons,List.filter_cons]
  by_cases e:u=q
  ·subst e
   have h1:u∈s ++ [u]:=by simp
   simp only [h1,hs,not_true,not_false_iff,decide_true,decide_false,if_true,if_false,List.length_cons,Bool.false_eq_true]
   have:=left_mono (U:=r) (s:=s) (t:=s ++ [u]) fun x hx=>by simp [hx]
   unfold left at this
   omega
  ·have hq':q∈r:=by
    rcases List.mem_cons.mp hq with z | z
    ·exact absurd z.symm e
    ·exact z
   have ih:=ih hq'
   by_cases h1:u∈s
   ·have h2:u∈s ++ [q]:=by simp [h1]
    simpa [h1,h2] using ih
   ·have h2:u∉s ++ [q]:=by simp [h1,e]
    simp only [h1,h2,not_false_iff,decide_true,if_true,List.length_cons];omega
theorem foldlM_ok {β ε:Type}{f:β→α→Except ε β}:∀ {l:List α}{b b':β},l.foldlM f b = .ok b'→l=[]∧b=b'∨∃ x r b₁,l=x :: r∧f b x = .ok b₁∧r.foldlM f b₁ = .ok b'
 | [],b,b',h=>by
  rw [List.foldlM_nil] at h
  exact .inl ⟨rfl,Except.ok.inj h⟩
 | x :: r,b,b',h=>by
  rw [List.foldlM_cons] at h
  cases q:f b x with
  | error e=>rw [q] at h;cases h
  | ok b₁=>rw [q] at h;exact .inr ⟨x,r,b₁,rfl,q,h⟩
theorem dgo_grow {n:Nat}{path line line':List α}{q:α}(h:dgo par n path q line = .ok line'):(∀ x∈line,x∈line')∧(n≠0→q∈line'):=by
 induction n generalizing path line line' q with
 | zero=>
  (first | rw [dgo_s] at h | rw [dgo_0] at h)
  by_cases h1:q∈path
  ·rw [if_pos h1] at h;exact eo h
  ·rw [if_neg h1] at h
   refine ⟨?_,fun z=>absurd rfl z⟩
   by_cases h2:q∈line
   ·rw [if_pos h2] at h;exact Except.ok.inj h ▸ fun _ h=>h
   ·rw [if_neg h2] at h;exact Except.ok.inj h ▸ fun _ h=>h
 | succ n ih=>
  (first | rw [dgo_s] at h | rw [dgo_0] at h)
  by_cases h1:q∈path
  ·rw [if_pos h1] at h;exact eo h
  ·rw [if_neg h1] at h
   by_cases h2:q∈line
   ·rw [if_pos h2] at h
    have h:=Except.ok.inj h
    exact ⟨h ▸ fun _ h=>h,fun _=>h ▸ h2⟩
   ·rw [if_neg h2] at h
    have key:∀ (r:List α) (l l':List α),r.foldlM (fun l x=>dgo par n (q :: path) x l) l = .ok l'→∀ x∈l,x∈l':=by
     intro r
     induction r with
     | nil=>intro l l' h;exact Except.ok.inj h ▸ fun _ h=>h
     | cons x r ihr=>
      intro l l' h z hz
      rw [List.foldlM_cons] at h
      cases q1:dgo par n (q :: path) x l with
      | error e=>rw [q1] at h;exact eo h
      | ok b=>rw [q1] at h;exact ihr _ _ h z ((ih q1).1 z hz)
    have k:=key _ _ _ h
    exact ⟨fun x hx=>k x (List.mem_append_left _ hx),fun _=>k q (List.mem_append_right _ (.head _))⟩
theorem drun_dgo (hU:∀ x q,q∈par x→q∈U):∀ (n:Nat) (p:α) (rest:List α) (st:List (α × List α)) (line:List α),left U line < n→(∀ q∈rest,q∈U) →
 ∃ k,∀ m,drun par (k+m) line ((p,rest) :: st)=match rest.foldlM (fun l x=>dgo par n (p :: st.map (·.1)) x l) line with
  | .error q=>some (.error q)
  | .ok line'=>drun par m line' st:=by
 intro n
 induction n with
 | zero=>intro p rest st line h;omega
 | succ n ihn=>
  intro p rest
  induction rest with
  | nil=>
   intro st line _ _
   exact ⟨1,fun m=>by rw [Nat.add_comm];rfl⟩
  | cons q r ihr=>
   intro st line hl hr
   have hr':∀ x∈r,x∈U:=fun x hx=>hr x (.tail _ hx)
   by_cases h1:q∈p :: st.map (·.1)
   ·refine ⟨1,fun m=>?_⟩
    rw [Nat.add_comm,List.foldlM_cons]
    (first | rw [dgo_s] | rw [dgo_0])
    rw [if_pos h1]
    show (if q∈p :: st.map (·.1) then _ else _)=_
    rw [if_pos h1];rfl
   ·by_cases h2:q∈line
    ·obtain ⟨k,hk⟩:=ihr st line hl hr'
     refine ⟨k+1,fun m=>?_⟩
     have e:k+1+m=(k+m)+1:=by omega
     rw [e,List.foldlM_cons]
     show (if q∈p :: st.map (·.1) then _ else if q∈line then drun par (k+m) line ((p,r) :: st) else _)=_
     rw [if_neg h1,if_pos h2,hk m]
     have e2:dgo par (n+1) (p :: st.map (·.1)) q line = .ok line:=by (first | rw [dgo_s] | rw [dgo_0]);rw [if_neg h1,if_pos h2]
     rw [e2];rfl
    ·have hq:=hr q (.head _)
     have hlt:=left_lt hq h2
     obtain ⟨k₁,hk₁⟩:=ihn q (par q) ((p,r) :: st) (line ++ [q]) (by omega) (fun x hx=>hU _ _ hx)
     have e2:dgo par (n+1) (p :: st.map (·.1)) q line=(par q).foldlM (fun l x=>dgo par n (q :: p :: st.map (·.1)) x l) (line ++ [q]):=by
      (first | rw [dgo_s] | rw [dgo_0])
      rw [if_neg h1,if_neg h2]
     cases q1:(par q).foldlM (fun l x=>dgo par n (q :: p :: st.map (·.1)) x l) (line ++ [q]) with
     | error e=>
      refine ⟨k₁+1,fun m=>?_⟩
      have e':k₁+1+m=(k₁+m)+1:=by omega
      rw [e',List.foldlM_cons]
      show (if q∈p :: st.map (·.1) then _ else if q∈line then _ else drun par (k₁+m) (line ++ [q]) ((q,par q) :: (p,r) :: st))=_
      rw [if_neg h1,if_neg h2,hk₁ m,e2]
      simp only [List.map_cons]
      rw [q1];rfl
     | ok line₁=>
      have hg:∀ x∈line,x∈line₁:=fun x hx=>by
       rw [← e2] at q1
       exact (dgo_grow q1).1 x hx
      obtain ⟨k₂,hk₂⟩:=ihr st line₁ (Nat.lt_of_le_of_lt (left_mono hg) hl) hr'
      refine ⟨k₁+k₂+1,fun m=>?_⟩
      have e':k₁+k₂+1+m=(k₁+(k₂+m))+1:=by omega
      rw [e',List.foldlM_cons]
      show (if q∈p :: st.map (·.1) then _ else if q∈line then _ else drun par (k₁+(k₂+m)) (line ++ [q]) ((q,par q) :: (p,r) :: st))=_
      rw [if_neg h1,if_neg h2,hk₁ (k₂+m),e2]
      simp only [List.map_cons]
      rw [q1]
      exact hk₂ m
end
section
variable {α:Type} [DecidableEq α]
inductive Rch (par:α→List α) (a:α):α→Prop
 | refl:Rch par a a
 | tail {b c:α}:Rch par a b→c∈par b→Rch par a c
variable {par:α→List α}{U:List α}
theorem Rch.head {a c:α}(h:Rch par a c):a=c∨∃ b,b∈par a∧Rch par b c:=by
 induction h with
 | refl=>exact .inl rfl
 | tail h hc ih=>
  rename_i b d
  rcases ih with rfl | ⟨e,he,hr⟩
  ·exact .inr ⟨_,hc,.refl⟩
  ·exact .inr ⟨e,he,hr.tail hc⟩
theorem Rch.trans {a b c:α}(h:Rch par a b) (h':Rch par b c):Rch par a c:=by
 induction h' with
 | refl=>exact h
 | tail _ hc ih=>exact ih.tail hc
theorem Rch.step {a b c:α}(h:b∈par a) (h':Rch par b c):Rch par a c:=Rch.trans (Rch.refl.tail h) h'
noncomputable def Ring (par:α→List α) (p:α):Prop:=∃ x y,Rch par p x∧y∈par x∧Rch par y x
theorem acc_no_cycle {x:α}(h:Acc (fun a b=>a∈par b) x):∀ y,y∈par x→¬ Rch par y x:=by
 induction h with
 | intro x _ ih=>
  intro y hy hr
  rcases hr.head with e | ⟨z,hz,hzr⟩
  ·subst e;exact ih y hy y hy .refl
  ·exact ih y hy z hz (hzr.tail hy)
theorem acc_rch {p x:α}(h:Acc (fun a b=>a∈par b) p) (hr:Rch par p x):Acc (fun a b=>a∈par b) x:=by
 induction hr with
 | refl=>exact h
 | tail _ hc ih=>exact ih.inv hc
theorem acc_no_ring {p:α}(h:Acc (fun a b=>a∈par b) p):¬ Ring par p:=fun ⟨_,_,hx,hy,hr⟩=>acc_no_cycle (acc_rch h hx) _ hy hr
theorem dgo_error {p:α}:∀ {n:Nat}{path line:List α}{q e:α},dgo par n path q line = .error e→Rch par p q→(∀ z∈path,Rch par z q)→(q∈path→∃ x,Rch par p x∧q∈par x∧Rch par q x)→Ring par p:=by
 intro n
 induction n with
 | zero=>
  intro path line q e h hp hz hc
  (first | rw [dgo_s] at h | rw [dgo_0] at h)
  by_cases h1:q∈path
  ·obtain ⟨x,a,b,c⟩:=hc h1;exact ⟨x,q,a,b,c⟩
  ·rw [if_neg h1] at h
   by_cases h2:q∈line
   ·rw [if_pos h2] at h;cases h
   ·rw [if_neg h2] at h;cases h
 | succ n ih=>
  intro path line q e h hp hz hc
  (first | rw [dgo_s] at h | rw [dgo_0] at h)
  by_cases h1:q∈path
  ·obtain ⟨x,a,b,c⟩:=hc h1;exact ⟨x,q,a,b,c⟩
  ·rw [if_neg h1] at h
   by_cases h2:q∈line
   ·rw [if_pos h2] at h;cases h
   ·rw [if_neg h2] at h
    have key:∀ (r l:List α),(∀ y∈r,y∈par q)→r.foldlM (fun l x=>dgo par n (q :: path) x l) l = .error e→Ring par p:=by
     intro r
     induction r with
     | nil=>intro l _ h;rw [List.foldlM_nil] at h;cases h
     | cons y r ihr=>
      intro l hr h
      rw [List.foldlM_cons] at h
      have hy:=hr y (.head _)
      cases k:dgo par n (q :: path) y l with
      | error e'=>
       have hzz:∀ z∈q :: path,Rch par z q:=fun z hz'=>by
        rcases List.mem_cons.mp hz' with rfl | hz'
        ·exact .refl
        ·exact hz z hz'
       exact ih k (hp.tail hy) (fun z hz'=>(hzz z hz').tail hy) fun hyp=>⟨q,hp,hy,hzz y hyp⟩
      | ok l'=>rw [k] at h;exact ihr l' (fun z hz=>hr z (.tail _ hz)) h
    exact key _ _ (fun y hy=>hy) h
theorem dgo_bl:∀ {n:Nat}{path line line':List α}{q:α},dgo par n path q line = .ok line'→bl par n q line=line':=by
 intro n
 induction n with
 | zero=>
  intro path line line' q h
  (first | rw [dgo_s] at h | rw [dgo_0] at h)
  by_cases h1:q∈path
  ·rw [if_pos h1] at h;cases h
  ·rw [if_neg h1] at h
   by_cases h2:q∈line
   ·rw [if_pos h2] at h;cases h;rfl
   ·rw [if_neg h2] at h;cases h;rfl
 | succ n ih=>
  intro path line line' q h
  (first | rw [dgo_s] at h | rw [dgo_0] at h)
  by_cases h1:q∈path
  ·rw [if_pos h1] at h;cases h
  ·rw [if_neg h1] at h
   (first | rw [bl_s] | rw [bl_0])
   by_cases h2:q∈line
   ·rw [if_pos h2] at h;cases h;rw [if_pos h2]
   ·rw [if_neg h2] at h
    rw [if_neg h2]
    have key:∀ (r l l':List α),r.foldlM (fun l x=>dgo par n (q :: path) x l) l = .ok l'→r.foldl (fun s x=>bl par n x s) l=l':=by
     intro r
     induction r with
     | nil=>intro l l' h;rw [List.foldlM_nil] at h;cases h;rfl
     | cons y r ihr=>
      intro l l' h
      rcases foldlM_ok h with ⟨e,_⟩ | ⟨y',r',b₁,e,h3,h4⟩
      ·cases e
      ·cases e
       rw [List.foldl_cons,ih h3]
       exact ihr _ _ h4
    exact key _ _ _ h
theorem dgo_acc (hU:∀ x q,q∈par x→q∈U):∀ {n:Nat}{path line line':List α}{q:α},dgo par n path q line = .ok line'→q∈U→left U line < n→(∀ x∈line,x∉path→Acc (fun a b=>a∈par b) x) →
 ∀ x∈line',x∉path→Acc (fun a b=>a∈par b) x:=by
 intro n
 induction n with
 | zero=>intro path line line' q h _ hl;omega
 | succ n ih=>
  intro path line line' q h hq hl hf
  (first | rw [dgo_s] at h | rw [dgo_0] at h)
  by_cases h1:q∈path
  ·rw [if_pos h1] at h;cases h
  ·rw [if_neg h1] at h
   by_cases h2:q∈line
   ·rw [if_pos h2] at h;cases h;exact hf
   ·rw [if_neg h2] at h
    have hlt:=left_lt hq h2
    have key:∀ (r l l':List α),(∀ y∈r,y∈U)→left U l < n→(∀ x∈l,x∉q :: path→Acc (fun a b=>a∈par b) x)→r.foldlM (fun l x=>dgo par n (q :: path) x l) l = .ok l' →
     (∀ x∈l',x∉q :: path→Acc (fun a b=>a∈par b) x)∧(∀ x∈l,x∈l')∧∀ y∈r,y∈l'∧y∉q :: path:=by
     intro r
     induction r with
     | nil=>intro l l' _ _ hi h;rw [List.foldlM_nil] at h;cases h;exact ⟨hi,fun _ h=>h,fun y hy=>nomatch hy⟩
     | cons y r ihr=>
      intro l l' hr hn hi h
      rcases foldlM_ok h with ⟨e,_⟩ | ⟨y',r',b₁,e,h3,h4⟩
      ·cases e
      ·cases e
       have g:=dgo_grow h3
       have hyn:y∉q :: path:=fun z=>by
        cases n with
        | zero=>omega
        | succ n=>(first | rw [dgo_s] at h3 | rw [dgo_0] at h3);rw [if_pos z] at h3;cases h3
       have i1:=ih h3 (hr y (.head _)) hn hi
       refine zk fun zz=>?_
       obtain ⟨a,b,c⟩:=ihr b₁ l' (fun z hz=>hr z (.tail _ hz)) (Nat.lt_of_le_of_lt (left_mono g.1) hn) i1 h4
       refine zz ?_;clear zz
       refine ⟨a,fun x hx=>b x (g.1 x hx),fun z hz=>?_⟩
       rcases List.mem_cons.mp hz with rfl | hz
       ·exact ⟨b _ (g.2 (by omega)),hyn⟩
       ·exact c z hz
    obtain ⟨a,b,c⟩:=key _ _ _ (fun y hy=>hU _ _ hy) (by omega) (fun x hx hxp=>by
     rcases List.mem_append.mp hx with hx | hx
     ·exact hf x hx fun z=>hxp (.tail _ z)
     ·simp only [List.mem_singleton] at hx;exact absurd (by simp [hx]) hxp) h
    have hqa:Acc (fun a b=>a∈par b) q:=Acc.intro _ fun y hy=>a y (c y hy).1 (c y hy).2
    intro x hx hxp
    by_cases e:x=q
    ·rw [e];exact hqa
    ·exact a x hx fun z=>by
      rcases List.mem_cons.mp z with z | z
      ·exact e z
      ·exact hxp z
theorem bl_mem:∀ {n:Nat}{q:α}{seen:List α},(∀ x∈seen,x∈bl par n q seen)∧(n≠0→q∈bl par n q seen)∧∀ x∈bl par n q seen,x∈seen∨Rch par q x:=by
 intro n
 induction n with
 | zero=>exact fun {q seen}=>⟨fun _ h=>h,fun z=>absurd rfl z,fun _ h=>.inl h⟩
 | succ n ih=>
  intro q seen
  (first | rw [bl_s] | rw [bl_0])
  by_cases h2:q∈seen
  ·rw [if_pos h2];exact ⟨fun _ h=>h,fun _=>h2,fun _ h=>.inl h⟩
  ·rw [if_neg h2]
   have key:∀ (r l:List α),(∀ y∈r,y∈par q)→(∀ x∈l,x∈r.foldl (fun s x=>bl par n x s) l)∧∀ x∈r.foldl (fun s x=>bl par n x s) l,x∈l∨Rch par q x:=by
    intro r
    induction r with
    | nil=>exact fun l _=>⟨fun _ h=>h,fun _ h=>.inl h⟩
    | cons y r ihr=>
     intro l hr
     rw [List.foldl_cons]
     refine zk fun zz=>?_
     obtain ⟨a,b⟩:=ihr (bl par n y l) fun z hz=>hr z (.tail _ hz)
     obtain ⟨c,_,d⟩:=ih (q:=y) (seen:=l)
     refine zz ?_;clear zz
     refine ⟨fun x hx=>a x (c x hx),fun x hx=>?_⟩
     rcases b x hx with h | h
     ·rcases d x h with h | h
      ·exact .inl h
      ·exact .inr (.step (hr y (.head _)) h)
     ·exact .inr h
   obtain ⟨a,b⟩:=key (par q) (seen ++ [q]) fun y hy=>hy
   refine ⟨fun x hx=>a x (by simp [hx]),fun _=>a q (by simp),fun x hx=>?_⟩
   rcases b x hx with h | h
   ·rcases List.mem_append.mp h with h | h
    ·exact .inl h
    ·simp only [List.mem_singleton] at h;rw [h];exact .inr .refl
   ·exact .inr h
theorem bl_closed (hU:∀ x q,q∈par x→q∈U):∀ {n:Nat}{q:α}{seen:List α},q∈U→left U seen < n→∀ x∈bl par n q seen,x∉seen→∀ y∈par x,y∈bl par n q seen:=by
 intro n
 induction n with
 | zero=>intro q seen _ hl;omega
 | succ n ih=>
  intro q seen hq hl
  (first | rw [bl_s] | rw [bl_0])
  by_cases h2:q∈seen
  ·rw [if_pos h2];exact fun x hx hn=>absurd hx hn
  ·rw [if_neg h2]
   have hlt:=left_lt hq h2
   have key:∀ (r l:List α),(∀ y∈r,y∈U)→left U l < n→(∀ x∈r.foldl (fun s x=>bl par n x s) l,x∉l→∀ y∈par x,y∈r.foldl (fun s x=>bl par n x s) l)∧(∀ x∈l,x∈r.foldl (fun s x=>bl par n x s) l)∧∀ y∈r,y∈r.foldl (fun s x=>bl par n x s) l:=by
    intro r
    induction r with
    | nil=>exact fun l _ _=>⟨fun x hx hn=>absurd hx hn,fun _ h=>h,fun y hy=>nomatch hy⟩
    | cons z r ihr=>
     intro l hr hn
     rw [List.foldl_cons]
     have hm:=bl_mem (par:=par) (n:=n) (q:=z) (seen:=l)
     have hl':left U (bl par n z l) < n:=Nat.lt_of_le_of_lt (left_mono hm.1) hn
     refine zk fun zz=>?_
     obtain ⟨a,b,c⟩:=ihr (bl par n z l) (fun y hy=>hr y (.tail _ hy)) hl'
     refine zz ?_;clear zz
     refine ⟨fun x hx hxl y hy=>?_,fun x hx=>b x (hm.1 x hx),fun y hy=>?_⟩
     ·by_cases hx':x∈bl par n z l
      ·exact b y (ih (hr z (.head _)) hn x hx' hxl y hy)
      ·exact a x hx hx' y hy
     ·rcases List.mem_cons.mp hy with rfl | hy
      ·exact b _ (hm.2.1 (by omega))
      ·exact c y hy
   refine zk fun zz=>?_
   obtain ⟨a,b,c⟩:=key (par q) (seen ++ [q]) (fun y hy=>hU _ _ hy) (by omega)
   refine zz ?_;clear zz
   intro x hx hxs y hy
   by_cases e:x=q
   ·subst e;exact c y hy
   ·exact a x hx (by simp [hxs,e]) y hy
theorem bl_rch (hU:∀ x q,q∈par x→q∈U) {n:Nat}{p x:α}(hp:p∈U) (hn:U.length < n):x∈bl par n p []↔Rch par p x:=by
 have hl:left U ([]:List α) < n:=Nat.lt_of_le_of_lt (List.length_filter_le _ _) hn
 have hm:=bl_mem (par:=par) (n:=n) (q:=p) (seen:=[])
 refine ⟨fun h=>(hm.2.2 x h).resolve_left (fun z=>nomatch z),fun h=>?_⟩
 induction h with
 | refl=>exact hm.2.1 (by omega)
 | tail _ hc ih=>exact bl_closed hU hp hl _ ih (fun z=>nomatch z) _ hc
theorem bl_nodup:∀ {n:Nat}{q:α}{seen:List α},seen.Nodup→(bl par n q seen).Nodup:=by
 intro n
 induction n with
 | zero=>exact fun h=>h
 | succ n ih=>
  intro q seen h
  (first | rw [bl_s] | rw [bl_0])
  by_cases h2:q∈seen
  ·rw [if_pos h2];exact h
  ·rw [if_neg h2]
   have key:∀ (r l:List α),l.Nodup→(r.foldl (fun s x=>bl par n x s) l).Nodup:=by
    intro r
    induction r with
    | nil=>exact fun _ h=>h
    | cons z r ihr=>intro l hl;rw [List.foldl_cons];exact ihr _ (ih hl)
   refine key _ _ (List.nodup_append.mpr ⟨h,by simp,fun a ha b hb=>?_⟩)
   simp only [List.mem_singleton] at hb
   exact fun z=>h2 (by rw [← hb,← z];exact ha)
theorem bl_prefix:∀ {n:Nat}{q:α}{seen:List α},∃ t,bl par n q seen=seen ++ t∧∀ x∈t,Rch par q x:=by
 intro n
 induction n with
 | zero=>exact fun {q seen}=>⟨[],by simp [bl],fun _ h=>nomatch h⟩
 | succ n ih=>
  intro q seen
  (first | rw [bl_s] | rw [bl_0])
  by_cases h2:q∈seen
  ·rw [if_pos h2];exact ⟨[],by simp,fun _ h=>nomatch h⟩
  ·rw [if_neg h2]
   have key:∀ (r l:List α),(∀ y∈r,y∈par q)→∃ t,r.foldl (fun s x=>bl par n x s) l=l ++ t∧∀ x∈t,Rch par q x:=by
    intro r
    induction r with
    | nil=>exact fun l _=>⟨[],by simp,fun _ h=>nomatch h⟩
    | cons z r ihr=>
     intro l hr
     rw [List.foldl_cons]
     refine zk fun zz=>?_
     obtain ⟨t,ht,h1⟩:=ih (q:=z) (seen:=l)
     obtain ⟨t',ht',h2⟩:=ihr (bl par n z l) fun y hy=>hr y (.tail _ hy)
     refine zz ?_;clear zz
     refine ⟨t ++ t',by rw [ht',ht,List.append_assoc],fun x hx=>?_⟩
     rcases List.mem_append.mp hx with hx | hx
     ·exact .step (hr z (.head _)) (h1 x hx)
     ·exact h2 x hx
   refine zk fun zz=>?_
   obtain ⟨t,ht,h1⟩:=key (par q) (seen ++ [q]) fun y hy=>hy
   refine zz ?_;clear zz
   refine ⟨[q] ++ t,by rw [ht,List.append_assoc],fun x hx=>?_⟩
   rcases List.mem_append.mp hx with hx | hx
   ·simp only [List.mem_singleton] at hx;rw [hx];exact .refl
   ·exact h1 x hx
noncomputable def out (s u:List α):List α:=u.filter fun x=>decide (x∉s)
theorem out_snoc {s u:List α}{q:α}(h:q∉s):out s (u ++ [q])=out s u ++ [q]:=by unfold out;simp [List.filter_append,h]
theorem mem_out {s u:List α}{q:α}:q∈out s u↔q∈u∧q∉s:=by unfold out;simp
theorem bl_out {s:List α}(hs:∀ x∈s,∀ y∈par x,y∈s):∀ {n:Nat}{q:α}{u:List α},bl par n q (s ++ out s u)=s ++ out s (bl par n q u):=by
 have hcl:∀ {q x:α},q∈s→Rch par q x→x∈s:=fun hq hr=>by
  induction hr with
  | refl=>exact hq
  | tail _ hc ih=>exact hs _ ih _ hc
 intro n
 induction n with
 | zero=>exact fun {q u}=>rfl
 | succ n ih=>
  intro q u
  by_cases h1:q∈u
  ·have h2:q∈s ++ out s u:=by
    by_cases h3:q∈s
    ·simp [h3]
    ·exact List.mem_append.mpr (.inr (mem_out.mpr ⟨h1,h3⟩))
   rw [bl_s,bl_s]
   rw [if_pos h1,if_pos h2]
  ·by_cases h3:q∈s
   ·have h2:q∈s ++ out s u:=by simp [h3]
    have e1:bl par (n+1) q (s ++ out s u)=s ++ out s u:=by (first | rw [bl_s] | rw [bl_0]);rw [if_pos h2]
    refine zk fun zz=>?_
    obtain ⟨t,ht,hrt⟩:=bl_prefix (par:=par) (n:=n+1) (q:=q) (seen:=u)
    refine zz ?_;clear zz
    have e2:out s t=[]:=by
     unfold out
     rw [List.filter_eq_nil_iff]
     intro x hx
     simp [hcl h3 (hrt x hx)]
    rw [e1,ht]
    unfold out at e2 ⊢
    rw [List.filter_append,e2,List.append_nil]
   ·have h2:q∉s ++ out s u:=by simp [h3,mem_out,h1]
    rw [bl_s,bl_s]
    rw [if_neg h1,if_neg h2,List.append_assoc,← out_snoc h3]
    have key:∀ (r l:List α),r.foldl (fun s x=>bl par n x s) (s ++ out s l)=s ++ out s (r.foldl (fun s x=>bl par n x s) l):=by
     intro r
     induction r with
     | nil=>exact fun _=>rfl
     | cons z r ihr=>intro l;rw [List.foldl_cons,List.foldl_cons,ih,ihr]
    exact key _ _
noncomputable def rings (par:α→List α) (n:Nat) (p:α):Bool:=(bl par n p []).any fun one=>(par one).any fun q=>decide (one∈bl par n q [])
theorem rings_iff (hU:∀ x q,q∈par x→q∈U) {n:Nat}{p:α}(hp:p∈U) (hn:U.length < n):rings par n p=true↔Ring par p:=by
 unfold rings Ring
 simp only [List.any_eq_true,decide_eq_true_eq]
 constructor
 ·rintro ⟨x,hx,y,hy,hr⟩
  exact ⟨x,y,(bl_rch hU hp hn).mp hx,hy,(bl_rch hU (hU _ _ hy) hn).mp hr⟩
 ·rintro ⟨x,y,hx,hy,hr⟩
  exact ⟨x,(bl_rch hU hp hn).mpr hx,y,hy,(bl_rch hU (hU _ _ hy) hn).mpr hr⟩
noncomputable def jX (par:α→List α) (n:Nat) (p:α):Except α (List α):=dgo par n [] p []
theorem lineOf_spec (hU:∀ x q,q∈par x→q∈U) {n:Nat}{p:α}(hp:p∈U) (hn:U.length < n) :
 match jX par n p with
 | .ok l=>l=bl par n p []∧rings par n p=false
 | .error _=>rings par n p=true:=by
 have hl:left U ([]:List α) < n:=Nat.lt_of_le_of_lt (List.length_filter_le _ _) hn
 cases h:jX par n p with
 | ok l=>
  refine ⟨(dgo_bl h).symm,?_⟩
  cases q:rings par n p with
  | false=>rfl
  | true=>
   have hr:=(rings_iff hU hp hn).mp q
   have ha:=dgo_acc hU h hp hl (fun x hx=>nomatch hx) p ((dgo_grow h).2 (by omega)) (fun z=>nomatch z)
   exact absurd hr (acc_no_ring ha)
 | error e=>exact (rings_iff hU hp hn).mpr (dgo_error h .refl (fun z hz=>nomatch hz) fun z=>nomatch z)
theorem lineOf_run (hU:∀ x q,q∈par x→q∈U) {n:Nat}{p:α}(hp:p∈U) (hn:U.length < n+1):∃ k,drun par k [p] [(p,par p)]=some (jX par (n+1) p):=by
 have hl:left U [p] < n:=by
  have:=left_lt (s:=[]) hp (fun z=>nomatch z)
  have h2:left U ([]:List α)≤U.length:=List.length_filter_le _ _
  have e:([]:List α) ++ [p]=[p]:=rfl
  rw [e] at this
  omega
 obtain ⟨k,hk⟩:=drun_dgo hU n p (par p) [] [p] hl (fun x hx=>hU _ _ hx)
 refine ⟨k,?_⟩
 have:=hk 0
 rw [Nat.add_zero] at this
 rw [this]
 have e:jX par (n+1) p=(par p).foldlM (fun l x=>dgo par n [p] x l) [p]:=by
  show dgo par (n+1) [] p []=_
  (first | rw [dgo_s] | rw [dgo_0])
  rw [if_neg (fun z=>nomatch z),if_neg (fun z=>nomatch z)]
  rfl
 rw [e]
 show (match (par p).foldlM (fun l x=>dgo par n [p] x l) [p] with | Except.error q=>some (Except.error q) | Except.ok line'=>drun par 0 line' [])=_
 cases (par p).foldlM (fun l x=>dgo par n [p] x l) [p] with
 | error q=>rfl
 | ok l=>exact drun_nil
theorem bl_whole (hU:∀ x q,q∈par x→q∈U) {n:Nat}{p u:α}(hp:p∈U) (hn:U.length < n):bl par n u (bl par n p [])=bl par n p [] ++ out (bl par n p []) (bl par n u []):=by
 have hl:left U ([]:List α) < n:=Nat.lt_of_le_of_lt (List.length_filter_le _ _) hn
 have:=bl_out (par:=par) (s:=bl par n p []) (fun x hx y hy=>bl_closed hU hp hl x hx (fun z=>nomatch z) y hy) (n:=n) (q:=u) (u:=[])
 simpa [out] using this
theorem merge_out {l s:List α}(h:l.Nodup) (_:∀ x∈l,x∉s→True):l.foldl (fun s x=>if x∈s then s else s ++ [x]) s=s ++ out s l:=by
 induction l generalizing s with
 | nil=>exact (List.append_nil s).symm
 | cons x l ih=>
  have h:=List.nodup_cons.mp h
  rw [List.foldl_cons]
  by_cases hx:x∈s
  ·rw [if_pos hx,ih h.2 (fun _ _ _=>trivial)]
   unfold out;simp [hx]
  ·rw [if_neg hx,ih h.2 (fun _ _ _=>trivial)]
   have e:out (s ++ [x]) l=out s l:=by
    unfold out
    refine List.filter_congr fun y hy=>?_
    have:y≠x:=fun z=>h.1 (by rw [← z];exact hy)
    simp [this]
   rw [e]
   unfold out;simp [hx]
end
noncomputable abbrev KK (w:World):Frag:=tops.heap_1 w.params
noncomputable def Upd (F:Addr→Prop) (σ σ':Map):Prop:=∀ a ao,σ a=some ao→¬ F a→σ' a=some ao
theorem Upd.refl {F:Addr→Prop}{σ:Map}:Upd F σ σ:=fun _ _ h _=>h
theorem Upd.set_in {F:Addr→Prop}{σ σ':Map}{a:Addr}{ao:AO}(u:Upd F σ σ') (h:F a):Upd F σ (σ'.set a ao):=fun b bo hb hF=>by
 rw [Map.set_ne fun z=>hF (by rw [z];exact h)];exact u b bo hb hF
theorem Upd.set_new {F:Addr→Prop}{σ σ':Map}{a:Addr}{ao:AO}(u:Upd F σ σ') (h:σ' a=none):Upd F σ (σ'.set a ao):=fun b bo hb hF=>by
 have:=u b bo hb hF
 rw [Map.set_ne fun z=>by rw [z,h] at this;cases this];exact this
theorem Upd.trans {F:Addr→Prop}{σ σ' σ'':Map}(u:Upd F σ σ') (v:Upd F σ' σ''):Upd F σ σ'':=fun b bo hb hF=>v b bo (u b bo hb hF) hF
theorem Upd.mono {F F':Addr→Prop}{σ σ':Map}(u:Upd F σ σ') (h:∀ a,F a→F' a):Upd F' σ σ':=fun b bo hb hF=>u b bo hb fun z=>hF (h _ z)
theorem Map.set_other {σ:Map}{a b:Addr}{ao bo:AO}(h:σ b=some bo) (hne:b≠a):σ.set a ao b=some bo:=(Map.set_ne hne).trans h
theorem lek {a b:Nat}(h:Nat.ble a b=true):a≤b:=Nat.le_of_ble_eq_true h
theorem ju {σ:Map}{a C:Addr}{fs fs':List (Str × Value)}(h:fs=fs'):σ.set a (.inst C fs) a=some (.inst C fs'):=by rw [Map.set_self,h]
noncomputable def Rm (A:Around) (n:Nat):Prop:=A.depth+2 * n < recursionLimit∧A.units+40 * n < cLine∧A.handled=none
theorem Rm.under {A:Around}{n:Nat}{C:Addr}{vs:List Value}(h:Rm A (n+1)):Rm (A.under (.builtin "type.__call__" ⟨.ref C :: vs,[]⟩)) n:=by
 refine zk fun zz=>?_
 obtain ⟨h1,h2,h3⟩:=h
 refine zz ?_;clear zz
 have e2:(A.under (.builtin "type.__call__" ⟨.ref C :: vs,[]⟩)).units=A.units+1:=rfl
 have e1:(A.under (.builtin "type.__call__" ⟨.ref C :: vs,[]⟩)).depth≤A.depth+1:=by
  rw [depth_under_make];omega
 exact ⟨by omega,by rw [e2];omega,h3⟩
theorem Rm.le {A:Around}{n k:Nat}(h:Rm A n) (hk:k≤n):Rm A k:=by
 refine zk fun zz=>?_
 obtain ⟨h1,h2,h3⟩:=h
 refine zz ?_;clear zz
 exact ⟨by omega,by omega,h3⟩
section
variable {Y:Fly}{c:Cx}{X:Str→Map→Prop}{m:Loc}{σ τ:Map}
theorem C_fnR {A:Around}{n:Nat}{name qual:Str}{params:Arguments}{body:List Stmt}{scope:Scope}{dV kV doc pm cdv ct oc:Value}{an od:Option Addr}{osl:Array (Option Value)}{f:Addr}{args:Args}{binds:List (Str × Value)}
 {Q:Value→Loc→Map→Prop} (hY:Fly.Leaves prog w G Y) (hA:A.frames=some c.fr) (hR:Rm A (n+1))
 (ho:(tops.heap_1 w.params).lookup f=some ⟨oc,od,.func (fnOf name qual params body scope dV kV doc pm an cdv ct),osl⟩) (hcd:codeIn (tops.heap_1 w.params) cdv qual=true)
 (hbind:∀ s:Shared,(tops.heap_1 w.params).In s.heap→BindsTo s (fnOf name qual params body scope dV kV doc pm an cdv ct) args binds) (hloc:∀ y∈binds,scope.names.lookup y.1=some .local) (hk:scope.kind = .function)
 (hco:scope.isCoroutine=false) (hgen:scope.isGenerator=false) (hcell:∀ x∈scope.names,x.2≠.cell)
 (h:∀ d:Dyn,Rm (cxOf qual scope f cdv hk d).A n→POK prog w G Y (cxOf qual scope f cdv hk d) (execs body (cxOf qual scope f cdv hk d).env) (fun y=>binds.reverse.lookup y) σ
  (fun fl _ σ'=>Q (match fl with | .ret v=>v | _=>.none) m σ') X):COK prog w G Y c A (.ref f) args m σ Q X:=
 C_fn hY hA ho hcd (by have:=hR.1;omega) hbind hloc hk (fun d hd1 hd2 hd3=>h d ⟨by
  have:=hR.1
  show d.dp+2 * n < _
  omega,by
  have:=hR.2.1
  show d.un+40 * n < _
  omega,hd3.trans hR.2.2⟩) hco hgen hcell
@[reducible] noncomputable def BackQ (Q:Value→Loc→Map→Prop) (m:Loc):Flow→Loc→Map→Prop:=fun fl _ σ'=>Q (match fl with | .ret v=>v | _=>.none) m σ'
inductive Zp:List Arg→List Value→List (Str × Value)→Prop
 | nil:Zp [] [] []
 | cons {a:Str} {an:Option PySem.Expr} {ps:Pos} {l:List Arg} {vs:List Value} {b:List (Str × Value)} {v:Value}:Zp l vs b→Zp (⟨a,an,ps⟩ :: l) (v :: vs) ((a,v) :: b)
noncomputable def locL (bs:List (Str × Value)):Loc:=fun y=>bs.reverse.lookup y
theorem C_fnZ {A:Around}{n:Nat}{name qual:Str}{params:Arguments}{body:List Stmt}{scope:Scope}{dV kV doc pm cdv ct oc:Value}{an od:Option Addr}{osl:Array (Option Value)}{f:Addr}{args:Args}{binds:List (Str × Value)}
 {Q:Value→Loc→Map→Prop} (hY:Fly.Leaves prog w G Y) (hA:A.frames=some c.fr) (hR:Rm A (n+1))
 (ho:(tops.heap_1 w.params).lookup f=some ⟨oc,od,.func (fnOf name qual params body scope dV kV doc pm an cdv ct),osl⟩) (hcd:codeIn (tops.heap_1 w.params) cdv qual=true) (hz:Zp params.args args.pos binds)
 (hbind:∀ s:Shared,(tops.heap_1 w.params).In s.heap→BindsTo s (fnOf name qual params body scope dV kV doc pm an cdv ct) args binds) (hloc:∀ y∈binds,scope.names.lookup y.1=some .local) (hk:scope.kind = .function)
 (hco:scope.isCoroutine=false) (hgen:scope.isGenerator=false) (hcell:∀ x∈scope.names,x.2≠.cell)
 (h:∀ d:Dyn,Rm (cxOf qual scope f cdv hk d).A n→POK prog w G Y (cxOf qual scope f cdv hk d) (execs body (cxOf qual scope f cdv hk d).env) (locL binds) σ
  (BackQ Q m) X):COK prog w G Y c A (.ref f) args m σ Q X:=
 C_fnR hY hA hR ho hcd hbind hloc hk hco hgen hcell h
end
noncomputable def thingF (n k bl:Value) (wk:Addr):List (Str × Value):=[("number",n),("count",k),("blessed",bl),("weak",.ref wk),("is_destroyed",.bool false),("is_freed",.bool false)]
noncomputable def scalarF (n k:Value) (wk:Addr) (v:Value):List (Str × Value):=[("number",n),("count",k),("blessed",.none),("weak",.ref wk),("is_destroyed",.bool false),("is_freed",.bool false),("value",v),("magic",.none)]
noncomputable def arrayF (n k bl:Value) (wk l:Addr):List (Str × Value):=[("number",n),("count",k),("blessed",bl),("weak",.ref wk),("is_destroyed",.bool false),("is_freed",.bool false),("items",.ref l),("tied",.none)]
noncomputable def codeF (n k:Value) (wk:Addr) (sub cap bi:Value) (t:Tok):List (Str × Value):=[("number",n),("count",k),("blessed",.none),("weak",.ref wk),("is_destroyed",.bool false),("is_freed",.bool false),("sub",sub),("captures",cap),("builtin",bi),("package",.str "main" t)]
noncomputable def globF (n k:Value) (wk:Addr) (name sc ar co:Value):List (Str × Value):=[("number",n),("count",k),("blessed",.none),("weak",.ref wk),("is_destroyed",.bool false),("is_freed",.bool false),("name",name),("scalar",sc),("array",ar),("hash",.none),("code",co)]
noncomputable def heapF (lim n:Value) (z:Addr):List (Str × Value):=[("limits",lim),("last",n),("zero",.ref z)]
noncomputable def sixOk (K:Frag) (C:Addr):Bool:=storeOk' K C "number" && storeOk' K C "count" && storeOk' K C "blessed" && storeOk' K C "weak" && storeOk' K C "is_destroyed" && storeOk' K C "is_freed"
local macro_rules | `(tactic| walk_at "upd")=>`(tactic| repeat (first | exact Upd.refl | refine Upd.set_in ?_ rfl | refine Upd.set_new ?_ (by assumption)))
local macro_rules | `(tactic| walk_at "fn")=>`(tactic| refine C_fnZ (by assumption) (by assumption) (by assumption) (by k_is) (by k_is) (by first | exact .nil | exact .cons .nil | exact .cons (.cons .nil) | exact .cons (.cons (.cons .nil)) | exact .cons (.cons (.cons (.cons .nil))) | exact .cons (.cons (.cons (.cons (.cons .nil)))) | exact .cons (.cons (.cons (.cons (.cons (.cons .nil)))))) (by exact fun s _=>BindsTo.of_eq rfl) (by exact locs rfl) (by rfl) (by rfl) (by rfl) (by decide) ?_)
section
variable {c:Cx}{X:Str→Map→Prop}{m:Loc}{σ τ:Map}
theorem spec_Thing {A:Around}{n:Nat}(hY:Fly.Leaves prog w G (zg G 336)) (hA:A.frames=some c.fr) (hR:Rm A (n+1)) {x C:Addr}{num:Value}{Q:Value→Loc→Map→Prop}
 (hx:σ x=some (.inst C [])) (hC:sixOk (KK w) C=true)
 (hQ:∀ σ' t wk,Upd (fun a=>a=x) σ σ'→σ' x=some (.inst C (thingF num (.int 0 t) .none wk))→Q .none m σ'):COK prog w G (zg G 336) c A (.ref 63) ⟨[.ref x,num],[]⟩ m σ Q X:=by
 walk_at "fn"
 intro d hR'
 simp only [sixOk,Bool.and_eq_true] at hC
 refine zk fun zz=>?_
 obtain ⟨⟨⟨⟨⟨c1,c2⟩,c3⟩,c4⟩,c5⟩,c6⟩:=hC
 refine zz ?_;clear zz
 refine ze (zi (zb rfl (zb rfl (zn hx c1 (lek (by kernel_rfl)) ?_))))
 refine ze (zi (zD fun t=>zb rfl (zn Map.set_self c2 (lek (by kernel_rfl)) ?_)))
 refine ze (zi (zA (zb rfl (zn Map.set_self c3 (lek (by kernel_rfl)) ?_))))
 refine ze (zi (z9 (zc (zF fun wk h0=>zb rfl (zn (Map.set_new h0 Map.set_self) c4 (lek (by kernel_rfl)) ?_)))))
 refine ze (zi (P_boolC (zb rfl (zn Map.set_self c5 (lek (by kernel_rfl)) ?_))))
 refine ze (zi (P_boolC (zb rfl (zn Map.set_self c6 (lek (by kernel_rfl)) ?_))))
 refine zy (hQ _ t wk ?_ (ju (by kernel_rfl)))
 walk_at "upd"
local macro_rules | `(tactic| walk_at "thing")=>`(tactic| refine ze (jt (zI (zh (by k_is) (P_clsMeth (mc:=.type "type") (by kernel_rfl) (by kernel_rfl) (by kernel_rfl) rfl (by kernel_rfl) (zf (by kernel_rfl) (za (zb rfl (za (zb rfl (zc (COK.call
 (spec_Thing (by assumption) rfl (by assumption) (by assumption) (by kernel_rfl) ?_)))))))))))))
theorem spec_Scalar {A:Around}{n:Nat}(hY:Fly.Leaves prog w G (zg G 336)) (hA:A.frames=some c.fr) (hR:Rm A (n+2)) {x:Addr}{num v:Value}{Q:Value→Loc→Map→Prop}
 (hx:σ x=some (.inst 87 [])) (hQ:∀ σ' t wk,Upd (fun a=>a=x) σ σ'→σ' x=some (.inst 87 (scalarF num (.int 0 t) wk v))→Q .none m σ'):COK prog w G (zg G 336) c A (.ref 84) ⟨[.ref x,num,v],[]⟩ m σ Q X:=by
 walk_at "fn"
 intro d hR'
 walk_at "thing"
 intro σ' t wk hu hs
 refine ze (zi (zb rfl (zb rfl (zn hs (by kernel_rfl) (lek (by kernel_rfl)) ?_))))
 refine ze (zi (zA (zb rfl (zn Map.set_self (by kernel_rfl) (lek (by kernel_rfl)) ?_))))
 refine zy (hQ _ t wk ?_ (ju (by kernel_rfl)))
 exact (hu.set_in rfl).set_in rfl
theorem spec_Array {A:Around}{n:Nat}(hY:Fly.Leaves prog w G (zg G 336)) (hA:A.frames=some c.fr) (hR:Rm A (n+2)) {x:Addr}{num:Value}{Q:Value→Loc→Map→Prop}
 (hx:σ x=some (.inst 106 [])) (hQ:∀ σ' t wk l,Upd (fun a=>a=x) σ σ'→σ' x=some (.inst 106 (arrayF num (.int 0 t) .none wk l))→σ l=none→l≠x→σ' l=some (.seq false [])→Q .none m σ'):COK prog w G (zg G 336) c A (.ref 103) ⟨[.ref x,num],[]⟩ m σ Q X:=by
 walk_at "fn"
 intro d hR'
 walk_at "thing"
 intro σ' t wk hu hs
 refine ze (zi (z9 (zc (zF fun l h0=>zb rfl (zn (Map.set_new h0 hs) (by kernel_rfl) (lek (by kernel_rfl)) ?_)))))
 refine ze (zi (zA (zb rfl (zn Map.set_self (by kernel_rfl) (lek (by kernel_rfl)) ?_))))
 have hne:l≠x:=fun z=>by rw [z,hs] at h0;cases h0
 have hl:σ l=none:=by
  cases q:σ l with
  | none=>rfl
  | some ao=>have:=hu l ao q hne;rw [h0] at this;cases this
 refine zy (hQ _ t wk l ?_ (ju (by kernel_rfl)) hl hne ?_)
 ·exact ((hu.set_new h0).set_in rfl).set_in rfl
 ·exact Map.set_other (Map.set_other Map.set_self hne) hne
theorem spec_Code {A:Around}{n:Nat}(hY:Fly.Leaves prog w G (zg G 336)) (hA:A.frames=some c.fr) (hR:Rm A (n+2)) {x:Addr}{num sub cap:Value}{Q:Value→Loc→Map→Prop}
 (hx:σ x=some (.inst 144 [])) (hQ:∀ σ' t t' wk,Upd (fun a=>a=x) σ σ'→σ' x=some (.inst 144 (codeF num (.int 0 t) wk sub cap .none t'))→Q .none m σ'):COK prog w G (zg G 336) c A (.ref 141) ⟨[.ref x,num,sub,cap],[]⟩ m σ Q X:=by
 walk_at "fn"
 intro d hR'
 walk_at "thing"
 intro σ' t wk hu hs
 refine ze (zi (zb rfl (zb rfl (zn hs (by kernel_rfl) (lek (by kernel_rfl)) ?_))))
 refine ze (zi (zb rfl (zb rfl (zn Map.set_self (by kernel_rfl) (lek (by kernel_rfl)) ?_))))
 refine ze (zi (zA (zb rfl (zn Map.set_self (by kernel_rfl) (lek (by kernel_rfl)) ?_))))
 refine ze (zi (zo fun t'=>zb rfl (zn Map.set_self (by kernel_rfl) (lek (by kernel_rfl)) ?_)))
 refine zy (hQ _ t t' wk ?_ (ju (by kernel_rfl)))
 exact (((hu.set_in rfl).set_in rfl).set_in rfl).set_in rfl
theorem spec_Glob {A:Around}{n:Nat}(hY:Fly.Leaves prog w G (zg G 336)) (hA:A.frames=some c.fr) (hR:Rm A (n+2)) {x:Addr}{num nm:Value}{Q:Value→Loc→Map→Prop}
 (hx:σ x=some (.inst 163 [])) (hQ:∀ σ' t wk,Upd (fun a=>a=x) σ σ'→σ' x=some (.inst 163 (globF num (.int 0 t) wk nm .none .none .none))→Q .none m σ'):COK prog w G (zg G 336) c A (.ref 160) ⟨[.ref x,num,nm],[]⟩ m σ Q X:=by
 walk_at "fn"
 intro d hR'
 walk_at "thing"
 intro σ' t wk hu hs
 refine ze (zi (zb rfl (zb rfl (zn hs (by kernel_rfl) (lek (by kernel_rfl)) ?_))))
 refine ze (zi (zA (zb rfl (zn Map.set_self (by kernel_rfl) (lek (by kernel_rfl)) ?_))))
 refine ze (zi (zA (zb rfl (zn Map.set_self (by kernel_rfl) (lek (by kernel_rfl)) ?_))))
 refine ze (zi (zA (zb rfl (zn Map.set_self (by kernel_rfl) (lek (by kernel_rfl)) ?_))))
 refine ze (zi (zA (zb rfl (zn Map.set_self (by kernel_rfl) (lek (by kernel_rfl)) ?_))))
 refine zy (hQ _ t wk ?_ (ju (by kernel_rfl)))
 exact ((((hu.set_in rfl).set_in rfl).set_in rfl).set_in rfl).set_in rfl
noncomputable def refF (target:Value):List (Str × Value):=[("target",target),("is_weak",.bool false)]
theorem spec_Ref {A:Around}{n:Nat}(hY:Fly.Leaves prog w G (zg G 336)) (hA:A.frames=some c.fr) (hR:Rm A (n+1)) {x:Addr}{tg:Value}{Q:Value→Loc→Map→Prop}
 (hx:σ x=some (.inst 183 [])) (hQ:∀ σ',Upd (fun a=>a=x) σ σ'→σ' x=some (.inst 183 (refF tg))→Q .none m σ'):COK prog w G (zg G 336) c A (.ref 180) ⟨[.ref x,tg],[]⟩ m σ Q X:=by
 refine C_fnR hY hA hR (by k_is) (by k_is) (by exact fun s X=>binds_K X rfl (by k_is) rfl rfl rfl) (by exact locs rfl) (by rfl) (by rfl) (by rfl) (by decide) ?_
 intro d hR'
 refine ze (zi (zb rfl (zb rfl (zn hx (by kernel_rfl) (lek (by kernel_rfl)) ?_))))
 refine ze (zi (zb rfl (zb rfl (zn Map.set_self (by kernel_rfl) (lek (by kernel_rfl)) ?_))))
 refine zy (hQ _ ?_ (ju (by kernel_rfl)))
 walk_at "upd"
theorem spec_next {A:Around}{n:Nat}(hY:Fly.Leaves prog w G (zg G 336)) (hA:A.frames=some c.fr) (hR:Rm A (n+1)) {h z:Addr}{lim:Value}{k:Int}{t:Tok}{Q:Value→Loc→Map→Prop}
 (hh:σ h=some (.inst 246 (heapF lim (.int k t) z))) (hQ:∀ t',Q (.int (k+1) t') m (σ.set h (.inst 246 (heapF lim (.int (k+1) t') z)))):COK prog w G (zg G 336) c A (.ref 208) ⟨[.ref h],[]⟩ m σ Q X:=by
 walk_at "fn"
 intro d hR'
 refine ze (P_augAttr (zb rfl (zw hh (by kernel_rfl) rfl rfl (zD fun t'=>P_iaddInt fun t''=>zn hh (by kernel_rfl) (lek (by kernel_rfl)) ?_))))
 exact ze (zO (zB (zb rfl (zw Map.set_self (by kernel_rfl) rfl rfl (hQ t'')))))
theorem spec_newScalar {A:Around}{n:Nat}(hY:Fly.Leaves prog w G (zg G 336)) (hA:A.frames=some c.fr) (hR:Rm A (n+4)) {h z:Addr}{lim v:Value}{k:Int}{t:Tok}{Q:Value→Loc→Map→Prop}
 (hh:σ h=some (.inst 246 (heapF lim (.int k t) z)))
 (hQ:∀ σ' x t t' wk,Upd (fun a=>a=h) σ σ'→σ' h=some (.inst 246 (heapF lim (.int (k+1) t) z))→σ x=none→σ' x=some (.inst 87 (scalarF (.int (k+1) t) (.int 0 t') wk v))→Q (.ref x) m σ'):COK prog w G (zg G 336) c A (.ref 215) ⟨[.ref h,v],[]⟩ m σ Q X:=by
 walk_at "fn"
 intro d hR'
 refine ze (zO (zv (zh (by k_is) (zf (by kernel_rfl) (za (zI (zb rfl (zQ hh (by kernel_rfl) rfl (jl (by kernel_rfl) (COK.call (spec_next hY rfl hR' hh fun t1=>?_)))))))))))
 refine za (zb rfl (zc (P_make (fI:=84) (by kernel_rfl) fun x h0=>spec_Scalar hY rfl hR'.under Map.set_self fun σ' t2 wk hu hs=>⟨rfl,?_⟩)))
 have hne:h≠x:=fun z=>by rw [z,Map.set_self] at h0;cases h0
 refine hQ σ' x t1 t2 wk ?_ ?_ ?_ hs
 ·refine fun a ao ha hF=>hu a ao (Map.set_new h0 (Map.set_other ha hF)) fun z=>?_
  rw [Map.set_ne (by rw [← z];exact hF),← z,ha] at h0;cases h0
 ·exact hu h _ (Map.set_new h0 Map.set_self) hne
 ·rwa [Map.set_ne (Ne.symm hne)] at h0
end
theorem Upd.set_loc {F:Addr→Prop}{σ σ':Map}{a:Addr}{ao:AO}(u:Upd F σ σ') (h:σ a=none):Upd F σ (σ'.set a ao):=fun b bo hb hF=>by
 rw [Map.set_ne fun z=>by rw [z,h] at hb;cases hb];exact u b bo hb hF
noncomputable abbrev Ext (σ σ':Map):Prop:=Upd (fun _=>False) σ σ'
theorem Upd.get {F:Addr→Prop}{σ σ':Map}(u:Upd F σ σ') {a:Addr}{ao:AO}(h:σ a=some ao) (hF:¬ F a):σ' a=some ao:=u a ao h hF
theorem Upd.none_of {F:Addr→Prop}{σ σ':Map}(u:Upd F σ σ') {a:Addr}(h:σ' a=none) (hF:¬ F a):σ a=none:=by
 cases q:σ a with
 | none=>rfl
 | some ao=>have:=u a ao q hF;rw [h] at this;cases this
theorem Ext.get {σ σ':Map}(u:Ext σ σ') {a:Addr}{ao:AO}(h:σ a=some ao):σ' a=some ao:=u a ao h id
theorem Ext.none_of {σ σ':Map}(u:Ext σ σ') {a:Addr}(h:σ' a=none):σ a=none:=Upd.none_of u h id
theorem zK {σ:Map}{a b:Addr}{ao bo:AO}(ha:σ a=some ao) (hb:σ b=some bo) (h:ao≠bo):a≠b:=fun z=>h (by rw [z,hb] at ha;exact (Option.some.inj ha).symm)
theorem zm {σ:Map}{a b:Addr}{ao:AO}(ha:σ a=some ao) (hb:σ b=none):a≠b:=fun z=>by rw [z,hb] at ha;cases ha
theorem je {V:List (Str × Value)}(k j:Str) (v:Value):valueAt (stored V k v) j=if j=k then some v else valueAt V j:=by
 unfold stored valueAt
 by_cases hb:V.any (fun kv=>kv.1=k)=true
 ·rw [if_pos hb]
  have key:∀ W:List (Str × Value),(W.map fun kv=>if kv.1=k then (kv.1,v) else kv).find? (fun kv=>decide (kv.1=j))=(W.find? fun kv=>decide (kv.1=j)).map fun kv=>if kv.1=k then (kv.1,v) else kv:=by
   intro W
   induction W with
   | nil=>rfl
   | cons x r ih=>
    rw [List.map_cons,List.find?_cons,List.find?_cons]
    have e:(if x.1=k then (x.1,v) else x).1=x.1:=by split <;> rfl
    rw [e]
    cases decide (x.1=j) with
    | true=>rfl
    | false=>exact ih
  rw [key]
  by_cases hj:j=k
  ·subst hj
   rw [if_pos rfl]
   cases q:V.find? fun kv=>decide (kv.1=j) with
   | none=>
    have:=List.find?_eq_none.mp q
    refine zk fun zz=>?_
    obtain ⟨x,hx,hx2⟩:=List.any_eq_true.mp hb
    refine zz ?_;clear zz
    exact absurd hx2 (this x hx)
   | some x=>
    have:=List.find?_some q
    simp only [Option.map_some]
    rw [if_pos (of_decide_eq_true this)]
  ·rw [if_neg hj]
   cases q:V.find? fun kv=>decide (kv.1=j) with
   | none=>rfl
   | some x=>
    have hq:=List.find?_some q
    have:x.1=j:=of_decide_eq_true hq
    simp only [Option.map_some]
    rw [if_neg (fun z=>hj (this.symm.trans z))]
 ·rw [if_neg hb,List.find?_append]
  have hn:∀ x∈V,¬ x.1=k:=fun x hx z=>hb (List.any_eq_true.mpr ⟨x,hx,decide_eq_true z⟩)
  by_cases hj:j=k
  ·subst hj
   rw [if_pos rfl,List.find?_eq_none.mpr fun x hx=>by simpa using hn x hx]
   simp
  ·rw [if_neg hj]
   have e:([(k,v)]:List (Str × Value)).find? (fun kv=>decide (kv.1=j))=none:=by
    rw [List.find?_eq_none];intro x hx;simp only [List.mem_singleton] at hx;subst hx;simpa using fun z=>hj z.symm
   rw [e,Option.or_none]
noncomputable def stashF (H D:Addr) (gen:Value):List (Str × Value):=[("heap",.ref H),("globs",.ref D),("generation",gen)]
noncomputable def counterF (H PL:Addr):List (Str × Value):=[("heap",.ref H),("destroy",.none),("places",.ref PL)]
noncomputable def optV:Option Addr→Value
 | none=>.none
 | some a=>.ref a
theorem handed_opt (o:Option Addr):handedIn (optV o)=true:=by cases o <;> rfl
theorem plain_opt (o:Option Addr):plainV (optV o)=true:=by cases o <;> rfl
inductive GlobAt (σ:Map) (a:Addr) (sc ar co:Option Addr):Prop | mk (n k:Value) (wk:Addr) (nm:Value) (h:σ a=some (.inst 163 (globF n k wk nm (optV sc) (optV ar) (optV co)))):GlobAt σ a sc ar co
inductive ScalarAt (σ:Map) (a:Addr) (v:Value):Prop | mk (n:Int) (t:Tok) (k:Int) (t':Tok) (wk:Addr) (h:σ a=some (.inst 87 (scalarF (.int n t) (.int k t') wk v))):ScalarAt σ a v
inductive CodeAt (σ:Map) (a:Addr) (num:Int):Prop | mk (t:Tok) (k:Int) (t':Tok) (wk:Addr) (s cp b:Value) (t'':Tok) (h:σ a=some (.inst 144 (codeF (.int num t) (.int k t') wk s cp b t''))):CodeAt σ a num
inductive ArrAt (σ:Map) (a:Addr) (bl:Value) (l:Addr):Prop | mk (n:Int) (t:Tok) (k:Int) (t':Tok) (wk:Addr) (h:σ a=some (.inst 106 (arrayF (.int n t) (.int k t') bl wk l))):ArrAt σ a bl l
structure GI where
 ga:Addr
 sc:Option Addr
 ar:Option Addr
 co:Option Addr
structure Stash (prog':Program) (w':World) (σ:Map) (S H D:Addr) (gen:Int) (cap:Nat) (gl:Str→Option GI):Prop where
 hS:∃ t,σ S=some (.inst 397 (stashF H D (.int gen t)))
 hD:∃ kvs,σ D=some (.raw (sdP prog w D kvs))∧kvs.length≤cap∧∀ nm,valueAt kvs nm=(gl nm).map fun g=>.ref g.ga
 hG:∀ nm g,gl nm=some g→GlobAt σ g.ga g.sc g.ar g.co
inductive HeapAt (σ:Map) (H Z:Addr) (last:Int):Prop | mk (lim:Value) (t:Tok) (h:σ H=some (.inst 246 (heapF lim (.int last t) Z))):HeapAt σ H Z last
section
variable {c:Cx}{X:Str→Map→Prop}{m:Loc}{σ τ:Map}
theorem spec_newArray {A:Around}{n:Nat}(hY:Fly.Leaves prog w G (zg G 336)) (hA:A.frames=some c.fr) (hR:Rm A (n+4)) {h z:Addr}{lim:Value}{k:Int}{t:Tok}{Q:Value→Loc→Map→Prop}
 (hh:σ h=some (.inst 246 (heapF lim (.int k t) z)))
 (hQ:∀ σ' x t t' wk l,Upd (fun a=>a=h) σ σ'→σ' h=some (.inst 246 (heapF lim (.int (k+1) t) z))→σ x=none→σ' x=some (.inst 106 (arrayF (.int (k+1) t) (.int 0 t') .none wk l))→σ l=none→σ' l=some (.seq false [])→Q (.ref x) m σ') :
 COK prog w G (zg G 336) c A (.ref 222) ⟨[.ref h],[]⟩ m σ Q X:=by
 walk_at "fn"
 intro d hR'
 refine ze (zO (zv (zh (by k_is) (zf (by kernel_rfl) (za (zI (zb rfl (zQ hh (by kernel_rfl) rfl (jl (by kernel_rfl) (COK.call (spec_next hY rfl hR' hh fun t1=>?_)))))))))))
 refine zc (P_make (fI:=103) (by kernel_rfl) fun x h0=>spec_Array hY rfl hR'.under Map.set_self fun σ' t2 wk l hu hs hl hne hl'=>⟨rfl,?_⟩)
 have hx:h≠x:=zm Map.set_self h0
 refine hQ σ' x t1 t2 wk l ?_ ?_ ?_ hs ?_ hl'
 ·refine fun a ao ha hF=>hu a ao (Map.set_new h0 (Map.set_other ha hF)) fun z=>?_
  rw [Map.set_ne (by rw [← z];exact hF),← z,ha] at h0;cases h0
 ·exact hu h _ (Map.set_new h0 Map.set_self) hx
 ·rwa [Map.set_ne (Ne.symm hx)] at h0
 ·have q:l≠h:=fun z=>by rw [Map.set_ne (by rw [z];exact hx),z,Map.set_self] at hl;cases hl
  rwa [Map.set_ne hne,Map.set_ne q] at hl
theorem spec_newCode {A:Around}{n:Nat}(hY:Fly.Leaves prog w G (zg G 336)) (hA:A.frames=some c.fr) (hR:Rm A (n+4)) {h z:Addr}{lim s cp:Value}{k:Int}{t:Tok}{Q:Value→Loc→Map→Prop}
 (hh:σ h=some (.inst 246 (heapF lim (.int k t) z)))
 (hQ:∀ σ' x t t' t'' wk,Upd (fun a=>a=h) σ σ'→σ' h=some (.inst 246 (heapF lim (.int (k+1) t) z))→σ x=none→σ' x=some (.inst 144 (codeF (.int (k+1) t) (.int 0 t') wk s cp .none t''))→Q (.ref x) m σ') :
 COK prog w G (zg G 336) c A (.ref 236) ⟨[.ref h,s,cp],[]⟩ m σ Q X:=by
 walk_at "fn"
 intro d hR'
 refine ze (zO (zv (zh (by k_is) (zf (by kernel_rfl) (za (zI (zb rfl (zQ hh (by kernel_rfl) rfl (jl (by kernel_rfl) (COK.call (spec_next hY rfl hR' hh fun t1=>?_)))))))))))
 refine za (zb rfl (za (zb rfl (zc (P_make (fI:=141) (by kernel_rfl) fun x h0=>spec_Code hY rfl hR'.under Map.set_self fun σ' t2 t3 wk hu hs=>⟨rfl,?_⟩)))))
 have hx:h≠x:=zm Map.set_self h0
 refine hQ σ' x t1 t2 t3 wk ?_ ?_ ?_ hs
 ·refine fun a ao ha hF=>hu a ao (Map.set_new h0 (Map.set_other ha hF)) fun z=>?_
  rw [Map.set_ne (by rw [← z];exact hF),← z,ha] at h0;cases h0
 ·exact hu h _ (Map.set_new h0 Map.set_self) hx
 ·rwa [Map.set_ne (Ne.symm hx)] at h0
theorem spec_newGlob {A:Around}{n:Nat}(hY:Fly.Leaves prog w G (zg G 336)) (hA:A.frames=some c.fr) (hR:Rm A (n+4)) {h z:Addr}{lim nm:Value}{k:Int}{t:Tok}{Q:Value→Loc→Map→Prop}
 (hh:σ h=some (.inst 246 (heapF lim (.int k t) z)))
 (hQ:∀ σ' x t t' wk,Upd (fun a=>a=h) σ σ'→σ' h=some (.inst 246 (heapF lim (.int (k+1) t) z))→σ x=none→σ' x=some (.inst 163 (globF (.int (k+1) t) (.int 0 t') wk nm .none .none .none))→Q (.ref x) m σ') :
 COK prog w G (zg G 336) c A (.ref 243) ⟨[.ref h,nm],[]⟩ m σ Q X:=by
 walk_at "fn"
 intro d hR'
 refine ze (zO (zv (zh (by k_is) (zf (by kernel_rfl) (za (zI (zb rfl (zQ hh (by kernel_rfl) rfl (jl (by kernel_rfl) (COK.call (spec_next hY rfl hR' hh fun t1=>?_)))))))))))
 refine za (zb rfl (zc (P_make (fI:=160) (by kernel_rfl) fun x h0=>spec_Glob hY rfl hR'.under Map.set_self fun σ' t2 wk hu hs=>⟨rfl,?_⟩)))
 have hx:h≠x:=zm Map.set_self h0
 refine hQ σ' x t1 t2 wk ?_ ?_ ?_ hs
 ·refine fun a ao ha hF=>hu a ao (Map.set_new h0 (Map.set_other ha hF)) fun z=>?_
  rw [Map.set_ne (by rw [← z];exact hF),← z,ha] at h0;cases h0
 ·exact hu h _ (Map.set_new h0 Map.set_self) hx
 ·rwa [Map.set_ne (Ne.symm hx)] at h0
theorem spec_globOf {A:Around}{n:Nat}(hY:Fly.Leaves prog w G (zg G 336)) (hA:A.frames=some c.fr) (hR:Rm A (n+5)) {S H D Z:Addr}{gen last:Int}{cap:Nat}{gl:Str→Option GI}{nm:Str}{tn:Tok}{Q:Value→Loc→Map→Prop}
 (hS:Stash prog w σ S H D gen cap gl) (hH:HeapAt σ H Z last) (hcap:cap≤1000)
 (hQ1:∀ g,gl nm=some g→Q (.ref g.ga) m σ)
 (hQ2:gl nm=none→∀ σ' x kvs,Upd (fun a=>a=H∨a=D) σ σ'→HeapAt σ' H Z (last+1)→σ x=none→GlobAt σ' x none none none→σ' D=some (.raw (sdP prog w D kvs))→kvs.length≤cap+1 →
  (∀ j,valueAt kvs j=if j=nm then some (.ref x) else (gl j).map fun g=>.ref g.ga)→Q (.ref x) m σ') :
 COK prog w G (zg G 336) c A (.ref 359) ⟨[.ref S,.str nm tn],[]⟩ m σ Q X:=by
 refine zk fun zz=>?_
 obtain ⟨tg,eS⟩:=hS.hS
 obtain ⟨kvs,eD,hl,hv⟩:=hS.hD
 obtain ⟨lim,tl,eH⟩:=hH
 refine zz ?_;clear zz
 have hz:kvs.length≤sizeLine:=by rw [sizeLine_eq];omega
 walk_at "fn"
 intro d hR'
 refine ze (zJ (zj (zb rfl (zB (zb rfl (zw eS (by kernel_rfl) rfl rfl (P_notInD eD (zd ⟨fun hb=>?_,fun hb=>?_⟩))))))))
 ·have hn:gl nm=none:=by
   cases q:gl nm with
   | none=>rfl
   | some g=>rw [hv,q] at hb;cases hb
  refine ze (jF (zI (zB (zb rfl (zw eS (by kernel_rfl) rfl rfl (zQ eH (by kernel_rfl) rfl (zf (by kernel_rfl) (za (zb rfl (zc (COK.call
   (spec_newGlob hY rfl hR' eH fun σ' x t t' wk hu hs h0 hx=>?_))))))))))))
  have hDH:D≠H:=zK eD eH (by intro z;cases z)
  have eS':=hu.get eS (zK eS eH (by intro z;cases z))
  have eD':=hu.get eD hDH
  have hSD:S≠D:=zK eS eD (by intro z;cases z)
  have hxD:x≠D:=(zm eD h0).symm
  refine zB (zb rfl (zw eS' (by kernel_rfl) rfl rfl (zb rfl (P_setD eD' hz (zy ?_)))))
  refine ze (zO (zR (zB (zb rfl (zw (Map.set_other eS' hSD) (by kernel_rfl) rfl rfl (zb rfl (jk Map.set_self (v:=.ref x) (by rw [je,if_pos rfl]) ?_)))))))
  refine hQ2 hn _ x _ ?_ ⟨lim,t,Map.set_other hs hDH.symm⟩ h0 ⟨_,_,_,_,Map.set_other hx hxD⟩ Map.set_self ?_ fun j=>by rw [je,hv]
  ·exact (hu.mono fun _=>.inl).set_in (.inr rfl)
  ·exact Nat.le_trans (stored_length_le _ _ _) (by omega)
 ·obtain ⟨g,hg⟩:∃ g,gl nm=some g:=by
   cases q:gl nm with
   | none=>rw [hv,q] at hb;cases hb
   | some g=>exact ⟨g,rfl⟩
  refine zy ?_
  exact ze (zO (zR (zB (zb rfl (zw eS (by kernel_rfl) rfl rfl (zb rfl (jk eD (by rw [hv,hg];rfl) (hQ1 g hg))))))))
theorem spec_codeOf {A:Around}{n:Nat}(hY:Fly.Leaves prog w G (zg G 336)) (hA:A.frames=some c.fr) (hR:Rm A (n+1)) {S H D:Addr}{gen:Int}{cap:Nat}{gl:Str→Option GI}{nm:Str}{tn:Tok}{Q:Value→Loc→Map→Prop}
 (hS:Stash prog w σ S H D gen cap gl) (hQ:Q (optV ((gl nm).bind GI.co)) m σ):COK prog w G (zg G 336) c A (.ref 387) ⟨[.ref S,.str nm tn],[]⟩ m σ Q X:=by
 refine zk fun zz=>?_
 obtain ⟨tg,eS⟩:=hS.hS
 obtain ⟨kvs,eD,hl,hv⟩:=hS.hD
 refine zz ?_;clear zz
 walk_at "fn"
 intro d hR'
 refine ze (zJ (zj (zb rfl (zB (zb rfl (zw eS (by kernel_rfl) rfl rfl (P_notInD eD (zd ⟨fun hb=>?_,fun hb=>?_⟩))))))))
 ·have hn:gl nm=none:=by
   cases q:gl nm with
   | none=>rfl
   | some g=>rw [hv,q] at hb;cases hb
  rw [hn] at hQ
  exact ze (zO (zA hQ))
 ·obtain ⟨g,hg⟩:∃ g,gl nm=some g:=by
   cases q:gl nm with
   | none=>rw [hv,q] at hb;cases hb
   | some g=>exact ⟨g,rfl⟩
  rw [hg] at hQ
  refine zk fun zz=>?_
  obtain ⟨_,_,_,_,eg⟩:=hS.hG nm g hg
  refine zz ?_;clear zz
  refine zy ?_
  exact ze (zO (zB (zR (zB (zb rfl (zw eS (by kernel_rfl) rfl rfl (zb rfl (jk eD (by rw [hv,hg];rfl) (zw eg (by kernel_rfl) rfl (handed_opt _) hQ)))))))))
theorem spec_findArray {A:Around}{n:Nat}(hY:Fly.Leaves prog w G (zg G 336)) (hA:A.frames=some c.fr) (hR:Rm A (n+1)) {S H D:Addr}{gen:Int}{cap:Nat}{gl:Str→Option GI}{nm:Str}{tn:Tok}{Q:Value→Loc→Map→Prop}
 (hS:Stash prog w σ S H D gen cap gl) (hQ:Q (optV ((gl nm).bind GI.ar)) m σ):COK prog w G (zg G 336) c A (.ref 394) ⟨[.ref S,.str nm tn],[]⟩ m σ Q X:=by
 refine zk fun zz=>?_
 obtain ⟨tg,eS⟩:=hS.hS
 obtain ⟨kvs,eD,hl,hv⟩:=hS.hD
 refine zz ?_;clear zz
 walk_at "fn"
 intro d hR'
 refine ze (zJ (zj (zb rfl (zB (zb rfl (zw eS (by kernel_rfl) rfl rfl (P_notInD eD (zd ⟨fun hb=>?_,fun hb=>?_⟩))))))))
 ·have hn:gl nm=none:=by
   cases q:gl nm with
   | none=>rfl
   | some g=>rw [hv,q] at hb;cases hb
  rw [hn] at hQ
  exact ze (zO (zA hQ))
 ·obtain ⟨g,hg⟩:∃ g,gl nm=some g:=by
   cases q:gl nm with
   | none=>rw [hv,q] at hb;cases hb
   | some g=>exact ⟨g,rfl⟩
  rw [hg] at hQ
  refine zk fun zz=>?_
  obtain ⟨_,_,_,_,eg⟩:=hS.hG nm g hg
  refine zz ?_;clear zz
  refine zy ?_
  exact ze (zO (zB (zR (zB (zb rfl (zw eS (by kernel_rfl) rfl rfl (zb rfl (jk eD (by rw [hv,hg];rfl) (zw eg (by kernel_rfl) rfl (handed_opt _) hQ)))))))))
end
section
variable {c:Cx}{X:Str→Map→Prop}{m:Loc}{σ τ:Map}
theorem spec_valueScalar {A:Around}{n:Nat}(hY:Fly.Leaves prog w G (zg G 336)) (hA:A.frames=some c.fr) (hR:Rm A (n+1)) {x:Addr}{v:Value}{Q:Value→Loc→Map→Prop}
 (hx:ScalarAt σ x v) (hh:handedIn v=true) (hQ:Q v m σ):COK prog w G (zg G 336) c A (.ref 278) ⟨[.ref x],[]⟩ m σ Q X:=by
 refine zk fun zz=>?_
 obtain ⟨n1,t1,k1,t2,wk,hx⟩:=hx
 refine zz ?_;clear zz
 walk_at "fn"
 intro d hR'
 refine ze (zJ (j0 (ja (zv (zC (by k_is) (by boot_by_name) (by decide) (zt (za (zb rfl (za (zh (by k_is) (zc (P_isiYes hx (by kernel_rfl) (zd ⟨fun hb=>?_,fun hb=>zy ?_⟩)))))))))))))
 ·first | exact nb hb | exact nt hb | cases hb
 refine ze (zJ (zj (zB (zb rfl (zw hx (by kernel_rfl) rfl rfl (zA (z7 rfl (zd ⟨fun hb=>?_,fun hb=>zy ?_⟩))))))))
 ·first | exact nb hb | exact nt hb | cases hb
 exact ze (zO (zB (zb rfl (zw hx (by kernel_rfl) rfl hh hQ))))
theorem spec_valueStr {A:Around}{n:Nat}(hY:Fly.Leaves prog w G (zg G 336)) (hA:A.frames=some c.fr) (hR:Rm A (n+1)) {x:Str}{t:Tok}{Q:Value→Loc→Map→Prop}
 (hQ:Q (.str x t) m σ):COK prog w G (zg G 336) c A (.ref 278) ⟨[.str x t],[]⟩ m σ Q X:=by
 walk_at "fn"
 intro d hR'
 refine ze (zJ (j0 (ja (zv (zC (by k_is) (by boot_by_name) (by decide) (zt (za (zb rfl (za (zh (by k_is) (zc (jT (by kernel_rfl) (zd ⟨fun hb=>?_,fun hb=>?_⟩)))))))))))))
 ·exact ze (zO (zb rfl hQ))
 ·first | exact nb hb | exact nt hb | cases hb
theorem spec_valueNone {A:Around}{n:Nat}(hY:Fly.Leaves prog w G (zg G 336)) (hA:A.frames=some c.fr) (hR:Rm A (n+1)) {Q:Value→Loc→Map→Prop}
 (hQ:Q .none m σ):COK prog w G (zg G 336) c A (.ref 278) ⟨[.none],[]⟩ m σ Q X:=by
 walk_at "fn"
 intro d hR'
 refine ze (zJ (j0 (ja (zv (zC (by k_is) (by boot_by_name) (by decide) (zt (za (zb rfl (za (zh (by k_is) (zc (P_isiNone (by kernel_rfl) (zd ⟨fun hb=>?_,fun hb=>?_⟩)))))))))))))
 ·exact ze (zO (zb rfl hQ))
 ·first | exact nb hb | exact nt hb | cases hb
theorem spec_valueRef {A:Around}{n:Nat}(hY:Fly.Leaves prog w G (zg G 336)) (hA:A.frames=some c.fr) (hR:Rm A (n+1)) {x:Addr}{fs:List (Str × Value)}{Q:Value→Loc→Map→Prop}
 (hx:σ x=some (.inst 183 fs)) (hQ:Q (.ref x) m σ):COK prog w G (zg G 336) c A (.ref 278) ⟨[.ref x],[]⟩ m σ Q X:=by
 walk_at "fn"
 intro d hR'
 refine ze (zJ (j0 (ja (zv (zC (by k_is) (by boot_by_name) (by decide) (zt (za (zb rfl (za (zh (by k_is) (zc (P_isiNo hx (by kernel_rfl) (zd ⟨fun hb=>?_,fun hb=>?_⟩)))))))))))))
 ·exact ze (zO (zb rfl hQ))
 ·first | exact nb hb | exact nt hb | cases hb
theorem jC {A:Around}{n:Nat}(hY:Fly.Leaves prog w G (zg G 336)) (hA:A.frames=some c.fr) (hR:Rm A (n+1)) {x:Str}{t:Tok}{Q:Value→Loc→Map→Prop}
 (hQ:Q (.str x t) m σ):COK prog w G (zg G 336) c A (.ref 285) ⟨[.str x t],[]⟩ m σ Q X:=by
 walk_at "fn"
 intro d hR'
 refine ze (zJ (zj (zb rfl (zA (zN rfl (zd ⟨fun hb=>?_,fun hb=>zy ?_⟩))))))
 ·first | exact nb hb | exact nt hb | cases hb
 refine ze (zJ (ja (zv (zC (by k_is) (by boot_by_name) (by decide) (zt (za (zb rfl (za (zC (by k_is) (by boot_by_name) (by decide) (zc (P_isiStrInt (zd ⟨fun hb=>?_,fun hb=>zy ?_⟩))))))))))))
 ·first | exact nb hb | exact nt hb | cases hb
 refine ze (zJ (ja (zv (zC (by k_is) (by boot_by_name) (by decide) (zt (za (zb rfl (za (zh (by k_is) (zc (jT (by kernel_rfl) (zd ⟨fun hb=>?_,fun hb=>zy ?_⟩))))))))))))
 ·first | exact nb hb | exact nt hb | cases hb
 exact ze (zO (zb rfl hQ))
theorem spec_textNone {A:Around}{n:Nat}(hY:Fly.Leaves prog w G (zg G 336)) (hA:A.frames=some c.fr) (hR:Rm A (n+1)) {Q:Value→Loc→Map→Prop}
 (hQ:∀ t,Q (.str "" t) m σ):COK prog w G (zg G 336) c A (.ref 285) ⟨[.none],[]⟩ m σ Q X:=by
 walk_at "fn"
 intro d hR'
 refine ze (zJ (zj (zb rfl (zA (zN rfl (zd ⟨fun hb=>?_,fun hb=>?_⟩))))))
 ·exact ze (zO (zo hQ))
 ·first | exact nb hb | exact nt hb | cases hb
theorem spec_truth {A:Around}{n:Nat}(hY:Fly.Leaves prog w G (zg G 336)) (hA:A.frames=some c.fr) (hR:Rm A (n+1)) {b:Bool}{Q:Value→Loc→Map→Prop}
 (hQ1:b=true→∀ t,Q (.int 1 t) m σ) (hQ2:b=false→∀ t,Q (.str "" t) m σ):COK prog w G (zg G 336) c A (.ref 299) ⟨[.bool b],[]⟩ m σ Q X:=by
 walk_at "fn"
 intro d hR'
 refine ze (zJ (ja (zb rfl (zd ⟨fun hb=>?_,fun hb=>?_⟩))))
 ·exact ze (zO (zD (hQ1 hb)))
 ·exact zy (ze (zO (zo (hQ2 hb))))
theorem spec_wordArray {A:Around}{n:Nat}(hY:Fly.Leaves prog w G (zg G 336)) (hA:A.frames=some c.fr) (hR:Rm A (n+1)) {x:Addr}{fs:List (Str × Value)}{Q:Value→Loc→Map→Prop}
 (hx:σ x=some (.inst 106 fs)) (hQ:∀ t,Q (.str "ARRAY" t) m σ):COK prog w G (zg G 336) c A (.ref 257) ⟨[.ref x],[]⟩ m σ Q X:=by
 walk_at "fn"
 intro d hR'
 refine ze (zJ (ja (zv (zC (by k_is) (by boot_by_name) (by decide) (zt (za (zb rfl (za (zh (by k_is) (zc (P_isiYes hx (by kernel_rfl) (zd ⟨fun hb=>?_,fun hb=>?_⟩))))))))))))
 ·exact ze (zO (zo hQ))
 ·first | exact nb hb | exact nt hb | cases hb
noncomputable def ItemsAt (σ:Map):List Value→List Str→Prop
 | [],[]=>True
 | v :: vs,p :: ps=>(∃ s t,v = .ref s∧ScalarAt σ s (.str p t))∧ItemsAt σ vs ps
 | _,_=>False
theorem ScalarAt.upd {σ σ':Map}{F:Addr→Prop}{a:Addr}{v:Value}(h:ScalarAt σ a v) (u:Upd F σ σ') (hF:¬ F a):ScalarAt σ' a v:=by
 refine zk fun zz=>?_
 obtain ⟨n,t,k,t',wk,h⟩:=h
 refine zz ?_;clear zz
 exact ⟨n,t,k,t',wk,u a _ h hF⟩
theorem ItemsAt.ext {vs:List Value}{ps:List Str}{σ σ':Map}(h:ItemsAt σ vs ps) (u:Ext σ σ'):ItemsAt σ' vs ps:=by
 induction vs generalizing ps with
 | nil=>cases ps <;> exact h
 | cons v vs ih=>
  cases ps with
  | nil=>exact h
  | cons p ps=>
   obtain ⟨⟨s,t,e,h⟩,r⟩:=h
   exact ⟨⟨s,t,e,h.upd u id⟩,ih r⟩
theorem ItemsAt.length {vs:List Value}{ps:List Str}{σ:Map}(h:ItemsAt σ vs ps):vs.length=ps.length:=by
 induction vs generalizing ps with
 | nil=>cases ps with | nil=>rfl | cons=>exact h.elim
 | cons v vs ih=>
  cases ps with
  | nil=>exact h.elim
  | cons p ps=>exact congrArg (· + 1) (ih h.2)
theorem ItemsAt.get {vs:List Value}{ps:List Str}{σ:Map}{i:Nat}{v:Value}(h:ItemsAt σ vs ps) (hv:vs[i]? = some v):∃ s t p,v = .ref s∧ps[i]? = some p∧ScalarAt σ s (.str p t):=by
 induction vs generalizing ps i with
 | nil=>exact nn (List.getElem?_nil.symm.trans hv)
 | cons w vs ih=>
  cases ps with
  | nil=>exact h.elim
  | cons p ps=>
   obtain ⟨⟨s,t,e,h⟩,r⟩:=h
   cases i with
   | zero=>exact ⟨s,t,p,(Option.some.inj hv).symm.trans e,rfl,h⟩
   | succ i=>exact ih (ps:=ps) (i:=i) r hv
noncomputable def zX (p:Str):Str:=p ++ ("::ISA" : Str)
noncomputable def ParAt (σ:Map) (gl:Str→Option GI) (par:Str→List Str):Prop:=
 ∀ p,match (gl (zX p)).bind GI.ar with
  | none=>par p=[]
  | some a=>∃ bl l vs,ArrAt σ a bl l∧σ l=some (.seq false vs)∧ItemsAt σ vs (par p)
theorem StrsAre.snoc {ys:List Value}{ps:List Str}{p:Str}{t:Tok}(h:StrsAre ys ps):StrsAre (ys ++ [.str p t]) (ps ++ [p]):=by
 induction h with
 | nil=>exact .cons _ _ .nil
 | cons a b _ ih=>exact .cons _ _ ih
theorem spec_parents {A:Around}{n:Nat}(hY:Fly.Leaves prog w G (zg G 336)) (hA:A.frames=some c.fr) (hR:Rm A (n+2)) {S H D:Addr}{gen:Int}{cap:Nat}{gl:Str→Option GI}{par:Str→List Str}{p:Str}{tn:Tok}{Q:Value→Loc→Map→Prop}
 (hS:Stash prog w σ S H D gen cap gl) (hP:ParAt σ gl par) (hp:p.length≤1000) (hl:(par p).length≤1000)
 (hQ:∀ σ' a ys,Ext σ σ'→σ a=none→σ' a=some (.seq false ys)→StrsAre ys (par p)→Q (.ref a) m σ'):COK prog w G (zg G 336) c A (.ref 421) ⟨[.ref S,.str p tn],[]⟩ m σ Q X:=by
 obtain ⟨tg,eS⟩:=hS.hS
 walk_at "fn"
 intro d hR'
 refine ze (zu (zI (zb rfl (zQ eS (by kernel_rfl) rfl (zf (by kernel_rfl) (za (zG (zb rfl (zo fun t=>zH (by rw [sizeLine_eq];show p.length+5≤_;omega) fun t2=>zc (COK.call
  (spec_findArray hY rfl hR' hS (zx ?_))))))))))))
 have hPp:=hP p
 unfold zX at hPp
 cases q:(gl (p ++ ("::ISA" : Str))).bind GI.ar with
 | none=>
  rw [q] at hPp
  refine ze (zJ (zj (zb rfl (zA (zN rfl (zd ⟨fun hb=>?_,fun hb=>?_⟩))))))
  ·exact ze (zO (z9 (zc (zF fun a h0=>hQ _ a [] (Upd.refl.set_new h0) h0 Map.set_self (by rw [hPp];exact .nil)))))
  ·first | exact nb hb | exact nt hb | cases hb
 | some a=>
  rw [q] at hPp
  refine zk fun zz=>?_
  obtain ⟨bl,l,vs,⟨n1,t1,k1,t2,wk,ea⟩,el,hI⟩:=hPp
  refine zz ?_;clear zz
  refine ze (zJ (zj (zb rfl (zA (zN rfl (zd ⟨fun hb=>?_,fun hb=>zy ?_⟩))))))
  ·first | exact nb hb | exact nt hb | cases hb
  have hz:vs.length≤sizeLine:=by rw [hI.length,sizeLine_eq];omega
  refine ze (zO (P_listComp hR'.2.2 (cl:=[]) (by rfl) (by rfl) (by decide) (by decide) (by rfl) (zB (zb rfl (zw ea (by kernel_rfl) rfl rfl
   ⟨vs.length,fun i v=>vs[i]? = some v,fun ρ=>ρ l=some (.seq false vs),fun i ys σ'=>Ext σ σ'∧i≤vs.length∧StrsAre ys ((par p).take i),Iterable.list,hz,?_,?_,?_,?_,?_⟩)))))
  ·exact fun i ys σ' τ' ⟨u,_,_⟩=>Map.or_some (u.get el)
  ·exact fun i ys σ' ⟨u,hi,hy⟩=>by rw [hy.length,List.length_take];omega
  ·exact ⟨Upd.refl,Nat.zero_le _,.nil⟩
  ·intro Cd i v ys m₁ σ₁ hi hv ⟨u,_,hy⟩ hm
   refine zk fun zz=>?_
   obtain ⟨s,t,pp,rfl,hpp,hs⟩:=hI.get hv
   refine zz ?_;clear zz
   refine P_ifsNil ⟨fun _=>?_,fun hb=>by cases hb⟩
   refine zv (zh (by k_is) (zf (by kernel_rfl) (za (zv (zh (by k_is) (zf (by kernel_rfl) (za (zb hm (zc (COK.call (spec_valueScalar hY rfl hR' (hs.upd u id) rfl ?_)))))))))))
   refine zc (COK.call (jC hY rfl hR' ⟨u,hi,?_⟩))
   rw [List.take_succ,hpp]
   exact StrsAre.snoc hy
  ·intro ys σ' a ⟨u,_,hy⟩ h0
   have e:(par p).take vs.length=par p:=List.take_of_length_le (by rw [hI.length];exact Nat.le_refl _)
   rw [e] at hy
   exact hQ _ a ys (u.set_new h0) (Ext.none_of u h0) Map.set_self hy
end
section
variable {c:Cx}{X:Str→Map→Prop}{m:Loc}{σ τ:Map}
theorem die_made:exMakesIn (KK w) 336=true:=by kernel_rfl
theorem die_raise:raiseOk (KK w) 336=true:=by kernel_rfl
theorem spec_PerlError {A:Around}{n:Nat}(hY:Fly.Leaves prog w G (zg G 336)) (hA:A.frames=some c.fr) (hR:Rm A (n+1)) {x:Addr}{v:Value}{Q:Value→Loc→Map→Prop}
 (hx:σ x=some (.exc 336 [] none)) (hQ:Q .none m (σ.set x (.exc 336 [("text",v)] none))):COK prog w G (zg G 336) c A (.ref 313) ⟨[.ref x,v],[]⟩ m σ Q X:=by
 walk_at "fn"
 intro d hR'
 refine ze (jt (zI (zC (by k_is) (by boot_by_name) (by decide) (P_excMeth (zt (za (zb rfl (za (zb rfl (zc (P_excInit hx (by kernel_rfl) die_made ?_)))))))))))
 exact ze (zi (zb rfl (zb rfl (P_setExc hx (by kernel_rfl) (lek (by kernel_rfl)) (zy hQ)))))
theorem spec_Die {A:Around}{n:Nat}(hY:Fly.Leaves prog w G (zg G 336)) (hA:A.frames=some c.fr) (hR:Rm A (n+2)) {x:Addr}{v:Value}{Q:Value→Loc→Map→Prop}
 (hx:σ x=some (.exc 336 [] none)) (hQ:∀ t,Q .none m (σ.set x (.exc 336 [("text",.str "died" t),("value",v)] none))):COK prog w G (zg G 336) c A (.ref 333) ⟨[.ref x,v],[]⟩ m σ Q X:=by
 walk_at "fn"
 intro d hR'
 refine ze (jt (zI (zh (by k_is) (P_clsMeth (mc:=.type "type") (by kernel_rfl) (by kernel_rfl) (by kernel_rfl) rfl (by kernel_rfl) (zf (by kernel_rfl) (za (zb rfl (za (zo fun t=>zc (COK.call
  (spec_PerlError hY rfl hR' hx ?_)))))))))))
 refine ze (zi (zb rfl (zb rfl (P_setExc Map.set_self (by kernel_rfl) (lek (by kernel_rfl)) (zy ?_)))))
 rw [Map.set_twice]
 exact hQ t
theorem P_dieCall {n:Nat}(hY:Fly.Leaves prog w G (zg G 336)) (hR:Rm c.A (n+3)) {v:Value}{Q:Value→Loc→Map→Prop}
 (hQ:∀ x t,σ x=none→Q (.ref x) m (σ.set x (.exc 336 [("text",.str "died" t),("value",v)] none))):POK prog w G (zg G 336) c (call (.ref 336) [v] []) m σ Q X:=
 P_makeExc (fI:=333) die_made (by kernel_rfl) (by kernel_rfl) (by rw [sizeLine_eq];exact lek rfl) fun x h0=>spec_Die hY rfl hR.under Map.set_self fun t=>⟨rfl,by rw [Map.set_twice];exact hQ x t h0⟩
end
structure CountAt (prog':Program) (w':World) (σ:Map) (CT H Z:Addr) (last:Int) (zcap:Nat):Prop where
 hC:∃ PL,σ CT=some (.inst 653 (counterF H PL))
 hH:HeapAt σ H Z last
 hZ:∃ zs,σ Z=some (.seq false zs)∧zs.length≤zcap
theorem CodeAt.upd {σ σ':Map}{F:Addr→Prop}{a:Addr}{n:Int}(h:CodeAt σ a n) (u:Upd F σ σ') (hF:¬ F a):CodeAt σ' a n:=by
 refine zk fun zz=>?_
 obtain ⟨t,k,t',wk,s,cp,b,t'',h⟩:=h
 refine zz ?_;clear zz
 exact ⟨t,k,t',wk,s,cp,b,t'',u a _ h hF⟩
theorem GlobAt.upd {σ σ':Map}{F:Addr→Prop}{a:Addr}{sc ar co:Option Addr}(h:GlobAt σ a sc ar co) (u:Upd F σ σ') (hF:¬ F a):GlobAt σ' a sc ar co:=by
 refine zk fun zz=>?_
 obtain ⟨n,k,wk,nm,h⟩:=h
 refine zz ?_;clear zz
 exact ⟨n,k,wk,nm,u a _ h hF⟩
theorem HeapAt.upd {σ σ':Map}{F:Addr→Prop}{H Z:Addr}{n:Int}(h:HeapAt σ H Z n) (u:Upd F σ σ') (hF:¬ F H):HeapAt σ' H Z n:=by
 refine zk fun zz=>?_
 obtain ⟨lim,t,h⟩:=h
 refine zz ?_;clear zz
 exact ⟨lim,t,u H _ h hF⟩
section
variable {c:Cx}{X:Str→Map→Prop}{m:Loc}{σ τ:Map}
theorem spec_hold {A:Around}{n:Nat}(hY:Fly.Leaves prog w G (zg G 336)) (hA:A.frames=some c.fr) (hR:Rm A (n+1)) {x:Addr}{self:Value}{num:Int}{Q:Value→Loc→Map→Prop}
 (hx:CodeAt σ x num) (hQ:∀ σ',Upd (fun a=>a=x) σ σ'→CodeAt σ' x num→Q .none m σ'):COK prog w G (zg G 336) c A (.ref 582) ⟨[self,.ref x],[]⟩ m σ Q X:=by
 refine zk fun zz=>?_
 obtain ⟨t,k,t',wk,s,cp,b,t'',hx⟩:=hx
 refine zz ?_;clear zz
 walk_at "fn"
 intro d hR'
 refine ze (P_augAttr (zb rfl (zw hx (by kernel_rfl) rfl rfl (zD fun t1=>P_iaddInt fun t2=>zn hx (by kernel_rfl) (lek (by kernel_rfl)) (zy ?_)))))
 exact hQ _ (Upd.refl.set_in rfl) ⟨t,k+1,t2,wk,s,cp,b,t'',ju (by kernel_rfl)⟩
theorem spec_letGo {A:Around}{n:Nat}(hY:Fly.Leaves prog w G (zg G 336)) (hA:A.frames=some c.fr) (hR:Rm A (n+1)) {x CT H Z:Addr}{num last:Int}{zcap:Nat}{Q:Value→Loc→Map→Prop}
 (hC:CountAt prog w σ CT H Z last zcap) (hz:zcap≤1000) (hx:CodeAt σ x num) (hQ:∀ σ' zs',Upd (fun a=>a=x∨a=Z) σ σ'→CodeAt σ' x num→σ' Z=some (.seq false zs')→zs'.length≤zcap+1→Q .none m σ') :
 COK prog w G (zg G 336) c A (.ref 589) ⟨[.ref CT,.ref x],[]⟩ m σ Q X:=by
 refine zk fun zz=>?_
 obtain ⟨t,k,t',wk,s,cp,b,t'',hx⟩:=hx
 obtain ⟨⟨PL,eC⟩,⟨lim,tl,eH⟩,zs,eZ,hzs⟩:=hC
 refine zz ?_;clear zz
 have hZx:Z≠x:=zK eZ hx (by intro z;cases z)
 walk_at "fn"
 intro d hR'
 refine ze (P_augAttr (zb rfl (zw hx (by kernel_rfl) rfl rfl (zD fun t1=>P_isubInt fun t2=>zn hx (by kernel_rfl) (lek (by kernel_rfl)) ?_))))
 have hc:=Map.set_other (a:=x) (ao:=.inst 144 (putF "count" (.int (k - 1) t2) (codeF (.int num t) (.int k t') wk s cp b t''))) eC (zK eC hx (by intro z;cases z))
 have hh:=Map.set_other (a:=x) (ao:=.inst 144 (putF "count" (.int (k - 1) t2) (codeF (.int num t) (.int k t') wk s cp b t''))) eH (zK eH hx (by intro z;cases z))
 have hzz:=Map.set_other (a:=x) (ao:=.inst 144 (putF "count" (.int (k - 1) t2) (codeF (.int num t) (.int k t') wk s cp b t''))) eZ hZx
 refine ze (zJ (zj (zB (zb rfl (zw Map.set_self (by kernel_rfl) (v:=.int (k - 1) t2) (by rfl) rfl (zD fun t3=>P_eqInt (zd ⟨fun hb=>?_,fun hb=>?_⟩)))))))
 ·refine ze (jt (zI (zB (zB (zb rfl (zw hc (by kernel_rfl) rfl rfl (zw hh (by kernel_rfl) rfl rfl (jg hzz slot_list_append (by kernel_rfl) (zt (za (zb rfl (zc (jS hzz (by rw [sizeLine_eq];omega) (zy (zy ?_)))))))))))))))
  refine hQ _ _ ((Upd.refl.set_in (.inl rfl)).set_in (.inr rfl)) ⟨t,k - 1,t2,wk,s,cp,b,t'',Map.set_other (ju (by kernel_rfl)) hZx.symm⟩ Map.set_self (by simp;omega)
 ·exact zy (zy (hQ _ zs (Upd.refl.set_in (.inl rfl)) ⟨t,k - 1,t2,wk,s,cp,b,t'',ju (by kernel_rfl)⟩ hzz (by omega)))
theorem CodeAt.inj {σ:Map}{a:Addr}{n n':Int}(h:CodeAt σ a n) (h':CodeAt σ a n'):n=n':=by
 refine zk fun zz=>?_
 obtain ⟨t,k,t',wk,s,cp,b,t'',h⟩:=h
 obtain ⟨t2,k2,t2',wk2,s2,cp2,b2,t2'',h'⟩:=h'
 refine zz ?_;clear zz
 rw [h] at h'
 have:=AO.inst.inj (Option.some.inj h')
 have e:=(List.cons.inj this.2).1
 exact (Value.int.inj (Prod.mk.inj e).2).1
theorem CodeAt.step {σ σ':Map}{F:Addr→Prop}{x:Addr}{num:Int}(u:Upd F σ σ') (hF:∀ a n,F a→CodeAt σ a n→a=x) (h:CodeAt σ x num) (h':CodeAt σ' x num):∀ a n,CodeAt σ a n→CodeAt σ' a n:=fun a n ha=>by
 by_cases e:F a
 ·have:=hF a n e ha
  subst this
  rw [ha.inj h];exact h'
 ·exact ha.upd u e
theorem spec_swap {A:Around}{n:Nat}(hY:Fly.Leaves prog w G (zg G 336)) (hA:A.frames=some c.fr) (hR:Rm A (n+2)) {CT H Z:Addr}{last:Int}{zcap:Nat}{new old:Option Addr}{Q:Value→Loc→Map→Prop}
 (hC:CountAt prog w σ CT H Z last zcap) (hz:zcap≤1000) (hn:∀ a,new=some a→∃ num,CodeAt σ a num) (ho:∀ a,old=some a→∃ num,CodeAt σ a num)
 (hQ:∀ σ' zs',Upd (fun a=>new=some a∨old=some a∨a=Z) σ σ'→(∀ a n,CodeAt σ a n→CodeAt σ' a n)→σ' Z=some (.seq false zs')→zs'.length≤zcap+1→Q .none m σ') :
 COK prog w G (zg G 336) c A (.ref 408) ⟨[.ref CT,optV new,optV old],[]⟩ m σ Q X:=by
 refine zk fun zz=>?_
 obtain ⟨⟨PL,eC⟩,hH,zs,eZ,hzs⟩:=id hC
 refine zz ?_;clear zz
 walk_at "fn"
 intro d hR'
 refine j8 (J:=fun m₁ σ₁=>A5 (m₁ "old" = some (optV old)) (m₁ "counter" = some (.ref CT)) (CountAt prog w σ₁ CT H Z last zcap) (Upd (fun a=>new=some a∨old=some a∨a=Z) σ σ₁) ((∀ a n,CodeAt σ a n→CodeAt σ₁ a n))) ?_ ?_
 ·refine zJ (zj (zb rfl (zA (z7 (plain_opt _) (zd ⟨fun hb=>?_,fun hb=>zy ⟨rfl,rfl,rfl,hC,Upd.refl,fun _ _ h=>h⟩⟩)))))
  cases new with
  | none=>cases hb
  | some x=>
   obtain ⟨num,hx⟩:=hn x rfl
   have hxs:∀ {b:Addr} {ao:AO},σ b=some ao→(∀ fs,ao≠.inst 144 fs)→b≠x:=fun hb hne z=>by
    refine zk fun zz=>?_
    obtain ⟨_,_,_,_,_,_,_,_,hx⟩:=hx
    refine zz ?_;clear zz
    rw [z,hx] at hb;exact hne _ (Option.some.inj hb).symm
   refine ze (jt (zI (zb rfl (zQ eC (by kernel_rfl) rfl (zf (by kernel_rfl) (za (zb rfl (zc (COK.call (spec_hold hY rfl hR' hx fun σ' u' hx'=>zy ⟨rfl,rfl,rfl,?_,u'.mono fun a h=>.inl (by rw [h]),CodeAt.step u' (fun _ _ h _=>h) hx hx'⟩))))))))))
   refine zk fun zz=>?_
   obtain ⟨lim,tl,eH⟩:=hH
   refine zz ?_;clear zz
   exact ⟨⟨PL,u'.get eC (hxs eC fun fs z=>by cases z)⟩,⟨lim,tl,u'.get eH (hxs eH fun fs z=>by cases z)⟩,zs,u'.get eZ (hxs eZ fun fs z=>by cases z),hzs⟩
 ·rintro m₁ σ₁ ⟨e1,e2,hC₁,u,k⟩
  refine zk fun zz=>?_
  obtain ⟨⟨PL₁,eC₁⟩,hH₁,zs₁,eZ₁,hzs₁⟩:=id hC₁
  refine zz ?_;clear zz
  refine ze (zJ (zj (zb e1 (zA (z7 (plain_opt _) (zd ⟨fun hb=>?_,fun hb=>zy (zy (hQ σ₁ zs₁ u k eZ₁ (by omega)))⟩))))))
  cases old with
  | none=>cases hb
  | some x=>
   obtain ⟨num,hx⟩:=ho x rfl
   refine ze (jt (zI (zb e2 (zQ eC₁ (by kernel_rfl) rfl (zf (by kernel_rfl) (za (zb e1 (zc (COK.call (spec_letGo hY rfl hR' hC₁ hz (k _ _ hx) fun σ' zs' u' hx' eZ' hl'=>zy (zy (hQ σ' zs' (u.trans (u'.mono fun a h=>by rcases h with h | h <;> simp [h])) ?_ eZ' hl'))))))))))))
   intro a n ha
   exact CodeAt.step u' (fun a n h hc=>h.resolve_right fun z=>by
    refine zk fun zz=>?_
    obtain ⟨_,_,_,_,_,_,_,_,hc⟩:=hc
    refine zz ?_;clear zz
    rw [z,eZ₁] at hc;cases hc) (k _ _ hx) hx' a n (k a n ha)
end
section
variable {c:Cx}{X:Str→Map→Prop}{m:Loc}{σ τ:Map}
noncomputable def zM (gl:Str→Option GI) (nm:Str) (g:GI):Str→Option GI:=fun j=>if j=nm then some g else gl j
theorem spec_globOf' {A:Around}{n:Nat}(hY:Fly.Leaves prog w G (zg G 336)) (hA:A.frames=some c.fr) (hR:Rm A (n+5)) {S H D Z:Addr}{gen last:Int}{cap:Nat}{gl:Str→Option GI}{nm:Str}{tn:Tok}{Q:Value→Loc→Map→Prop}
 (hS:Stash prog w σ S H D gen cap gl) (hH:HeapAt σ H Z last) (hcap:cap≤1000)
 (hQ:∀ σ' g last',Upd (fun a=>a=H∨a=D) σ σ'→HeapAt σ' H Z last'→Stash prog w σ' S H D gen (cap+1) (zM gl nm g)→(gl nm=some g∨(gl nm=none∧σ g.ga=none∧g.sc=none∧g.ar=none∧g.co=none))→Q (.ref g.ga) m σ') :
 COK prog w G (zg G 336) c A (.ref 359) ⟨[.ref S,.str nm tn],[]⟩ m σ Q X:=by
 refine spec_globOf hY hA hR hS hH hcap (fun g hg=>?_) fun hn σ' x kvs u hH' h0 hG hD hl hv=>?_
 ·have e:zM gl nm g=gl:=by
   funext j;unfold zM;by_cases z:j=nm
   ·rw [if_pos z,z,hg]
   ·rw [if_neg z]
  refine hQ σ g last Upd.refl hH ?_ (.inl hg)
  rw [e]
  refine zk fun zz=>?_
  obtain ⟨kvs,h1,h2,h3⟩:=hS.hD
  refine zz ?_;clear zz
  exact ⟨hS.hS,⟨kvs,h1,by omega,h3⟩,hS.hG⟩
 ·refine zk fun zz=>?_
  obtain ⟨tg,eS⟩:=hS.hS
  obtain ⟨kvs₀,eD,_,_⟩:=hS.hD
  obtain ⟨lim,tl,eH⟩:=id hH
  refine zz ?_;clear zz
  refine hQ σ' ⟨x,none,none,none⟩ (last+1) u hH' ⟨⟨tg,u.get eS fun z=>?_⟩,⟨kvs,hD,hl,fun j=>?_⟩,fun j g hg=>?_⟩ (.inr ⟨hn,h0,rfl,rfl,rfl⟩)
  ·rcases z with z | z
   ·exact zK eS eH (by intro z;cases z) z
   ·exact zK eS eD (by intro z;cases z) z
  ·rw [hv];unfold zM;split <;> rfl
  ·unfold zM at hg
   split at hg
   ·cases hg;exact hG
   ·refine zk fun zz=>?_
    obtain ⟨n1,k1,wk,nm1,hg'⟩:=hS.hG j g hg
    refine zz ?_;clear zz
    refine ⟨n1,k1,wk,nm1,u.get hg' fun z=>?_⟩
    rcases z with z | z
    ·exact zK hg' eH (by intro z;cases z) z
    ·exact zK hg' eD (by intro z;cases z) z
theorem Stash.upd {σ':Map}{F:Addr→Prop}{S H D:Addr}{gen:Int}{cap:Nat}{gl:Str→Option GI}(h:Stash prog w σ S H D gen cap gl) (u:Upd F σ σ') (h1:¬ F S) (h2:¬ F D) (h3:∀ j g,gl j=some g→¬ F g.ga):Stash prog w σ' S H D gen cap gl:=by
 refine zk fun zz=>?_
 obtain ⟨⟨t,eS⟩,⟨kvs,eD,hl,hv⟩,hG⟩:=h
 refine zz ?_;clear zz
 exact ⟨⟨t,u.get eS h1⟩,⟨kvs,u.get eD h2,hl,hv⟩,fun j g hg=>(hG j g hg).upd u (h3 j g hg)⟩
end
namespace spec_setCode
noncomputable def S₀ (c:Cx) (m:Loc) (σ:Map) (X:Str→Map→Prop) (A:Around) (n:Nat) (S:Addr) (H:Addr) (D:Addr) (CT:Addr) (Z:Addr) (gen:Int) (last:Int) (cap:Nat) (zcap:Nat) (gl:Str→Option GI) (nm:Str) (tn:Tok) (Q:Value→Loc→Map→Prop):Prop:=∀ (hY:Fly.Leaves prog w G (zg G 336)) (hA:A.frames=some c.fr) (hR:Rm A (n+6)) {code:Option Addr} (hS:Stash prog w σ S H D gen cap gl) (hC:CountAt prog w σ CT H Z last zcap) (hcap:cap≤999) (hz:zcap≤1000) (hcode:∀ a,code=some a→∃ num,CodeAt σ a num) (hgc:∀ j g a,gl j=some g→g.co=some a→∃ num,CodeAt σ a num) (hinj:∀ j j' g g',gl j=some g→gl j'=some g'→g.ga=g'.ga→j=j') (hQ:∀ σ' g last',Upd (fun a=>a=H∨a=D∨a=S∨a=Z∨(∃ j g,gl j=some g∧a=g.ga)∨code=some a∨(∃ j g,gl j=some g∧g.co=some a)) σ σ'→Stash prog w σ' S H D (gen+1) (cap+1) (zM gl nm { g with co:=code }) →
 (gl nm=some g∨(gl nm=none∧σ g.ga=none∧g.sc=none∧g.ar=none∧g.co=none))→CountAt prog w σ' CT H Z last' (zcap+1)→(∀ a n,CodeAt σ a n→CodeAt σ' a n)→Q .none m σ'),COK prog w G (zg G 336) c A (.ref 415) ⟨[.ref S,.ref CT,.str nm tn,optV code],[]⟩ m σ Q X
noncomputable def e₀:Cx × Loc × Map × (Str→Map→Prop) × Around × Nat × Addr × Addr × Addr × Addr × Addr × Int × Int × Nat × Nat × (Str→Option GI) × Str × Tok × (Value→Loc→Map→Prop):=@Classical.epsilon _ ⟨(dCx,default,default,default,callerA,default,default,default,default,default,default,default,default,default,default,default,default,default,default)⟩ fun x=>¬ S₀ x.1 x.2.1 x.2.2.1 x.2.2.2.1 x.2.2.2.2.1 x.2.2.2.2.2.1 x.2.2.2.2.2.2.1 x.2.2.2.2.2.2.2.1 x.2.2.2.2.2.2.2.2.1 x.2.2.2.2.2.2.2.2.2.1 x.2.2.2.2.2.2.2.2.2.2.1 x.2.2.2.2.2.2.2.2.2.2.2.1 x.2.2.2.2.2.2.2.2.2.2.2.2.1 x.2.2.2.2.2.2.2.2.2.2.2.2.2.1 x.2.2.2.2.2.2.2.2.2.2.2.2.2.2.1 x.2.2.2.2.2.2.2.2.2.2.2.2.2.2.2.1 x.2.2.2.2.2.2.2.2.2.2.2.2.2.2.2.2.1 x.2.2.2.2.2.2.2.2.2.2.2.2.2.2.2.2.2.1 x.2.2.2.2.2.2.2.2.2.2.2.2.2.2.2.2.2.2
@[irreducible] noncomputable def c:Cx:=e₀.1
@[irreducible] noncomputable def m:Loc:=e₀.2.1
@[irreducible] noncomputable def σ:Map:=e₀.2.2.1
@[irreducible] noncomputable def X:Str→Map→Prop:=e₀.2.2.2.1
@[irreducible] noncomputable def A:Around:=e₀.2.2.2.2.1
@[irreducible] noncomputable def n:Nat:=e₀.2.2.2.2.2.1
@[irreducible] noncomputable def S:Addr:=e₀.2.2.2.2.2.2.1
@[irreducible] noncomputable def H:Addr:=e₀.2.2.2.2.2.2.2.1
@[irreducible] noncomputable def D:Addr:=e₀.2.2.2.2.2.2.2.2.1
@[irreducible] noncomputable def CT:Addr:=e₀.2.2.2.2.2.2.2.2.2.1
@[irreducible] noncomputable def Z:Addr:=e₀.2.2.2.2.2.2.2.2.2.2.1
@[irreducible] noncomputable def gen:Int:=e₀.2.2.2.2.2.2.2.2.2.2.2.1
@[irreducible] noncomputable def last:Int:=e₀.2.2.2.2.2.2.2.2.2.2.2.2.1
@[irreducible] noncomputable def cap:Nat:=e₀.2.2.2.2.2.2.2.2.2.2.2.2.2.1
@[irreducible] noncomputable def zcap:Nat:=e₀.2.2.2.2.2.2.2.2.2.2.2.2.2.2.1
@[irreducible] noncomputable def gl:Str→Option GI:=e₀.2.2.2.2.2.2.2.2.2.2.2.2.2.2.2.1
@[irreducible] noncomputable def nm:Str:=e₀.2.2.2.2.2.2.2.2.2.2.2.2.2.2.2.2.1
@[irreducible] noncomputable def tn:Tok:=e₀.2.2.2.2.2.2.2.2.2.2.2.2.2.2.2.2.2.1
@[irreducible] noncomputable def Q:Value→Loc→Map→Prop:=e₀.2.2.2.2.2.2.2.2.2.2.2.2.2.2.2.2.2.2
theorem here:S₀ c m σ X A n S H D CT Z gen last cap zcap gl nm tn Q:=by
 intro hY hA hR code hS hC hcap hz hcode hgc hinj hQ
 show COK prog w G (zg G 336) c A (.ref 415) ⟨[.ref S,.ref CT,.str nm tn,optV code],[]⟩ m σ Q X
 refine zk fun zz=>?_
 obtain ⟨tg,eS⟩:=id hS.hS
 obtain ⟨kvs₀,eD,_,_⟩:=id hS.hD
 obtain ⟨⟨PL,eC⟩,hH,zs,eZ,hzs⟩:=id hC
 obtain ⟨lim,tl,eH⟩:=id hH
 refine zz ?_;clear zz
 walk_at "fn"
 intro d hR'
 refine ze (zu (zI (zb rfl (zQ eS (by kernel_rfl) rfl (zf (by kernel_rfl) (za (zb rfl (zc (COK.call (spec_globOf' hY rfl hR' hS hH (by omega) fun σ₁ g last₁ u₁ hH₁ hS₁ hg=>zx ?_))))))))))
 have nHD:∀ {a:Addr} {ao:AO},σ a=some ao→(∀ fs,ao≠.inst 246 fs)→(∀ P,ao≠.raw P)→¬ (a=H∨a=D):=fun ha h1 h2 z=>by
  rcases z with z | z
  ·rw [z,eH] at ha;exact h1 _ (Option.some.inj ha).symm
  ·rw [z,eD] at ha;exact h2 _ (Option.some.inj ha).symm
 have k₁:∀ a n,CodeAt σ a n→CodeAt σ₁ a n:=fun a n h=>by
  refine zk fun zz=>?_
  obtain ⟨_,_,_,_,_,_,_,_,h'⟩:=id h
  refine zz ?_;clear zz
  exact h.upd u₁ (nHD h' (fun fs z=>by cases z) (fun P z=>by cases z))
 have hgn:zM gl nm g nm=some g:=if_pos rfl
 refine zk fun zz=>?_
 obtain ⟨n1,c1,wk,nm1,eg⟩:=hS₁.hG nm g hgn
 obtain ⟨tg₁,eS₁⟩:=id hS₁.hS
 obtain ⟨kvs₁,eD₁,hl₁,hv₁⟩:=id hS₁.hD
 obtain ⟨lim₁,tl₁,eH₁⟩:=id hH₁
 refine zz ?_;clear zz
 have eC₁:=u₁.get eC (nHD eC (fun fs z=>by cases z) (fun P z=>by cases z))
 have eZ₁:=u₁.get eZ (nHD eZ (fun fs z=>by cases z) (fun P z=>by cases z))
 have dS:S≠g.ga:=zK eS₁ eg (by intro z;cases z)
 have dD:D≠g.ga:=zK eD₁ eg (by intro z;cases z)
 have dH:H≠g.ga:=zK eH₁ eg (by intro z;cases z)
 have dC:CT≠g.ga:=zK eC₁ eg (by intro z;cases z)
 have dZ:Z≠g.ga:=zK eZ₁ eg (by intro z;cases z)
 refine ze (zu (zB (zb rfl (zw eg (by kernel_rfl) rfl (handed_opt _) (zx ?_)))))
 refine ze (zi (zb rfl (zb rfl (zn eg (by kernel_rfl) (lek (by kernel_rfl)) ?_))))
 have hC₂:CountAt prog w (σ₁.set g.ga (.inst 163 (putF "code" (optV code) (globF n1 c1 wk nm1 (optV g.sc) (optV g.ar) (optV g.co))))) CT H Z last₁ zcap:=
  ⟨⟨PL,Map.set_other eC₁ dC⟩,⟨lim₁,tl₁,Map.set_other eH₁ dH⟩,zs,Map.set_other eZ₁ dZ,hzs⟩
 have k₂:∀ a n,CodeAt σ a n→CodeAt (σ₁.set g.ga (.inst 163 (putF "code" (optV code) (globF n1 c1 wk nm1 (optV g.sc) (optV g.ar) (optV g.co))))) a n:=fun a n h=>by
  refine zk fun zz=>?_
  obtain ⟨_,_,_,_,_,_,_,_,h'⟩:=id (k₁ a n h)
  refine zz ?_;clear zz
  exact (k₁ a n h).upd (Upd.refl.set_in (F:=fun a=>a=g.ga) rfl) fun z=>zK h' eg (by intro z;cases z) z
 have hold:∀ a,g.co=some a→∃ j g',gl j=some g'∧g'.co=some a:=fun a h=>by
  rcases hg with hg | ⟨_,_,_,_,hg⟩
  ·exact ⟨nm,g,hg,h⟩
  ·rw [hg] at h;cases h
 refine ze (jt (zv (zh (by k_is) (zf (by kernel_rfl) (za (zb rfl (za (zb rfl (za (zb rfl (zc (COK.call (spec_swap (n:=n+3) hY rfl hR' hC₂ hz
  (fun a h=>by obtain ⟨num,h⟩:=hcode a h;exact ⟨num,k₂ a num h⟩) (fun a h=>by obtain ⟨j,g',h1,h2⟩:=hold a h;obtain ⟨num,h⟩:=hgc j g' a h1 h2;exact ⟨num,k₂ a num h⟩) fun σ₃ zs₃ u₃ k₃ eZ₃ hl₃=>?_)))))))))))))
 have cd:∀ {a b:Addr} {ao:AO},code=some a∨g.co=some a∨a=Z→(σ₁.set g.ga (.inst 163 (putF "code" (optV code) (globF n1 c1 wk nm1 (optV g.sc) (optV g.ar) (optV g.co))))) a=some ao→(∀ fs,ao≠.inst 144 fs)→(∀ xs,ao≠.seq false xs)→False:=fun {a b ao} h ha h1 h2=>by
  rcases h with h | h | h
  ·refine zk fun zz=>?_
   obtain ⟨num,h⟩:=hcode a h
   obtain ⟨_,_,_,_,_,_,_,_,h'⟩:=k₂ a num h
   refine zz ?_;clear zz
   rw [ha] at h';exact h1 _ (Option.some.inj h')
  ·refine zk fun zz=>?_
   obtain ⟨j,g',h3,h4⟩:=hold a h
   obtain ⟨num,h⟩:=hgc j g' a h3 h4
   obtain ⟨_,_,_,_,_,_,_,_,h'⟩:=k₂ a num h
   refine zz ?_;clear zz
   rw [ha] at h';exact h1 _ (Option.some.inj h')
  ·rw [h,Map.set_other eZ₁ dZ] at ha;exact h2 _ (Option.some.inj ha).symm
 have eS₃:=u₃.get (Map.set_other eS₁ dS) fun z=>cd (b:=S) z (Map.set_other eS₁ dS) (fun _ z=>by cases z) (fun _ z=>by cases z)
 refine ze (P_augAttr (zb rfl (zw eS₃ (by kernel_rfl) rfl rfl (zD fun t5=>P_iaddInt fun t6=>zn eS₃ (by kernel_rfl) (lek (by kernel_rfl)) (zy ?_)))))
 have nS:∀ {a:Addr} {ao:AO},σ₃ a=some ao→(∀ fs,ao≠.inst 397 fs)→a≠S:=fun ha h=>zK ha eS₃ (h _)
 have up:∀ {a:Addr} {ao:AO},(σ₁.set g.ga (.inst 163 (putF "code" (optV code) (globF n1 c1 wk nm1 (optV g.sc) (optV g.ar) (optV g.co))))) a=some ao→(∀ fs,ao≠.inst 144 fs)→(∀ xs,ao≠.seq false xs)→(∀ fs,ao≠.inst 397 fs) →
  (σ₃.set S (.inst 397 (putF "generation" (.int (gen+1) t6) (stashF H D (.int gen tg₁))))) a=some ao:=fun {a ao} ha h1 h2 h3=>by
  have:=u₃.get ha fun z=>cd (b:=S) z ha h1 h2
  exact Map.set_other this (nS this h3)
 refine hQ _ g last₁ ?_ ⟨⟨t6,ju (by kernel_rfl)⟩,⟨kvs₁,up (Map.set_other eD₁ dD) (fun _ z=>by cases z) (fun _ z=>by cases z) (fun _ z=>by cases z),by omega,fun j=>?_⟩,fun j g' hj=>?_⟩ hg
  ⟨⟨PL,up (Map.set_other eC₁ dC) (fun _ z=>by cases z) (fun _ z=>by cases z) (fun _ z=>by cases z)⟩,⟨lim₁,tl₁,up (Map.set_other eH₁ dH) (fun _ z=>by cases z) (fun _ z=>by cases z) (fun _ z=>by cases z)⟩,zs₃,Map.set_other eZ₃ (nS eZ₃ fun _ z=>by cases z),by omega⟩ fun a n h=>?_
 ·have a1:Upd (fun a=>a=H∨a=D∨a=S∨a=Z∨(∃ j g,gl j=some g∧a=g.ga)∨code=some a∨(∃ j g,gl j=some g∧g.co=some a)) σ σ₁:=u₁.mono fun a h=>by rcases h with h | h <;> simp [h]
  have a2:Upd (fun a=>a=H∨a=D∨a=S∨a=Z∨(∃ j g,gl j=some g∧a=g.ga)∨code=some a∨(∃ j g,gl j=some g∧g.co=some a)) σ (σ₁.set g.ga (.inst 163 (putF "code" (optV code) (globF n1 c1 wk nm1 (optV g.sc) (optV g.ar) (optV g.co))))):=by
   rcases hg with hg | ⟨_,hg,_⟩
   ·exact a1.set_in (.inr (.inr (.inr (.inr (.inl ⟨nm,g,hg,rfl⟩)))))
   ·exact a1.set_loc hg
  refine (a2.trans (u₃.mono fun a h=>?_)).set_in (.inr (.inr (.inl rfl)))
  rcases h with h | h | h
  ·exact .inr (.inr (.inr (.inr (.inr (.inl h)))))
  ·exact .inr (.inr (.inr (.inr (.inr (.inr (hold a h))))))
  ·exact .inr (.inr (.inr (.inl h)))
 ·rw [hv₁];unfold zM;split <;> rfl
 ·unfold zM at hj
  split at hj
  ·first | exact nb hj | exact nt hj | cases hj
   exact ⟨n1,c1,wk,nm1,up (ju (by kernel_rfl)) (fun _ z=>by cases z) (fun _ z=>by cases z) (fun _ z=>by cases z)⟩
  ·rename_i hne
   obtain ⟨n2,c2,wk2,nm2,e2⟩:=hS₁.hG j g' (by unfold zM;rw [if_neg hne];exact hj)
   have hgg:g'.ga≠g.ga:=fun z=>by
    rcases hg with hg | ⟨_,hg,_⟩
    ·exact hne (hinj _ _ _ _ hj hg z)
    ·refine zk fun zz=>?_
     obtain ⟨_,_,_,_,e3⟩:=hS.hG j g' hj
     refine zz ?_;clear zz
     rw [z,hg] at e3;cases e3
   exact ⟨n2,c2,wk2,nm2,up (Map.set_other e2 hgg) (fun _ z=>by cases z) (fun _ z=>by cases z) (fun _ z=>by cases z)⟩
 ·have h3:=k₃ a n (k₂ a n h)
  refine zk fun zz=>?_
  obtain ⟨_,_,_,_,_,_,_,_,h'⟩:=id h3
  refine zz ?_;clear zz
  exact h3.upd (Upd.refl.set_in (F:=fun a=>a=S) rfl) (nS h' fun _ z=>by cases z)
end spec_setCode
section
variable {c:Cx}{X:Str→Map→Prop}{m:Loc}{σ τ:Map}
theorem spec_setCode {A:Around}{n:Nat}(hY:Fly.Leaves prog w G (zg G 336)) (hA:A.frames=some c.fr) (hR:Rm A (n+6)) {S:Addr}{H:Addr}{D:Addr}{CT:Addr}{Z:Addr}{gen:Int}{last:Int}{cap:Nat}{zcap:Nat}{gl:Str→Option GI}{nm:Str}{tn:Tok}{code:Option Addr}{Q:Value→Loc→Map→Prop}(hS:Stash prog w σ S H D gen cap gl) (hC:CountAt prog w σ CT H Z last zcap) (hcap:cap≤999) (hz:zcap≤1000) (hcode:∀ a,code=some a→∃ num,CodeAt σ a num) (hgc:∀ j g a,gl j=some g→g.co=some a→∃ num,CodeAt σ a num) (hinj:∀ j j' g g',gl j=some g→gl j'=some g'→g.ga=g'.ga→j=j') (hQ:∀ σ' g last',Upd (fun a=>a=H∨a=D∨a=S∨a=Z∨(∃ j g,gl j=some g∧a=g.ga)∨code=some a∨(∃ j g,gl j=some g∧g.co=some a)) σ σ'→Stash prog w σ' S H D (gen+1) (cap+1) (zM gl nm { g with co:=code }) →
 (gl nm=some g∨(gl nm=none∧σ g.ga=none∧g.sc=none∧g.ar=none∧g.co=none))→CountAt prog w σ' CT H Z last' (zcap+1)→(∀ a n,CodeAt σ a n→CodeAt σ' a n)→Q .none m σ'):COK prog w G (zg G 336) c A (.ref 415) ⟨[.ref S,.ref CT,.str nm tn,optV code],[]⟩ m σ Q X:=by with_unfolding_all exact eps (fun x:Cx × Loc × Map × (Str→Map→Prop) × Around × Nat × Addr × Addr × Addr × Addr × Addr × Int × Int × Nat × Nat × (Str→Option GI) × Str × Tok × (Value→Loc→Map→Prop)=>spec_setCode.S₀ x.1 x.2.1 x.2.2.1 x.2.2.2.1 x.2.2.2.2.1 x.2.2.2.2.2.1 x.2.2.2.2.2.2.1 x.2.2.2.2.2.2.2.1 x.2.2.2.2.2.2.2.2.1 x.2.2.2.2.2.2.2.2.2.1 x.2.2.2.2.2.2.2.2.2.2.1 x.2.2.2.2.2.2.2.2.2.2.2.1 x.2.2.2.2.2.2.2.2.2.2.2.2.1 x.2.2.2.2.2.2.2.2.2.2.2.2.2.1 x.2.2.2.2.2.2.2.2.2.2.2.2.2.2.1 x.2.2.2.2.2.2.2.2.2.2.2.2.2.2.2.1 x.2.2.2.2.2.2.2.2.2.2.2.2.2.2.2.2.1 x.2.2.2.2.2.2.2.2.2.2.2.2.2.2.2.2.2.1 x.2.2.2.2.2.2.2.2.2.2.2.2.2.2.2.2.2.2) spec_setCode.here (c,m,σ,X,A,n,S,H,D,CT,Z,gen,last,cap,zcap,gl,nm,tn,Q) hY hA hR hS hC hcap hz hcode hgc hinj hQ
end
section
variable {c:Cx}{X:Str→Map→Prop}{m:Loc}{σ τ:Map}
noncomputable def jB (H D:Addr) (gl:Str→Option GI) (a:Addr):Prop:=a=H∨a=D∨∃ j g,gl j=some g∧a=g.ga
end
namespace spec_arrayOf
noncomputable def S₀ (c:Cx) (m:Loc) (σ:Map) (X:Str→Map→Prop) (A:Around) (n:Nat) (S:Addr) (H:Addr) (D:Addr) (Z:Addr) (gen:Int) (last:Int) (cap:Nat) (gl:Str→Option GI) (nm:Str) (tn:Tok) (Q:Value→Loc→Map→Prop):Prop:=∀ (hY:Fly.Leaves prog w G (zg G 336)) (hA:A.frames=some c.fr) (hR:Rm A (n+6)) (hS:Stash prog w σ S H D gen cap gl) (hH:HeapAt σ H Z last) (hcap:cap≤999) (hga:∀ j g a,gl j=some g→g.ar=some a→∃ bl l,ArrAt σ a bl l) (hinj:∀ j j' g g',gl j=some g→gl j'=some g'→g.ga=g'.ga→j=j') (hQ:∀ σ' g a last',Upd (jB H D gl) σ σ'→HeapAt σ' H Z last'→Stash prog w σ' S H D gen (cap+1) (zM gl nm { g with ar:=some a })→(gl nm=some g∨(gl nm=none∧σ g.ga=none∧g.sc=none∧g.ar=none∧g.co=none)) →
 (g.ar=some a∨(g.ar=none∧σ a=none∧∃ l,ArrAt σ' a .none l∧σ l=none∧σ' l=some (.seq false [])))→Q (.ref a) m σ'),COK prog w G (zg G 336) c A (.ref 373) ⟨[.ref S,.str nm tn],[]⟩ m σ Q X
noncomputable def e₀:Cx × Loc × Map × (Str→Map→Prop) × Around × Nat × Addr × Addr × Addr × Addr × Int × Int × Nat × (Str→Option GI) × Str × Tok × (Value→Loc→Map→Prop):=@Classical.epsilon _ ⟨(dCx,default,default,default,callerA,default,default,default,default,default,default,default,default,default,default,default,default)⟩ fun x=>¬ S₀ x.1 x.2.1 x.2.2.1 x.2.2.2.1 x.2.2.2.2.1 x.2.2.2.2.2.1 x.2.2.2.2.2.2.1 x.2.2.2.2.2.2.2.1 x.2.2.2.2.2.2.2.2.1 x.2.2.2.2.2.2.2.2.2.1 x.2.2.2.2.2.2.2.2.2.2.1 x.2.2.2.2.2.2.2.2.2.2.2.1 x.2.2.2.2.2.2.2.2.2.2.2.2.1 x.2.2.2.2.2.2.2.2.2.2.2.2.2.1 x.2.2.2.2.2.2.2.2.2.2.2.2.2.2.1 x.2.2.2.2.2.2.2.2.2.2.2.2.2.2.2.1 x.2.2.2.2.2.2.2.2.2.2.2.2.2.2.2.2
@[irreducible] noncomputable def c:Cx:=e₀.1
@[irreducible] noncomputable def m:Loc:=e₀.2.1
@[irreducible] noncomputable def σ:Map:=e₀.2.2.1
@[irreducible] noncomputable def X:Str→Map→Prop:=e₀.2.2.2.1
@[irreducible] noncomputable def A:Around:=e₀.2.2.2.2.1
@[irreducible] noncomputable def n:Nat:=e₀.2.2.2.2.2.1
@[irreducible] noncomputable def S:Addr:=e₀.2.2.2.2.2.2.1
@[irreducible] noncomputable def H:Addr:=e₀.2.2.2.2.2.2.2.1
@[irreducible] noncomputable def D:Addr:=e₀.2.2.2.2.2.2.2.2.1
@[irreducible] noncomputable def Z:Addr:=e₀.2.2.2.2.2.2.2.2.2.1
@[irreducible] noncomputable def gen:Int:=e₀.2.2.2.2.2.2.2.2.2.2.1
@[irreducible] noncomputable def last:Int:=e₀.2.2.2.2.2.2.2.2.2.2.2.1
@[irreducible] noncomputable def cap:Nat:=e₀.2.2.2.2.2.2.2.2.2.2.2.2.1
@[irreducible] noncomputable def gl:Str→Option GI:=e₀.2.2.2.2.2.2.2.2.2.2.2.2.2.1
@[irreducible] noncomputable def nm:Str:=e₀.2.2.2.2.2.2.2.2.2.2.2.2.2.2.1
@[irreducible] noncomputable def tn:Tok:=e₀.2.2.2.2.2.2.2.2.2.2.2.2.2.2.2.1
@[irreducible] noncomputable def Q:Value→Loc→Map→Prop:=e₀.2.2.2.2.2.2.2.2.2.2.2.2.2.2.2.2
theorem here:S₀ c m σ X A n S H D Z gen last cap gl nm tn Q:=by
 intro hY hA hR hS hH hcap hga hinj hQ
 show COK prog w G (zg G 336) c A (.ref 373) ⟨[.ref S,.str nm tn],[]⟩ m σ Q X
 obtain ⟨tg,eS⟩:=id hS.hS
 walk_at "fn"
 refine eps (n:=⟨dDyn⟩) _ ?_
 intro hR'
 refine ze (zu (zI (zb rfl (zQ eS (by kernel_rfl) rfl (zf (by kernel_rfl) (za (zb rfl (zc (COK.call (spec_globOf' hY rfl hR' hS hH (by omega) fun σ₁ g last₁ u₁ hH₁ hS₁ hg=>zx ?_))))))))))
 have hgn:zM gl nm g nm=some g:=if_pos rfl
 refine zk fun zz=>?_
 obtain ⟨n1,c1,wk,nm1,eg⟩:=hS₁.hG nm g hgn
 obtain ⟨tg₁,eS₁⟩:=id hS₁.hS
 obtain ⟨lim₁,tl₁,eH₁⟩:=id hH₁
 refine zz ?_;clear zz
 have up₁:Upd (jB H D gl) σ σ₁:=u₁.mono fun a h=>by rcases h with h | h <;> simp [jB,h]
 cases hga':g.ar with
 | some a=>
  rw [hga'] at eg
  have eg':zM gl nm { g with ar:=some a }=zM gl nm g:=by
   refine zk fun zz=>?_
   obtain ⟨ga,sc,ar,co⟩:=g
   refine zz ?_;clear zz
   simp only at hga'
   rw [hga']
  refine ze (zJ (zj (zB (zb rfl (zw eg (by kernel_rfl) rfl rfl (zA (zN rfl (zd ⟨fun hb=>?_,fun hb=>zy ?_⟩))))))))
  ·first | exact nb hb | exact nt hb | cases hb
  exact ze (zO (zB (zb rfl (zw eg (by kernel_rfl) rfl rfl (hQ σ₁ g a last₁ up₁ hH₁ (by rw [eg'];exact hS₁) hg (.inl hga'))))))
 | none=>
  rw [hga'] at eg
  refine ze (zJ (zj (zB (zb rfl (zw eg (by kernel_rfl) rfl rfl (zA (zN rfl (zd ⟨fun hb=>?_,fun hb=>?_⟩))))))))
  rotate_left
  ·first | exact nb hb | exact nt hb | cases hb
  refine ze (zi (zI (zB (zb rfl (zw eS₁ (by kernel_rfl) rfl rfl (zQ eH₁ (by kernel_rfl) rfl (jl (by kernel_rfl) (COK.call (spec_newArray (n:=n+1) hY rfl hR' eH₁ fun σ₂ x t t' wk2 l u₂ eH₂ h0 hx hl0 hl=>?_)))))))))
  have eg₂:=u₂.get eg (zK eg eH₁ (by intro z;cases z))
  have dx:x≠g.ga:=(zm eg h0).symm
  have dl:l≠g.ga:=(zm eg hl0).symm
  have dlx:l≠x:=zK hl hx (by intro z;cases z)
  refine zb rfl (zn eg₂ (by kernel_rfl) (lek (by kernel_rfl)) ?_)
  refine ze (P_augAttr (zB (zb rfl (zw (v:=.ref x) Map.set_self (by kernel_rfl) rfl rfl (zw (Map.set_other hx dx) (by kernel_rfl) rfl rfl (zD fun t5=>P_iaddInt fun t6=>zn (Map.set_other hx dx) (by kernel_rfl) (lek (by kernel_rfl)) (zy ?_)))))))
  refine ze (zO (zB (zb rfl (zw (v:=.ref x) (Map.set_other Map.set_self dx.symm) (by kernel_rfl) rfl rfl ?_))))
  refine zk fun zz=>?_
  obtain ⟨kvs₁,eD₁,hl₁,hv₁⟩:=id hS₁.hD
  refine zz ?_;clear zz
  have nF:∀ a,jB H D gl a→σ₁ a≠none:=fun a h z=>by
   rcases h with h | h | ⟨j,g2,h1,h2⟩
   ·rw [h,eH₁] at z;cases z
   ·rw [h,eD₁] at z;cases z
   ·by_cases hj:j=nm
    ·subst hj
     rcases hg with hg | ⟨hg,_⟩
     ·rw [hg] at h1;cases h1;rw [h2,eg] at z;cases z
     ·rw [hg] at h1;cases h1
    ·obtain ⟨_,_,_,_,e3⟩:=hS₁.hG j g2 (by unfold zM;rw [if_neg hj];exact h1)
     rw [h2,e3] at z;cases z
  have sx:σ x=none:=up₁.none_of h0 fun h=>nF x h h0
  have sl:σ l=none:=up₁.none_of hl0 fun h=>nF l h hl0
  have up:∀ {a:Addr} {ao:AO},σ₁ a=some ao→a≠H→a≠g.ga→((σ₂.set g.ga (.inst 163 (putF "array" (.ref x) (globF n1 c1 wk nm1 (optV g.sc) (optV none) (optV g.co))))).set x (.inst 106 (putF "count" (.int (0+1) t6) (arrayF (.int (last₁+1) t) (.int 0 t') .none wk2 l)))) a=some ao:=fun {a ao} ha h1 h2=>
   Map.set_other (Map.set_other (u₂.get ha h1) h2) (zm ha h0)
  have dS:S≠g.ga:=zK eS₁ eg (by intro z;cases z)
  have dD:D≠g.ga:=zK eD₁ eg (by intro z;cases z)
  have dH:H≠g.ga:=zK eH₁ eg (by intro z;cases z)
  refine hQ _ g x (last₁+1) ?_ ⟨lim₁,t,Map.set_other (Map.set_other eH₂ dH) (zm eH₁ h0)⟩ ⟨⟨tg₁,up eS₁ (zK eS₁ eH₁ (by intro z;cases z)) dS⟩,⟨kvs₁,up eD₁ (zK eD₁ eH₁ (by intro z;cases z)) dD,hl₁,fun j=>?_⟩,fun j g' hj=>?_⟩ hg
   (.inr ⟨hga',sx,l,⟨last₁+1,t,0+1,t6,wk2,ju (by kernel_rfl)⟩,sl,Map.set_other (Map.set_other hl dl) dlx⟩)
  ·have a1:Upd (jB H D gl) σ σ₂:=up₁.trans (u₂.mono fun a h=>.inl h)
   refine Upd.set_loc ?_ sx
   rcases hg with hg | ⟨_,hg,_⟩
   ·exact a1.set_in (.inr (.inr ⟨nm,g,hg,rfl⟩))
   ·exact a1.set_loc hg
  ·rw [hv₁];unfold zM;split <;> rfl
  ·unfold zM at hj
   split at hj
   ·first | exact nb hj | exact nt hj | cases hj
    exact ⟨n1,c1,wk,nm1,Map.set_other (ju (by kernel_rfl)) dx.symm⟩
   ·rename_i hne
    obtain ⟨n2,c2,wk3,nm2,e2⟩:=hS₁.hG j g' (by unfold zM;rw [if_neg hne];exact hj)
    have hgg:g'.ga≠g.ga:=fun z=>by
     rcases hg with hg | ⟨_,hg,_⟩
     ·exact hne (hinj _ _ _ _ hj hg z)
     ·refine zk fun zz=>?_
      obtain ⟨_,_,_,_,e3⟩:=hS.hG j g' hj
      refine zz ?_;clear zz
      rw [z,hg] at e3;cases e3
    exact ⟨n2,c2,wk3,nm2,up e2 (zK e2 eH₁ (by intro z;cases z)) hgg⟩
end spec_arrayOf
section
variable {c:Cx}{X:Str→Map→Prop}{m:Loc}{σ τ:Map}
theorem spec_arrayOf {A:Around}{n:Nat}(hY:Fly.Leaves prog w G (zg G 336)) (hA:A.frames=some c.fr) (hR:Rm A (n+6)) {S:Addr}{H:Addr}{D:Addr}{Z:Addr}{gen:Int}{last:Int}{cap:Nat}{gl:Str→Option GI}{nm:Str}{tn:Tok}{Q:Value→Loc→Map→Prop}(hS:Stash prog w σ S H D gen cap gl) (hH:HeapAt σ H Z last) (hcap:cap≤999) (hga:∀ j g a,gl j=some g→g.ar=some a→∃ bl l,ArrAt σ a bl l) (hinj:∀ j j' g g',gl j=some g→gl j'=some g'→g.ga=g'.ga→j=j') (hQ:∀ σ' g a last',Upd (jB H D gl) σ σ'→HeapAt σ' H Z last'→Stash prog w σ' S H D gen (cap+1) (zM gl nm { g with ar:=some a })→(gl nm=some g∨(gl nm=none∧σ g.ga=none∧g.sc=none∧g.ar=none∧g.co=none)) →
 (g.ar=some a∨(g.ar=none∧σ a=none∧∃ l,ArrAt σ' a .none l∧σ l=none∧σ' l=some (.seq false [])))→Q (.ref a) m σ'):COK prog w G (zg G 336) c A (.ref 373) ⟨[.ref S,.str nm tn],[]⟩ m σ Q X:=by with_unfolding_all exact eps (fun x:Cx × Loc × Map × (Str→Map→Prop) × Around × Nat × Addr × Addr × Addr × Addr × Int × Int × Nat × (Str→Option GI) × Str × Tok × (Value→Loc→Map→Prop)=>spec_arrayOf.S₀ x.1 x.2.1 x.2.2.1 x.2.2.2.1 x.2.2.2.2.1 x.2.2.2.2.2.1 x.2.2.2.2.2.2.1 x.2.2.2.2.2.2.2.1 x.2.2.2.2.2.2.2.2.1 x.2.2.2.2.2.2.2.2.2.1 x.2.2.2.2.2.2.2.2.2.2.1 x.2.2.2.2.2.2.2.2.2.2.2.1 x.2.2.2.2.2.2.2.2.2.2.2.2.1 x.2.2.2.2.2.2.2.2.2.2.2.2.2.1 x.2.2.2.2.2.2.2.2.2.2.2.2.2.2.1 x.2.2.2.2.2.2.2.2.2.2.2.2.2.2.2.1 x.2.2.2.2.2.2.2.2.2.2.2.2.2.2.2.2) spec_arrayOf.here (c,m,σ,X,A,n,S,H,D,Z,gen,last,cap,gl,nm,tn,Q) hY hA hR hS hH hcap hga hinj hQ
end
namespace spec_scalarOf
noncomputable def S₀ (c:Cx) (m:Loc) (σ:Map) (X:Str→Map→Prop) (A:Around) (n:Nat) (S:Addr) (H:Addr) (D:Addr) (Z:Addr) (gen:Int) (last:Int) (cap:Nat) (gl:Str→Option GI) (nm:Str) (tn:Tok) (Q:Value→Loc→Map→Prop):Prop:=∀ (hY:Fly.Leaves prog w G (zg G 336)) (hA:A.frames=some c.fr) (hR:Rm A (n+6)) (hS:Stash prog w σ S H D gen cap gl) (hH:HeapAt σ H Z last) (hcap:cap≤999) (hinj:∀ j j' g g',gl j=some g→gl j'=some g'→g.ga=g'.ga→j=j') (hQ:∀ σ' g a last',Upd (jB H D gl) σ σ'→HeapAt σ' H Z last'→Stash prog w σ' S H D gen (cap+1) (zM gl nm { g with sc:=some a })→(gl nm=some g∨(gl nm=none∧σ g.ga=none∧g.sc=none∧g.ar=none∧g.co=none)) →
 (g.sc=some a∨(g.sc=none∧σ a=none∧ScalarAt σ' a .none))→Q (.ref a) m σ'),COK prog w G (zg G 336) c A (.ref 366) ⟨[.ref S,.str nm tn],[]⟩ m σ Q X
noncomputable def e₀:Cx × Loc × Map × (Str→Map→Prop) × Around × Nat × Addr × Addr × Addr × Addr × Int × Int × Nat × (Str→Option GI) × Str × Tok × (Value→Loc→Map→Prop):=@Classical.epsilon _ ⟨(dCx,default,default,default,callerA,default,default,default,default,default,default,default,default,default,default,default,default)⟩ fun x=>¬ S₀ x.1 x.2.1 x.2.2.1 x.2.2.2.1 x.2.2.2.2.1 x.2.2.2.2.2.1 x.2.2.2.2.2.2.1 x.2.2.2.2.2.2.2.1 x.2.2.2.2.2.2.2.2.1 x.2.2.2.2.2.2.2.2.2.1 x.2.2.2.2.2.2.2.2.2.2.1 x.2.2.2.2.2.2.2.2.2.2.2.1 x.2.2.2.2.2.2.2.2.2.2.2.2.1 x.2.2.2.2.2.2.2.2.2.2.2.2.2.1 x.2.2.2.2.2.2.2.2.2.2.2.2.2.2.1 x.2.2.2.2.2.2.2.2.2.2.2.2.2.2.2.1 x.2.2.2.2.2.2.2.2.2.2.2.2.2.2.2.2
@[irreducible] noncomputable def c:Cx:=e₀.1
@[irreducible] noncomputable def m:Loc:=e₀.2.1
@[irreducible] noncomputable def σ:Map:=e₀.2.2.1
@[irreducible] noncomputable def X:Str→Map→Prop:=e₀.2.2.2.1
@[irreducible] noncomputable def A:Around:=e₀.2.2.2.2.1
@[irreducible] noncomputable def n:Nat:=e₀.2.2.2.2.2.1
@[irreducible] noncomputable def S:Addr:=e₀.2.2.2.2.2.2.1
@[irreducible] noncomputable def H:Addr:=e₀.2.2.2.2.2.2.2.1
@[irreducible] noncomputable def D:Addr:=e₀.2.2.2.2.2.2.2.2.1
@[irreducible] noncomputable def Z:Addr:=e₀.2.2.2.2.2.2.2.2.2.1
@[irreducible] noncomputable def gen:Int:=e₀.2.2.2.2.2.2.2.2.2.2.1
@[irreducible] noncomputable def last:Int:=e₀.2.2.2.2.2.2.2.2.2.2.2.1
@[irreducible] noncomputable def cap:Nat:=e₀.2.2.2.2.2.2.2.2.2.2.2.2.1
@[irreducible] noncomputable def gl:Str→Option GI:=e₀.2.2.2.2.2.2.2.2.2.2.2.2.2.1
@[irreducible] noncomputable def nm:Str:=e₀.2.2.2.2.2.2.2.2.2.2.2.2.2.2.1
@[irreducible] noncomputable def tn:Tok:=e₀.2.2.2.2.2.2.2.2.2.2.2.2.2.2.2.1
@[irreducible] noncomputable def Q:Value→Loc→Map→Prop:=e₀.2.2.2.2.2.2.2.2.2.2.2.2.2.2.2.2
theorem here:S₀ c m σ X A n S H D Z gen last cap gl nm tn Q:=by
 intro hY hA hR hS hH hcap hinj hQ
 show COK prog w G (zg G 336) c A (.ref 366) ⟨[.ref S,.str nm tn],[]⟩ m σ Q X
 obtain ⟨tg,eS⟩:=id hS.hS
 walk_at "fn"
 refine eps (n:=⟨dDyn⟩) _ ?_
 intro hR'
 refine ze (zu (zI (zb rfl (zQ eS (by kernel_rfl) rfl (zf (by kernel_rfl) (za (zb rfl (zc (COK.call (spec_globOf' hY rfl hR' hS hH (by omega) fun σ₁ g last₁ u₁ hH₁ hS₁ hg=>zx ?_))))))))))
 have hgn:zM gl nm g nm=some g:=if_pos rfl
 refine zk fun zz=>?_
 obtain ⟨n1,c1,wk,nm1,eg⟩:=hS₁.hG nm g hgn
 obtain ⟨tg₁,eS₁⟩:=id hS₁.hS
 obtain ⟨lim₁,tl₁,eH₁⟩:=id hH₁
 refine zz ?_;clear zz
 have up₁:Upd (jB H D gl) σ σ₁:=u₁.mono fun a h=>by rcases h with h | h <;> simp [jB,h]
 cases hga':g.sc with
 | some a=>
  rw [hga'] at eg
  have eg':zM gl nm { g with sc:=some a }=zM gl nm g:=by
   refine zk fun zz=>?_
   obtain ⟨ga,sc,ar,co⟩:=g
   refine zz ?_;clear zz
   simp only at hga'
   rw [hga']
  refine ze (zJ (zj (zB (zb rfl (zw eg (by kernel_rfl) rfl rfl (zA (zN rfl (zd ⟨fun hb=>?_,fun hb=>zy ?_⟩))))))))
  ·first | exact nb hb | exact nt hb | cases hb
  exact ze (zO (zB (zb rfl (zw eg (by kernel_rfl) rfl rfl (hQ σ₁ g a last₁ up₁ hH₁ (by rw [eg'];exact hS₁) hg (.inl hga'))))))
 | none=>
  rw [hga'] at eg
  refine ze (zJ (zj (zB (zb rfl (zw eg (by kernel_rfl) rfl rfl (zA (zN rfl (zd ⟨fun hb=>?_,fun hb=>?_⟩))))))))
  rotate_left
  ·first | exact nb hb | exact nt hb | cases hb
  refine ze (zi (zI (zB (zb rfl (zw eS₁ (by kernel_rfl) rfl rfl (zQ eH₁ (by kernel_rfl) rfl (zf (by kernel_rfl) (za (zA (zc (COK.call (spec_newScalar (n:=n+1) hY rfl hR' eH₁ fun σ₂ x t t' wk2 u₂ eH₂ h0 hx=>?_))))))))))))
  have eg₂:=u₂.get eg (zK eg eH₁ (by intro z;cases z))
  have dx:x≠g.ga:=(zm eg h0).symm
  refine zb rfl (zn eg₂ (by kernel_rfl) (lek (by kernel_rfl)) ?_)
  refine ze (P_augAttr (zB (zb rfl (zw (v:=.ref x) Map.set_self (by kernel_rfl) rfl rfl (zw (Map.set_other hx dx) (by kernel_rfl) rfl rfl (zD fun t5=>P_iaddInt fun t6=>zn (Map.set_other hx dx) (by kernel_rfl) (lek (by kernel_rfl)) (zy ?_)))))))
  refine ze (zO (zB (zb rfl (zw (v:=.ref x) (Map.set_other Map.set_self dx.symm) (by kernel_rfl) rfl rfl ?_))))
  refine zk fun zz=>?_
  obtain ⟨kvs₁,eD₁,hl₁,hv₁⟩:=id hS₁.hD
  refine zz ?_;clear zz
  have nF:∀ a,jB H D gl a→σ₁ a≠none:=fun a h z=>by
   rcases h with h | h | ⟨j,g2,h1,h2⟩
   ·rw [h,eH₁] at z;cases z
   ·rw [h,eD₁] at z;cases z
   ·by_cases hj:j=nm
    ·subst hj
     rcases hg with hg | ⟨hg,_⟩
     ·rw [hg] at h1;cases h1;rw [h2,eg] at z;cases z
     ·rw [hg] at h1;cases h1
    ·obtain ⟨_,_,_,_,e3⟩:=hS₁.hG j g2 (by unfold zM;rw [if_neg hj];exact h1)
     rw [h2,e3] at z;cases z
  have sx:σ x=none:=up₁.none_of h0 fun h=>nF x h h0
  have up:∀ {a:Addr} {ao:AO},σ₁ a=some ao→a≠H→a≠g.ga→((σ₂.set g.ga (.inst 163 (putF "scalar" (.ref x) (globF n1 c1 wk nm1 (optV none) (optV g.ar) (optV g.co))))).set x (.inst 87 (putF "count" (.int (0+1) t6) (scalarF (.int (last₁+1) t) (.int 0 t') wk2 .none)))) a=some ao:=fun {a ao} ha h1 h2=>
   Map.set_other (Map.set_other (u₂.get ha h1) h2) (zm ha h0)
  have dS:S≠g.ga:=zK eS₁ eg (by intro z;cases z)
  have dD:D≠g.ga:=zK eD₁ eg (by intro z;cases z)
  have dH:H≠g.ga:=zK eH₁ eg (by intro z;cases z)
  refine hQ _ g x (last₁+1) ?_ ⟨lim₁,t,Map.set_other (Map.set_other eH₂ dH) (zm eH₁ h0)⟩ ⟨⟨tg₁,up eS₁ (zK eS₁ eH₁ (by intro z;cases z)) dS⟩,⟨kvs₁,up eD₁ (zK eD₁ eH₁ (by intro z;cases z)) dD,hl₁,fun j=>?_⟩,fun j g' hj=>?_⟩ hg
   (.inr ⟨hga',sx,⟨last₁+1,t,0+1,t6,wk2,ju (by kernel_rfl)⟩⟩)
  ·have a1:Upd (jB H D gl) σ σ₂:=up₁.trans (u₂.mono fun a h=>.inl h)
   refine Upd.set_loc ?_ sx
   rcases hg with hg | ⟨_,hg,_⟩
   ·exact a1.set_in (.inr (.inr ⟨nm,g,hg,rfl⟩))
   ·exact a1.set_loc hg
  ·rw [hv₁];unfold zM;split <;> rfl
  ·unfold zM at hj
   split at hj
   ·first | exact nb hj | exact nt hj | cases hj
    exact ⟨n1,c1,wk,nm1,Map.set_other (ju (by kernel_rfl)) dx.symm⟩
   ·rename_i hne
    obtain ⟨n2,c2,wk3,nm2,e2⟩:=hS₁.hG j g' (by unfold zM;rw [if_neg hne];exact hj)
    have hgg:g'.ga≠g.ga:=fun z=>by
     rcases hg with hg | ⟨_,hg,_⟩
     ·exact hne (hinj _ _ _ _ hj hg z)
     ·refine zk fun zz=>?_
      obtain ⟨_,_,_,_,e3⟩:=hS.hG j g' hj
      refine zz ?_;clear zz
      rw [z,hg] at e3;cases e3
    exact ⟨n2,c2,wk3,nm2,up e2 (zK e2 eH₁ (by intro z;cases z)) hgg⟩
end spec_scalarOf
section
variable {c:Cx}{X:Str→Map→Prop}{m:Loc}{σ τ:Map}
theorem spec_scalarOf {A:Around}{n:Nat}(hY:Fly.Leaves prog w G (zg G 336)) (hA:A.frames=some c.fr) (hR:Rm A (n+6)) {S:Addr}{H:Addr}{D:Addr}{Z:Addr}{gen:Int}{last:Int}{cap:Nat}{gl:Str→Option GI}{nm:Str}{tn:Tok}{Q:Value→Loc→Map→Prop}(hS:Stash prog w σ S H D gen cap gl) (hH:HeapAt σ H Z last) (hcap:cap≤999) (hinj:∀ j j' g g',gl j=some g→gl j'=some g'→g.ga=g'.ga→j=j') (hQ:∀ σ' g a last',Upd (jB H D gl) σ σ'→HeapAt σ' H Z last'→Stash prog w σ' S H D gen (cap+1) (zM gl nm { g with sc:=some a })→(gl nm=some g∨(gl nm=none∧σ g.ga=none∧g.sc=none∧g.ar=none∧g.co=none)) →
 (g.sc=some a∨(g.sc=none∧σ a=none∧ScalarAt σ' a .none))→Q (.ref a) m σ'):COK prog w G (zg G 336) c A (.ref 366) ⟨[.ref S,.str nm tn],[]⟩ m σ Q X:=by with_unfolding_all exact eps (fun x:Cx × Loc × Map × (Str→Map→Prop) × Around × Nat × Addr × Addr × Addr × Addr × Int × Int × Nat × (Str→Option GI) × Str × Tok × (Value→Loc→Map→Prop)=>spec_scalarOf.S₀ x.1 x.2.1 x.2.2.1 x.2.2.2.1 x.2.2.2.2.1 x.2.2.2.2.2.1 x.2.2.2.2.2.2.1 x.2.2.2.2.2.2.2.1 x.2.2.2.2.2.2.2.2.1 x.2.2.2.2.2.2.2.2.2.1 x.2.2.2.2.2.2.2.2.2.2.1 x.2.2.2.2.2.2.2.2.2.2.2.1 x.2.2.2.2.2.2.2.2.2.2.2.2.1 x.2.2.2.2.2.2.2.2.2.2.2.2.2.1 x.2.2.2.2.2.2.2.2.2.2.2.2.2.2.1 x.2.2.2.2.2.2.2.2.2.2.2.2.2.2.2.1 x.2.2.2.2.2.2.2.2.2.2.2.2.2.2.2.2) spec_scalarOf.here (c,m,σ,X,A,n,S,H,D,Z,gen,last,cap,gl,nm,tn,Q) hY hA hR hS hH hcap hinj hQ
end
section
variable {c:Cx}{X:Str→Map→Prop}{m:Loc}{σ τ:Map}
theorem spec_take603 {A:Around}{n:Nat}(hY:Fly.Leaves prog w G (zg G 336)) (hA:A.frames=some c.fr) (hR:Rm A (n+1)) {self:Value}{x:Str}{t:Tok}{Q:Value→Loc→Map→Prop}
 (hQ:Q (.str x t) m σ):COK prog w G (zg G 336) c A (.ref 603) ⟨[self,.str x t],[]⟩ m σ Q X:=by
 walk_at "fn"
 intro d hR'
 refine ze (zJ (j0 (ja (zv (zC (by k_is) (by boot_by_name) (by decide) (zt (za (zb rfl (za (zh (by k_is) (zc (jT (by kernel_rfl) (zd ⟨fun hb=>?_,fun hb=>?_⟩)))))))))))))
 ·exact ze (zO (zb rfl hQ))
 ·first | exact nb hb | exact nt hb | cases hb
theorem spec_fresh {A:Around}{n:Nat}(hY:Fly.Leaves prog w G (zg G 336)) (hA:A.frames=some c.fr) (hR:Rm A (n+5)) {CT H Z PL:Addr}{last:Int}{x:Str}{t:Tok}{Q:Value→Loc→Map→Prop}
 (eC:σ CT=some (.inst 653 (counterF H PL))) (hH:HeapAt σ H Z last)
 (hQ:∀ σ' a,Upd (fun a=>a=H) σ σ'→HeapAt σ' H Z (last+1)→σ a=none→ScalarAt σ' a (.str x t)→Q (.ref a) m σ'):COK prog w G (zg G 336) c A (.ref 622) ⟨[.ref CT,.str x t],[]⟩ m σ Q X:=by
 refine zk fun zz=>?_
 obtain ⟨lim,tl,eH⟩:=id hH
 refine zz ?_;clear zz
 walk_at "fn"
 intro d hR'
 refine ze (zu (zI (zB (zb rfl (zw eC (by kernel_rfl) rfl rfl (zQ (f:=215) eH (by kernel_rfl) rfl (zf (by kernel_rfl) (za (zI (zb rfl (zQ eC (by kernel_rfl) rfl (zf (by kernel_rfl) (za (zb rfl (zc (COK.call (spec_take603 hY rfl hR' ?_)))))))))))))))))
 refine zc (COK.call (spec_newScalar hY rfl hR' eH fun σ₁ a t1 t2 wk u eH₁ h0 ha=>zx ?_))
 refine ze (zi (zD fun t3=>zb rfl (zn ha (by kernel_rfl) (lek (by kernel_rfl)) ?_)))
 refine ze (zO (zb rfl (hQ _ a (u.set_loc h0) ⟨lim,t1,Map.set_other eH₁ (zm eH h0)⟩ h0 ⟨last+1,t1,1,t3,wk,ju (by kernel_rfl)⟩)))
end
section
variable {c:Cx}{X:Str→Map→Prop}{m:Loc}{σ τ:Map}
noncomputable def cc (p n:Str):Str:=p ++ ("::" : Str) ++ n
noncomputable def srch (gl:Str→Option GI) (name:Str):List Str→Option (Addr × Str)
 | []=>none
 | p :: ps=>match (gl (cc p name)).bind GI.co with
  | some a=>some (a,p)
  | none=>srch gl name ps
theorem srch_c {gl:Str→Option GI}{name p:Str}{ps:List Str}:srch gl name (p :: ps)=match (gl (cc p name)).bind GI.co with | some a=>some (a,p) | none=>srch gl name ps:=rfl
theorem spec_search {A:Around}{n:Nat}(hY:Fly.Leaves prog w G (zg G 336)) (hA:A.frames=some c.fr) (hR:Rm A (n+2)) {S H D l:Addr}{gen:Int}{cap:Nat}{gl:Str→Option GI}{nm:Str}{tn:Tok}{ys:List Value}{ps:List Str}{Q:Value→Loc→Map→Prop}
 (hS:Stash prog w σ S H D gen cap gl) (hl:σ l=some (.seq false ys)) (hys:StrsAre ys ps) (hlen:∀ p∈ps,p.length≤1000) (hnm:nm.length≤1000)
 (hQ:match srch gl nm ps with | none=>Q .none m σ | some (a,p)=>∀ t tp,σ t=none→Q (.ref t) m (σ.set t (.seq true [.ref a,.str p tp]))):COK prog w G (zg G 336) c A (.ref 442) ⟨[.ref S,.ref l,.str nm tn],[]⟩ m σ Q X:=by
 obtain ⟨tg,eS⟩:=id hS.hS
 walk_at "fn"
 intro d hR'
 refine ze (P_for hR'.2.2 (zb rfl ⟨ys.length,fun i v=>ys[i]? = some v,fun ρ=>ρ l=some (.seq false ys),
  fun i m' σ'=>A4 (σ'=σ) (m' "stash" = some (.ref S)) (m' "name" = some (.str nm tn)) (srch gl nm ps=srch gl nm (ps.drop i)),Iterable.list,?_,?_,?_,?_⟩))
 ·rintro i m' σ' τ' ⟨rfl,_⟩
  exact Map.or_some hl
 ·exact ⟨rfl,rfl,rfl,rfl⟩
 ·rintro i v m' σ' hi hv ⟨rfl,e1,e2,e3⟩
  have hip:i < ps.length:=by rw [← hys.length];exact hi
  obtain ⟨t,ht⟩:=hys.get i ps[i] (by simp [hip])
  have:v = .str ps[i] t:=by rw [ht] at hv;exact (Option.some.inj hv).symm
  subst this
  have hpl:=hlen ps[i] (List.getElem_mem hip)
  have len2:(ps[i] ++ ("::" : Str)).length=ps[i].length+2:=by
   show (ps[i].cps ++ ("::" : Str).cps).size=_
   rw [Array.size_append];rfl
  rw [List.drop_eq_getElem_cons hip] at e3
  refine ze (zu (zI (zb (by exact e1) (zQ (f:=387) eS (by kernel_rfl) rfl (zf (by kernel_rfl) (za (zG (zG (zb rfl (zo fun t1=>zH (by rw [sizeLine_eq];show _+2≤_;omega) fun t2=>zb (by exact e2) (zH (by rw [len2,sizeLine_eq];omega) fun t3=>zc (COK.call (spec_codeOf hY rfl hR' hS (zx ?_))))))))))))))
  have ecc:ps[i] ++ ("::" : Str) ++ nm=cc ps[i] nm:=rfl
  rw [ecc]
  refine ze (zJ (zj (zb rfl (zA (z7 (plain_opt _) (zd ⟨fun hb=>?_,fun hb=>zy (zy ⟨rfl,by exact e1,by exact e2,?_⟩)⟩))))))
  ·cases q:(gl (cc ps[i] nm)).bind GI.co with
   | none=>rw [q] at hb;cases hb
   | some a=>
    rw [e3] at hQ
    rw [srch_c] at hQ
    rw [q] at hQ
    refine ze (zO (z0 (za (zb rfl (za (zb rfl (zc (zL (fun t5 h0=>?_) (lek rfl)))))))))
    exact hQ t5 t h0
  ·cases q:(gl (cc ps[i] nm)).bind GI.co with
   | some a=>rw [q] at hb;cases hb
   | none=>
    rw [e3]
    rw [srch_c]
    rw [q]
 ·rintro m' σ' ⟨rfl,e1,e2,e3⟩
  rw [List.drop_of_length_le (by rw [hys.length];exact Nat.le_refl _)] at e3
  rw [e3] at hQ
  exact zy (ze (P_retNone hQ))
end
section
variable {c:Cx}{X:Str→Map→Prop}{m:Loc}{σ τ:Map}
theorem spec_cut {A:Around}{n:Nat}(hY:Fly.Leaves prog w G (zg G 336)) (hA:A.frames=some c.fr) (hR:Rm A (n+1)) {x:Str}{t:Tok}{Q:Value→Loc→Map→Prop}(hx:x.length≤1000)
 (hQ:∀ a t1 t2,σ a=none→Q (.ref a) m (σ.set a (.seq true (if Txt.rfind x "::" < 0 then [.str "" t1,.str x t] else [.str (Txt.slice x none (some (Txt.rfind x "::"))) t1,.str (Txt.slice x (some (Txt.rfind x "::" + 2)) none) t2])))) :
 COK prog w G (zg G 336) c A (.ref 484) ⟨[.str x t],[]⟩ m σ Q X:=by
 have hz:x.length≤sizeLine:=by rw [sizeLine_eq];omega
 walk_at "fn"
 intro d hR'
 refine ze (zu (zI (zb rfl (P_rfindMeth (zt (za (zo fun t1=>zc (P_rfind fun t2=>zx ?_))))))))
 refine ze (zJ (zj (zb rfl (zD fun t3=>P_ltInt (zd ⟨fun hb=>?_,fun hb=>zy ?_⟩)))))
 ·refine ze (zO (z0 (za (zo fun t4=>za (zb rfl (zc (zL (fun a h0=>?_) (lek rfl))))))))
  have:=hQ a t4 t4 h0
  rw [if_pos (of_decide_eq_true hb)] at this
  exact this
 ·refine ze (zO (z0 (za (P_sliceTo (zb rfl ⟨_,_,rfl,hz,zb rfl ⟨_,_,rfl,fun t4=>?_⟩⟩)))))
  refine za (P_sliceFrom (zb rfl ⟨_,_,rfl,hz,zG (zb rfl (zD fun t5=>P_addInt fun t6=>⟨_,_,rfl,fun t7=>zc (zL (fun a h0=>?_) (lek rfl))⟩))⟩))
  have:=hQ a t4 t7 h0
  rw [if_neg (of_decide_eq_false hb)] at this
  exact this
end
section
variable {c:Cx}{X:Str→Map→Prop}{m:Loc}{σ τ:Map}
theorem spec_classStr {A:Around}{n:Nat}(hA:A.frames=some c.fr) (hR:Rm A (n+2)) {x:Str}{t:Tok}{nm:Value}{Q:Value→Loc→Map→Prop}(hx:(x == ("" : Str))=false)
 (hQ:Q (.str x t) m σ):COK prog w G (zg G 336) c A (.ref 491) ⟨[.str x t,nm],[]⟩ m σ Q X:=by
 have hY:Fly.Leaves prog w G (zg G 336):=jc
 walk_at "fn"
 intro d hR'
 refine ze (zJ (ja (zv (zC (by k_is) (by boot_by_name) (by decide) (zt (za (zb rfl (za (zh (by k_is) (zc (jT (by kernel_rfl) (zd ⟨fun hb=>?_,fun hb=>zy ?_⟩))))))))))))
 ·first | exact nb hb | exact nt hb | cases hb
 refine ze (zJ (zj (zb rfl (zA (zN rfl (zd ⟨fun hb=>?_,fun hb=>zy ?_⟩))))))
 ·first | exact nb hb | exact nt hb | cases hb
 refine ze (zu (zv (zh (by k_is) (zf (by kernel_rfl) (za (zb rfl (zc (COK.call (jC hY rfl hR' (zx ?_))))))))))
 refine ze (zJ (zj (zb rfl (zo fun t1=>jK (zd ⟨fun hb=>?_,fun hb=>zy ?_⟩)))))
 ·rw [hx] at hb;cases hb
 exact ze (zO (zb rfl hQ))
theorem spec_classNone {A:Around}{n:Nat}(hA:A.frames=some c.fr) (hR:Rm A (n+4)) {nm:Str}{tn:Tok}{Q:Value→Loc→Map→Prop}(hnm:nm.length≤1000)
 (hX:∀ σ',Ext σ σ'→X (("Can't call method \"" : Str) ++ nm ++ ("\" on an undefined value" : Str)) σ'):COK prog w G (zg G 336) c A (.ref 491) ⟨[.none,.str nm tn],[]⟩ m σ Q X:=by
 have hY:Fly.Leaves prog w G (zg G 336):=jc
 walk_at "fn"
 intro d hR'
 refine ze (zJ (ja (zv (zC (by k_is) (by boot_by_name) (by decide) (zt (za (zb rfl (za (zh (by k_is) (zc (P_isiNone (by kernel_rfl) (zd ⟨fun hb=>?_,fun hb=>zy ?_⟩))))))))))))
 ·first | exact nb hb | exact nt hb | cases hb
 refine ze (zJ (zj (zb rfl (zA (zN rfl (zd ⟨fun hb=>?_,fun hb=>?_⟩))))))
 rotate_left
 ·first | exact nb hb | exact nt hb | cases hb
 have l1:(("Can't call method \"" : Str) ++ nm).length=19+nm.length:=by
  show (("Can't call method \"" : Str).cps ++ nm.cps).size=_
  rw [Array.size_append];rfl
 refine ze (P_raise hR'.2.2 die_raise (zv (zh (by k_is) (zf (by kernel_rfl) (za (zG (zG (zo fun t1=>zb rfl (zH (by rw [sizeLine_eq];show 19+nm.length≤_;omega) fun t2=>zo fun t3=>zH (by rw [l1,sizeLine_eq];show _+22≤_;omega) fun t4=>zc
  (P_dieCall (n:=n) hY (hR'.le (by omega)) fun a t5 h0=>⟨a,_,_,_,rfl,Map.set_self,rfl,hX _ ?_⟩))))))))))
 intro b bo hb _
 have hne:b≠a:=zm hb h0
 rw [Map.del_ne hne,Map.set_ne hne];exact hb
end
noncomputable def cacheF (g:Value) (TB:Addr):List (Str × Value):=[("generation",g),("table",.ref TB)]
noncomputable def FoundAt (σ:Map) (v:Value):Option (Addr × Str)→Prop
 | none=>v = .none
 | some (a,p)=>∃ t tp,v = .ref t∧σ t=some (.seq true [.ref a,.str p tp])
theorem FoundAt.keeps {σ σ':Map}{v:Value}{r:Option (Addr × Str)}(h:FoundAt σ v r) (k:∀ b xs,σ b=some (.seq true xs)→σ' b=some (.seq true xs)):FoundAt σ' v r:=by
 cases r with
 | none=>exact h
 | some q=>obtain ⟨t,tp,e,h⟩:=h;exact ⟨t,tp,e,k _ _ h⟩
structure CacheAt (prog':Program) (w':World) (σ:Map) (MC TB:Addr) (gen:Int) (cap:Nat) (gl:Str→Option GI):Prop where
 go:∃ g tg xs,σ MC=some (.inst 466 (cacheF (.int g tg) TB))∧TD (ke prog w) σ TB xs∧xs.length≤cap∧g≤gen∧(g=gen→∀ x∈xs,FoundAt σ x.2.2 (srch gl x.1.1 x.1.2))
theorem atKey_mem {Kt:Type} [DecidableEq Kt] {xs:List (Kt × Addr × Value)}{k:Kt}{p:Addr × Value}(h:atKey xs k=some p):(k,p)∈xs:=by
 unfold atKey at h
 refine zk fun zz=>?_
 obtain ⟨x,h1,h2⟩:=Option.map_eq_some_iff.mp h
 refine zz ?_;clear zz
 have:=List.find?_some h1
 have e:x.1=k:=of_decide_eq_true this
 have hm:=List.mem_of_find?_eq_some h1
 rw [← e,← h2];exact hm
theorem storedH_len {Kt:Type} [DecidableEq Kt] (xs:List (Kt × Addr × Value)) (k:Kt) (a:Addr) (v:Value):(storedH xs k a v).length≤xs.length+1:=by
 unfold storedH;split <;> simp
theorem atKey_storedH {Kt:Type} [DecidableEq Kt] {xs:List (Kt × Addr × Value)}{k:Kt}{a:Addr}{v:Value}(h:atKey xs k=none):atKey (storedH xs k a v) k=some (a,v):=by
 rw [storedH_new h]
 unfold atKey at h ⊢
 rw [List.find?_append]
 have h':xs.find? (fun x=>decide (x.1=k))=none:=by simpa using h
 rw [h'];simp
section
variable {c:Cx}{X:Str→Map→Prop}{m:Loc}{σ τ:Map}
theorem Map.tup_set {a b:Addr}{ao:AO}{σ:Map}{xs:List Value}(h:σ b=some (.seq true xs)) (ha:∀ xs,σ a≠some (.seq true xs)):σ.set a ao b=some (.seq true xs):=
 Map.set_other h fun z=>ha xs (by rw [← z];exact h)
theorem spec_search' {A:Around}{n:Nat}(hY:Fly.Leaves prog w G (zg G 336)) (hA:A.frames=some c.fr) (hR:Rm A (n+2)) {S H D l:Addr}{gen:Int}{cap:Nat}{gl:Str→Option GI}{nm:Str}{tn:Tok}{ys:List Value}{ps:List Str}{Q:Value→Loc→Map→Prop}
 (hS:Stash prog w σ S H D gen cap gl) (hl:σ l=some (.seq false ys)) (hys:StrsAre ys ps) (hlen:∀ p∈ps,p.length≤1000) (hnm:nm.length≤1000)
 (hQ:∀ σ' v,Ext σ σ'→FoundAt σ' v (srch gl nm ps)→Q v m σ'):COK prog w G (zg G 336) c A (.ref 442) ⟨[.ref S,.ref l,.str nm tn],[]⟩ m σ Q X:=by
 refine spec_search hY hA hR hS hl hys hlen hnm ?_
 cases q:srch gl nm ps with
 | none=>exact hQ σ .none Upd.refl (by rw [q];rfl)
 | some r=>exact fun t tp h0=>hQ _ _ (Upd.refl.set_new h0) (by rw [q];exact ⟨t,tp,rfl,Map.set_self⟩)
theorem roomL {prog:Program}{w:World}{A:Around}{n:Nat}(h:Rm A (n+1)):(j9 prog w).room A.in1:=by
 have:=h.2.1
 show A.units+1+2 < cLine
 omega
theorem roomT {prog:Program}{w:World}{A:Around}{n:Nat}(h:Rm A (n+1)):(tupleKind (strKind prog w)).room A.in1:=by
 have:=h.2.1
 show A.units+1 < cLine
 omega
end
namespace spec_find
noncomputable def S₀ (c:Cx) (m:Loc) (σ:Map) (X:Str→Map→Prop) (A:Around) (n:Nat) (S:Addr) (H:Addr) (D:Addr) (l:Addr) (MC:Addr) (TB:Addr) (gen:Int) (cap:Nat) (cap2:Nat) (gl:Str→Option GI) (nm:Str) (tn:Tok) (ys:List Value) (ps:List Str) (Q:Value→Loc→Map→Prop):Prop:=∀ (hY:Fly.Leaves prog w G (zg G 336)) (hA:A.frames=some c.fr) (hR:Rm A (n+4)) (hS:Stash prog w σ S H D gen cap gl) (hM:CacheAt prog w σ MC TB gen cap2 gl) (hc2:cap2≤1000) (hl:σ l=some (.seq false ys)) (hys:StrsAre ys ps) (hlen:∀ p∈ps,p.length≤1000) (hnm:nm.length≤1000) (hpl:ps.length≤1000) (hQ:∀ σ' v TB',Upd (fun a=>a=MC∨a=TB) σ σ'→CacheAt prog w σ' MC TB' gen (cap2+1) gl→FoundAt σ' v (srch gl nm ps)→(TB'=TB∨σ TB'=none)→Q v m σ'),COK prog w G (zg G 336) c A (.ref 463) ⟨[.ref MC,.ref S,.ref l,.str nm tn],[]⟩ m σ Q X
noncomputable def e₀:Cx × Loc × Map × (Str→Map→Prop) × Around × Nat × Addr × Addr × Addr × Addr × Addr × Addr × Int × Nat × Nat × (Str→Option GI) × Str × Tok × (List Value) × (List Str) × (Value→Loc→Map→Prop):=@Classical.epsilon _ ⟨(dCx,default,default,default,callerA,default,default,default,default,default,default,default,default,default,default,default,default,default,default,default,default)⟩ fun x=>¬ S₀ x.1 x.2.1 x.2.2.1 x.2.2.2.1 x.2.2.2.2.1 x.2.2.2.2.2.1 x.2.2.2.2.2.2.1 x.2.2.2.2.2.2.2.1 x.2.2.2.2.2.2.2.2.1 x.2.2.2.2.2.2.2.2.2.1 x.2.2.2.2.2.2.2.2.2.2.1 x.2.2.2.2.2.2.2.2.2.2.2.1 x.2.2.2.2.2.2.2.2.2.2.2.2.1 x.2.2.2.2.2.2.2.2.2.2.2.2.2.1 x.2.2.2.2.2.2.2.2.2.2.2.2.2.2.1 x.2.2.2.2.2.2.2.2.2.2.2.2.2.2.2.1 x.2.2.2.2.2.2.2.2.2.2.2.2.2.2.2.2.1 x.2.2.2.2.2.2.2.2.2.2.2.2.2.2.2.2.2.1 x.2.2.2.2.2.2.2.2.2.2.2.2.2.2.2.2.2.2.1 x.2.2.2.2.2.2.2.2.2.2.2.2.2.2.2.2.2.2.2.1 x.2.2.2.2.2.2.2.2.2.2.2.2.2.2.2.2.2.2.2.2
@[irreducible] noncomputable def c:Cx:=e₀.1
@[irreducible] noncomputable def m:Loc:=e₀.2.1
@[irreducible] noncomputable def σ:Map:=e₀.2.2.1
@[irreducible] noncomputable def X:Str→Map→Prop:=e₀.2.2.2.1
@[irreducible] noncomputable def A:Around:=e₀.2.2.2.2.1
@[irreducible] noncomputable def n:Nat:=e₀.2.2.2.2.2.1
@[irreducible] noncomputable def S:Addr:=e₀.2.2.2.2.2.2.1
@[irreducible] noncomputable def H:Addr:=e₀.2.2.2.2.2.2.2.1
@[irreducible] noncomputable def D:Addr:=e₀.2.2.2.2.2.2.2.2.1
@[irreducible] noncomputable def l:Addr:=e₀.2.2.2.2.2.2.2.2.2.1
@[irreducible] noncomputable def MC:Addr:=e₀.2.2.2.2.2.2.2.2.2.2.1
@[irreducible] noncomputable def TB:Addr:=e₀.2.2.2.2.2.2.2.2.2.2.2.1
@[irreducible] noncomputable def gen:Int:=e₀.2.2.2.2.2.2.2.2.2.2.2.2.1
@[irreducible] noncomputable def cap:Nat:=e₀.2.2.2.2.2.2.2.2.2.2.2.2.2.1
@[irreducible] noncomputable def cap2:Nat:=e₀.2.2.2.2.2.2.2.2.2.2.2.2.2.2.1
@[irreducible] noncomputable def gl:Str→Option GI:=e₀.2.2.2.2.2.2.2.2.2.2.2.2.2.2.2.1
@[irreducible] noncomputable def nm:Str:=e₀.2.2.2.2.2.2.2.2.2.2.2.2.2.2.2.2.1
@[irreducible] noncomputable def tn:Tok:=e₀.2.2.2.2.2.2.2.2.2.2.2.2.2.2.2.2.2.1
@[irreducible] noncomputable def ys:List Value:=e₀.2.2.2.2.2.2.2.2.2.2.2.2.2.2.2.2.2.2.1
@[irreducible] noncomputable def ps:List Str:=e₀.2.2.2.2.2.2.2.2.2.2.2.2.2.2.2.2.2.2.2.1
@[irreducible] noncomputable def Q:Value→Loc→Map→Prop:=e₀.2.2.2.2.2.2.2.2.2.2.2.2.2.2.2.2.2.2.2.2
theorem here:S₀ c m σ X A n S H D l MC TB gen cap cap2 gl nm tn ys ps Q:=by
 intro hY hA hR hS hM hc2 hl hys hlen hnm hpl hQ
 show COK prog w G (zg G 336) c A (.ref 463) ⟨[.ref MC,.ref S,.ref l,.str nm tn],[]⟩ m σ Q X
 refine zk fun zz=>?_
 obtain ⟨tg,eS⟩:=id hS.hS
 obtain ⟨kvs,eD,_,_⟩:=id hS.hD
 obtain ⟨g,tg2,xs,eM,hT,hxl,hg,hv⟩:=hM.go
 refine zz ?_;clear zz
 have hyz:ys.length≤16384:=by rw [hys.length];omega
 walk_at "fn"
 refine eps (n:=⟨dDyn⟩) _ ?_
 intro hR'
 have hrm:(j9 prog w).room _:=roomL (hR'.le (by omega:1≤n+3))
 refine j8 (J:=fun m₁ σ₁=>(m₁=(fun y=>(([("self",Value.ref MC),("stash",.ref S),("line",.ref l),("name",.str nm tn)]:List (Str × Value)).reverse.lookup y)))∧(X3 fun TB₁ tg₁ xs₁=>A6 (Upd (fun a=>a=MC) σ σ₁) (σ₁ MC=some (.inst 466 (cacheF (.int gen tg₁) TB₁))) (TD (ke prog w) σ₁ TB₁ xs₁) (xs₁.length≤cap2) ((∀ x∈xs₁,FoundAt σ₁ x.2.2 (srch gl x.1.1 x.1.2))) ((TB₁=TB∨σ TB₁=none)))) ?_ ?_
 ·refine zJ (zj (zB (zb rfl (zw eM (by kernel_rfl) rfl rfl (zB (zb rfl (zw eS (by kernel_rfl) rfl rfl (P_neInt (zd ⟨fun hb=>?_,fun hb=>zy ⟨rfl,rfl,TB,tg2,xs,Upd.refl,?_,hT,hxl,?_,.inl rfl⟩⟩)))))))))
  ·refine ze (zi (zB (zb rfl (zw eS (by kernel_rfl) rfl rfl (zb rfl (zn eM (by kernel_rfl) (lek (by kernel_rfl)) ?_))))))
   refine ze (zi (P_emptyDictT (R:=ke prog w) fun d0 h0 hT0=>zb rfl (zn (Map.set_new h0 Map.set_self) (by kernel_rfl) (lek (by kernel_rfl)) (zy ⟨rfl,rfl,d0,tg,[],?_,?_,?_,Nat.zero_le _,fun x hx=>(nomatch hx),.inr ?_⟩))))
   ·walk_at "upd"
   ·exact ju (by kernel_rfl)
   ·have hne:d0≠MC:=fun z=>by rw [z,Map.set_self] at h0;cases h0
    exact ⟨Map.set_other Map.set_self hne,fun x hx=>(nomatch hx)⟩
   ·by_cases z:d0=MC
    ·rw [z,Map.set_self] at h0;cases h0
    ·rwa [Map.set_ne z] at h0
  ·have e:g=gen:=by simpa using hb
   subst e;exact eM
  ·exact hv (by simpa using hb)
 ·rintro m₁ σ₁ ⟨rfl,TB₁,tg₁,xs₁,u₁,eM₁,hT₁,hxl₁,hv₁,hTB⟩
  have nMC:∀ {a:Addr} {ao:AO},σ a=some ao→(∀ fs,ao≠.inst 466 fs)→¬ a=MC:=fun ha h z=>by rw [z,eM] at ha;exact h _ (Option.some.inj ha).symm
  have hl₁:=u₁.get hl (nMC hl fun _ z=>by cases z)
  have nMC₁:∀ {a:Addr} {ao:AO},σ₁ a=some ao→(∀ fs,ao≠.inst 466 fs)→a≠MC:=fun ha h z=>by rw [z,eM₁] at ha;exact h _ (Option.some.inj ha).symm
  have hS₁:Stash prog w σ₁ S H D gen cap gl:=hS.upd u₁ (nMC eS fun _ z=>by cases z) (nMC eD fun _ z=>by cases z) fun j g' hg'=>by
   refine zk fun zz=>?_
   obtain ⟨_,_,_,_,e⟩:=hS.hG j g' hg'
   refine zz ?_;clear zz
   exact nMC e fun _ z=>by cases z
  refine ze (zu (z0 (za (zb rfl (za (zv (zC (by k_is) (by boot_by_name) (by decide) (P_callWithTy (za (zb rfl (zc (P_tupleOf hl₁ hyz fun t ht0=>?_))))))))))))
  have hne1:∀ {b:Addr} {ao:AO},σ₁ b=some ao→b≠t:=fun h=>zm h ht0
  refine zc (zL (fun ka hk0=>zx ?_) (lek rfl))
  have hka:((σ₁.set t (.seq true ys)).set ka (.seq true [.str nm tn,.ref t])) t=some (.seq true ys):=Map.set_other Map.set_self fun z=>by rw [← z,Map.set_self] at hk0;cases hk0
  have hk0':σ₁ ka=none:=by
   by_cases z:ka=t
   ·rw [z,Map.set_self] at hk0;cases hk0
   ·rwa [Map.set_ne z] at hk0
  have up:∀ {b:Addr} {ao:AO},σ₁ b=some ao→((σ₁.set t (.seq true ys)).set ka (.seq true [.str nm tn,.ref t])) b=some ao:=fun {b ao} h=>Map.set_other (Map.set_other h (hne1 h)) (zm h hk0')
  have hext:Ext σ₁ ((σ₁.set t (.seq true ys)).set ka (.seq true [.str nm tn,.ref t])):=(Upd.refl.set_new ht0).set_new hk0
  have hT₂:TD (ke prog w) ((σ₁.set t (.seq true ys)).set ka (.seq true [.str nm tn,.ref t])) TB₁ xs₁:=hT₁.keeps (up hT₁.1) fun b zs h=>up h
  have hkey:(ke prog w).at_ ((σ₁.set t (.seq true ys)).set ka (.seq true [.str nm tn,.ref t])) (nm,ps) ka:=⟨t,tn,ys,Map.set_self,hka,hys⟩
  have hS₂:Stash prog w ((σ₁.set t (.seq true ys)).set ka (.seq true [.str nm tn,.ref t])) S H D gen cap gl:=hS₁.upd hext id id fun _ _ _=>id
  have fup:∀ {v:Value} {r:Option (Addr × Str)},FoundAt σ₁ v r→FoundAt ((σ₁.set t (.seq true ys)).set ka (.seq true [.str nm tn,.ref t])) v r:=fun h=>h.keeps fun b xs=>up
  have eM₂:=up eM₁
  have uT:Upd (fun a=>a=MC∨a=TB) σ ((σ₁.set t (.seq true ys)).set ka (.seq true [.str nm tn,.ref t])):=(u₁.mono fun _=>.inl).trans (hext.mono fun _ h=>h.elim)
  refine ze (zJ (zj (zb rfl (zB (zb rfl (zw eM₂ (by kernel_rfl) rfl rfl (P_notInT hT₂ (roomL (hR'.le (by omega:1≤n+3))) hkey (zd ⟨fun hb=>?_,fun hb=>zy ?_⟩))))))))
  ·have hn:atKey xs₁ (nm,ps)=none:=by
    cases q:atKey xs₁ (nm,ps) with
    | none=>rfl
    | some p=>rw [q] at hb;cases hb
   refine ze (jF (zv (zh (by k_is) (zf (by kernel_rfl) (za (zb rfl (za (zb rfl (za (zb rfl (zc (COK.call (spec_search' (n:=n+1) hY rfl hR' hS₂ (up hl₁) hys hlen hnm fun σ₃ v u₃ hf₃=>?_)))))))))))))
   have eM₃:=u₃.get eM₂
   have hT₃:TD (ke prog w) σ₃ TB₁ xs₁:=hT₂.keeps (u₃.get hT₂.1) fun b zs h=>u₃.get h
   have hkey₃:(ke prog w).at_ σ₃ (nm,ps) ka:=(ke prog w).keeps (fun b zs h=>u₃.get h) hkey
   refine zB (zb rfl (zw eM₃ (by kernel_rfl) rfl rfl (zb rfl (P_setT hT₃ (roomL (hR'.le (by omega:1≤n+3))) hkey₃ (by rw [sizeLine_eq];omega) fun hT₄=>zy ?_))))
   have eM₄:(σ₃.set TB₁ (.raw (hdP (j9 prog w) TB₁ (storedH xs₁ (nm,ps) ka v)))) MC=_:=Map.set_other eM₃ fun z=>by rw [z,hT₃.1] at eM₃;cases eM₃
   have hkey₄:(ke prog w).at_ (σ₃.set TB₁ (.raw (hdP (j9 prog w) TB₁ (storedH xs₁ (nm,ps) ka v)))) (nm,ps) ka:=(ke prog w).keeps (fun b zs h=>Map.tup_set h fun zs z=>by rw [hT₃.1] at z;cases z) hkey₃
   have fup₄:∀ {v':Value} {r:Option (Addr × Str)},FoundAt σ₃ v' r→FoundAt (σ₃.set TB₁ (.raw (hdP (j9 prog w) TB₁ (storedH xs₁ (nm,ps) ka v)))) v' r:=fun h=>h.keeps fun b zs h=>Map.tup_set h fun zs z=>by rw [hT₃.1] at z;cases z
   refine ze (zO (zR (zB (zb rfl (zw eM₄ (by kernel_rfl) rfl rfl (zb rfl (P_itemT hT₄ (roomL (hR'.le (by omega:1≤n+3))) hkey₄ (atKey_storedH hn) (hQ _ v TB₁ ?_ ⟨gen,tg₁,_,eM₄,hT₄,?_,Int.le_refl _,fun _ x hx=>?_⟩ (fup₄ hf₃) hTB))))))))
   ·have uu:=uT.trans (u₃.mono fun _ h=>h.elim)
    rcases hTB with e | e
    ·exact uu.set_in (.inr e)
    ·exact uu.set_loc e
   ·have:=storedH_len xs₁ (nm,ps) ka v;omega
   ·rw [storedH_new hn] at hx
    rcases List.mem_append.mp hx with hx | hx
    ·exact fup₄ ((fup (hv₁ x hx)).keeps fun b zs h=>u₃.get h)
    ·simp only [List.mem_singleton] at hx
     subst hx
     exact fup₄ hf₃
  ·obtain ⟨p,hp⟩:∃ p,atKey xs₁ (nm,ps)=some p:=by
    cases q:atKey xs₁ (nm,ps) with
    | none=>rw [q] at hb;cases hb
    | some p=>exact ⟨p,rfl⟩
   refine ze (zO (zR (zB (zb rfl (zw eM₂ (by kernel_rfl) rfl rfl (zb rfl (P_itemT hT₂ (roomL (hR'.le (by omega:1≤n+3))) hkey hp (hQ _ p.2 TB₁ uT ⟨gen,tg₁,_,eM₂,hT₂,by omega,Int.le_refl _,fun _ x hx=>fup (hv₁ x hx)⟩ ?_ hTB))))))))
   exact fup (hv₁ _ (atKey_mem hp))
end spec_find
section
variable {c:Cx}{X:Str→Map→Prop}{m:Loc}{σ τ:Map}
theorem spec_find {A:Around}{n:Nat}(hY:Fly.Leaves prog w G (zg G 336)) (hA:A.frames=some c.fr) (hR:Rm A (n+4)) {S:Addr}{H:Addr}{D:Addr}{l:Addr}{MC:Addr}{TB:Addr}{gen:Int}{cap:Nat}{cap2:Nat}{gl:Str→Option GI}{nm:Str}{tn:Tok}{ys:List Value}{ps:List Str}{Q:Value→Loc→Map→Prop}(hS:Stash prog w σ S H D gen cap gl) (hM:CacheAt prog w σ MC TB gen cap2 gl) (hc2:cap2≤1000) (hl:σ l=some (.seq false ys)) (hys:StrsAre ys ps) (hlen:∀ p∈ps,p.length≤1000) (hnm:nm.length≤1000) (hpl:ps.length≤1000) (hQ:∀ σ' v TB',Upd (fun a=>a=MC∨a=TB) σ σ'→CacheAt prog w σ' MC TB' gen (cap2+1) gl→FoundAt σ' v (srch gl nm ps)→(TB'=TB∨σ TB'=none)→Q v m σ'):COK prog w G (zg G 336) c A (.ref 463) ⟨[.ref MC,.ref S,.ref l,.str nm tn],[]⟩ m σ Q X:=by with_unfolding_all exact eps (fun x:Cx × Loc × Map × (Str→Map→Prop) × Around × Nat × Addr × Addr × Addr × Addr × Addr × Addr × Int × Nat × Nat × (Str→Option GI) × Str × Tok × (List Value) × (List Str) × (Value→Loc→Map→Prop)=>spec_find.S₀ x.1 x.2.1 x.2.2.1 x.2.2.2.1 x.2.2.2.2.1 x.2.2.2.2.2.1 x.2.2.2.2.2.2.1 x.2.2.2.2.2.2.2.1 x.2.2.2.2.2.2.2.2.1 x.2.2.2.2.2.2.2.2.2.1 x.2.2.2.2.2.2.2.2.2.2.1 x.2.2.2.2.2.2.2.2.2.2.2.1 x.2.2.2.2.2.2.2.2.2.2.2.2.1 x.2.2.2.2.2.2.2.2.2.2.2.2.2.1 x.2.2.2.2.2.2.2.2.2.2.2.2.2.2.1 x.2.2.2.2.2.2.2.2.2.2.2.2.2.2.2.1 x.2.2.2.2.2.2.2.2.2.2.2.2.2.2.2.2.1 x.2.2.2.2.2.2.2.2.2.2.2.2.2.2.2.2.2.1 x.2.2.2.2.2.2.2.2.2.2.2.2.2.2.2.2.2.2.1 x.2.2.2.2.2.2.2.2.2.2.2.2.2.2.2.2.2.2.2.1 x.2.2.2.2.2.2.2.2.2.2.2.2.2.2.2.2.2.2.2.2) spec_find.here (c,m,σ,X,A,n,S,H,D,l,MC,TB,gen,cap,cap2,gl,nm,tn,ys,ps,Q) hY hA hR hS hM hc2 hl hys hlen hnm hpl hQ
end
local macro_rules | `(tactic| walk_at "fnC")=>`(tactic| refine C_fnCR (by assumption) (by assumption) (by assumption) (by k_is) (by k_is) (by exact fun s _=>BindsTo.of_eq rfl) (by exact fun k=>kinds_of ⟨by first | exact .inl rfl | exact .inr ⟨rfl,rfl⟩,by first | exact .inl rfl | exact .inr ⟨rfl,rfl⟩,by first | exact .inl rfl | exact .inr ⟨rfl,rfl⟩,by first | exact .inl rfl | exact .inr ⟨rfl,rfl⟩ | exact trivial,trivial⟩) (by decide) (by rfl) (by rfl) (by rfl) ?_)
section
variable {c:Cx}{X:Str→Map→Prop}{m:Loc}{σ τ:Map}
theorem kinds3 {scope:Scope}{a b d:Str × Value}(h1:∀ k,KindsOk scope k [a,b,d]):∀ n,∀ x∈[a,b,d],scope.names.lookup x.1=some .local∨(scope.names.lookup x.1=some .cell∧((cellsFrom n scope.names []).lookup x.1).isSome=true):=fun n=>kinds_of (h1 n)
theorem spec_putOff {A:Around}{n:Nat}(hY:Fly.Leaves prog w G (zg G 336)) (hA:A.frames=some c.fr) (hR:Rm A (n+1)) {self:Value}{x:Addr}{v:Value}{Q:Value→Loc→Map→Prop}
 (hv:v = .none∨∃ y t,v = .str y t) (hQ:∀ σ',Ext σ σ'→Q .none m σ'):COK prog w G (zg G 336) c A (.ref 608) ⟨[self,.ref x,v],[]⟩ m σ Q X:=by
 refine C_fnCR (by assumption) (by assumption) (by assumption) (by k_is) (by k_is) (by exact fun s _=>BindsTo.of_eq rfl) (by exact kinds3 fun k=>⟨.inl rfl,.inr ⟨rfl,rfl⟩,.inl rfl,trivial⟩) (by decide) (by rfl) (by rfl) (by rfl) ?_
 intro d hR' hfr hap
 have h0:=hfr (("scalar" : Str),d.L+1) (.head _)
 rcases hv with rfl | ⟨y,t,rfl⟩
 ·refine ze (zJ (j0 (ja (zv (zC (by k_is) (by boot_by_name) (by decide) (zt (za (zb rfl (za (zh (by k_is) (zc (P_isiNone (by kernel_rfl) (zd ⟨fun hb=>?_,fun hb=>?_⟩)))))))))))))
  ·exact ze (P_retNone (hQ _ (by exact Upd.refl.set_new h0)))
  ·first | exact nb hb | exact nt hb | cases hb
 ·refine ze (zJ (j0 (ja (zv (zC (by k_is) (by boot_by_name) (by decide) (zt (za (zb rfl (za (zh (by k_is) (zc (jT (by kernel_rfl) (zd ⟨fun hb=>?_,fun hb=>?_⟩)))))))))))))
  ·exact ze (P_retNone (hQ _ (by exact Upd.refl.set_new h0)))
  ·first | exact nb hb | exact nt hb | cases hb
theorem spec_store {A:Around}{n:Nat}(hY:Fly.Leaves prog w G (zg G 336)) (hA:A.frames=some c.fr) (hR:Rm A (n+2)) {CT H PL x:Addr}{v:Value}{y:Str}{t:Tok}{Q:Value→Loc→Map→Prop}
 (eC:σ CT=some (.inst 653 (counterF H PL))) (eP:σ PL=some (.raw (edP PL))) (hx:ScalarAt σ x v) (hv:v = .none∨∃ y t,v = .str y t)
 (hQ:∀ σ',Upd (fun a=>a=x) σ σ'→ScalarAt σ' x (.str y t)→Q .none m σ'):COK prog w G (zg G 336) c A (.ref 615) ⟨[.ref CT,.ref x,.str y t],[]⟩ m σ Q X:=by
 refine zk fun zz=>?_
 obtain ⟨n1,t1,k1,t2,wk,hx⟩:=hx
 refine zz ?_;clear zz
 have hh:handedIn v=true:=by rcases hv with rfl | ⟨_,_,rfl⟩ <;> rfl
 walk_at "fn"
 intro d hR'
 refine ze (jt (zI (zB (zb rfl (zw eC (by kernel_rfl) rfl rfl (P_popMeth eP (zt (za (zB (zb rfl (zw hx (by kernel_rfl) rfl rfl (za (zA (zc (P_popEmpty eP ?_)))))))))))))))
 refine ze (zJ (zj (zB (zb rfl (zw hx (by kernel_rfl) rfl rfl (zA (z7 rfl (zd ⟨fun hb=>?_,fun hb=>zy ?_⟩))))))))
 ·first | exact nb hb | exact nt hb | cases hb
 refine ze (zu (zB (zb rfl (zw hx (by kernel_rfl) rfl hh (zx ?_)))))
 refine ze (zi (zI (zb rfl (zQ eC (by kernel_rfl) rfl (zf (by kernel_rfl) (za (zb rfl (zc (COK.call (spec_take603 (n:=n) hY rfl hR' (zb rfl (zn hx (by kernel_rfl) (lek (by kernel_rfl)) ?_))))))))))))
 have hne:CT≠x:=zK eC hx (by intro z;cases z)
 refine ze (jt (zI (zb rfl (zQ (Map.set_other eC hne) (by kernel_rfl) rfl (zf (by kernel_rfl) (za (zb rfl (za (zb rfl (zc (COK.call (spec_putOff (n:=n) hY rfl hR' hv fun σ' u=>zy ?_))))))))))))
 exact hQ σ' (Upd.trans (by walk_at "upd") (u.mono fun _ h=>h.elim)) ⟨n1,t1,k1,t2,wk,Ext.get u (ju (by kernel_rfl))⟩
end
section
variable {c:Cx}{X:Str→Map→Prop}{m:Loc}{σ τ:Map}
theorem ParAt.ext {gl:Str→Option GI}{par:Str→List Str}{σ':Map}(h:ParAt σ gl par) (u:Ext σ σ'):ParAt σ' gl par:=fun p=>by
 have:=h p
 cases q:(gl (zX p)).bind GI.ar with
 | none=>rw [q] at this;exact this
 | some a=>
  rw [q] at this
  refine zk fun zz=>?_
  obtain ⟨bl,l,vs,⟨n1,t1,k1,t2,wk,ea⟩,el,hI⟩:=this
  refine zz ?_;clear zz
  exact ⟨bl,l,vs,⟨n1,t1,k1,t2,wk,u.get ea⟩,u.get el,hI.ext u⟩
inductive StkC (R:List Value→List Value→List Value→Prop) (σ:Map) (B:Addr→Prop) (par:Str→List Str) (x:Str × List Str) (pv rv av:List Value):Prop
 | mk (pv' rv' av':List Value) (t:Tok) (ρ:Addr) (k:Nat) (ta:Tok) (ys:List Value) (h1:pv=pv' ++ [.str x.1 t]) (h2:rv=rv' ++ [.ref ρ]) (h3:av=av' ++ [.int k ta]) (h4:σ ρ=some (.seq false ys)) (h5:StrsAre ys (par x.1)) (h6:x.2=(par x.1).drop k) (h7:k≤(par x.1).length) (h8:¬ B ρ) (h9:R pv' rv' av'):StkC R σ B par x pv rv av
noncomputable def Stk (σ:Map) (B:Addr→Prop) (par:Str→List Str):List (Str × List Str)→List Value→List Value→List Value→Prop
 | [],pv,rv,av=>pv=[]∧rv=[]∧av=[]
 | x :: st,pv,rv,av=>StkC (Stk σ B par st) σ B par x pv rv av
theorem Stk.upd {B:Addr→Prop}{par:Str→List Str}{σ':Map}(u:Upd B σ σ') {st:List (Str × List Str)}{pv rv av:List Value}(h:Stk σ B par st pv rv av):Stk σ' B par st pv rv av:=by
 induction st generalizing pv rv av with
 | nil=>exact h
 | cons x st ih=>
  obtain ⟨pv',rv',av',t,ρ,k,ta,ys,h1,h2,h3,h4,h5,h6,h7,h8,h9⟩:=h
  exact ⟨pv',rv',av',t,ρ,k,ta,ys,h1,h2,h3,u.get h4 h8,h5,h6,h7,h8,ih h9⟩
theorem Stk.strs {B:Addr→Prop}{par:Str→List Str}{st:List (Str × List Str)}{pv rv av:List Value}(h:Stk σ B par st pv rv av):StrsAre pv (st.map (·.1)).reverse:=by
 induction st generalizing pv rv av with
 | nil=>rw [h.1];exact .nil
 | cons x st ih=>
  obtain ⟨pv',rv',av',t,ρ,k,ta,ys,h1,h2,h3,h4,h5,h6,h7,h8,h9⟩:=h
  rw [h1,List.map_cons,List.reverse_cons]
  exact StrsAre.snoc (ih h9)
theorem Stk.len {B:Addr→Prop}{par:Str→List Str}{st:List (Str × List Str)}{pv rv av:List Value}(h:Stk σ B par st pv rv av):pv.length=st.length∧rv.length=st.length∧av.length=st.length:=by
 induction st generalizing pv rv av with
 | nil=>obtain ⟨h1,h2,h3⟩:=h;subst h1 h2 h3;exact ⟨rfl,rfl,rfl⟩
 | cons x st ih=>
  obtain ⟨pv',rv',av',t,ρ,k,ta,ys,h1,h2,h3,h4,h5,h6,h7,h8,h9⟩:=h
  have k:=ih h9
  subst h1 h2 h3
  have z:∀ (l:List Value) (x:Value),(l ++ [x]).length=l.length+1:=fun _ _=>List.length_append
  exact ⟨(z _ _).trans (congrArg _ k.1),(z _ _).trans (congrArg _ k.2.1),(z _ _).trans (congrArg _ k.2.2)⟩
theorem any_beq {ys:List Str}{k:Str}:(ys.any fun x=>x == k)=true↔k∈ys:=by
 rw [List.any_eq_true]
 constructor
 ·rintro ⟨x,hx,e⟩;rw [← eq_of_beq e];exact hx
 ·exact fun h=>⟨k,h,beq_self_eq_true k⟩
noncomputable def jd (q:Str):Str:=("Recursive inheritance detected in package '" : Str) ++ q ++ ("'" : Str)
end
namespace spec_line
noncomputable def S₀ (c:Cx) (m:Loc) (σ:Map) (X:Str→Map→Prop) (A:Around) (n:Nat) (S:Addr) (H:Addr) (D:Addr) (gen:Int) (cap:Nat) (gl:Str→Option GI) (par:Str→List Str) (p:Str) (tn:Tok) (U:List Str) (k₀:Nat) (Q:Value→Loc→Map→Prop) (res:Except Str (List Str)):Prop:=∀ (hA:A.frames=some c.fr) (hR:Rm A (n+4)) (hS:Stash prog w σ S H D gen cap gl) (hP:ParAt σ gl par) (hU:∀ x q,q∈par x→q∈U) (hp:p∈U) (hlen:∀ x∈U,x.length≤900) (hpl:∀ x,(par x).length≤900) (hUl:U.length≤900) (hrun:drun par k₀ [p] [(p,par p)]=some res) (hQ:∀ l,res = .ok l→∀ σ' a ys,Ext σ σ'→σ a=none→σ' a=some (.seq false ys)→StrsAre ys l→Q (.ref a) m σ') (hX:∀ q,res = .error q→∀ σ',Ext σ σ'→X (jd q) σ'),COK prog w G (zg G 336) c A (.ref 428) ⟨[.ref S,.str p tn],[]⟩ m σ Q X
noncomputable def e₀:Cx × Loc × Map × (Str→Map→Prop) × Around × Nat × Addr × Addr × Addr × Int × Nat × (Str→Option GI) × (Str→List Str) × Str × Tok × (List Str) × Nat × (Value→Loc→Map→Prop) × (Except Str (List Str)):=@Classical.epsilon _ ⟨(dCx,default,default,default,callerA,default,default,default,default,default,default,default,default,default,default,default,default,default,default)⟩ fun x=>¬ S₀ x.1 x.2.1 x.2.2.1 x.2.2.2.1 x.2.2.2.2.1 x.2.2.2.2.2.1 x.2.2.2.2.2.2.1 x.2.2.2.2.2.2.2.1 x.2.2.2.2.2.2.2.2.1 x.2.2.2.2.2.2.2.2.2.1 x.2.2.2.2.2.2.2.2.2.2.1 x.2.2.2.2.2.2.2.2.2.2.2.1 x.2.2.2.2.2.2.2.2.2.2.2.2.1 x.2.2.2.2.2.2.2.2.2.2.2.2.2.1 x.2.2.2.2.2.2.2.2.2.2.2.2.2.2.1 x.2.2.2.2.2.2.2.2.2.2.2.2.2.2.2.1 x.2.2.2.2.2.2.2.2.2.2.2.2.2.2.2.2.1 x.2.2.2.2.2.2.2.2.2.2.2.2.2.2.2.2.2.1 x.2.2.2.2.2.2.2.2.2.2.2.2.2.2.2.2.2.2
@[irreducible] noncomputable def c:Cx:=e₀.1
@[irreducible] noncomputable def m:Loc:=e₀.2.1
@[irreducible] noncomputable def σ:Map:=e₀.2.2.1
@[irreducible] noncomputable def X:Str→Map→Prop:=e₀.2.2.2.1
@[irreducible] noncomputable def A:Around:=e₀.2.2.2.2.1
@[irreducible] noncomputable def n:Nat:=e₀.2.2.2.2.2.1
@[irreducible] noncomputable def S:Addr:=e₀.2.2.2.2.2.2.1
@[irreducible] noncomputable def H:Addr:=e₀.2.2.2.2.2.2.2.1
@[irreducible] noncomputable def D:Addr:=e₀.2.2.2.2.2.2.2.2.1
@[irreducible] noncomputable def gen:Int:=e₀.2.2.2.2.2.2.2.2.2.1
@[irreducible] noncomputable def cap:Nat:=e₀.2.2.2.2.2.2.2.2.2.2.1
@[irreducible] noncomputable def gl:Str→Option GI:=e₀.2.2.2.2.2.2.2.2.2.2.2.1
@[irreducible] noncomputable def par:Str→List Str:=e₀.2.2.2.2.2.2.2.2.2.2.2.2.1
@[irreducible] noncomputable def p:Str:=e₀.2.2.2.2.2.2.2.2.2.2.2.2.2.1
@[irreducible] noncomputable def tn:Tok:=e₀.2.2.2.2.2.2.2.2.2.2.2.2.2.2.1
@[irreducible] noncomputable def U:List Str:=e₀.2.2.2.2.2.2.2.2.2.2.2.2.2.2.2.1
@[irreducible] noncomputable def k₀:Nat:=e₀.2.2.2.2.2.2.2.2.2.2.2.2.2.2.2.2.1
@[irreducible] noncomputable def Q:Value→Loc→Map→Prop:=e₀.2.2.2.2.2.2.2.2.2.2.2.2.2.2.2.2.2.1
@[irreducible] noncomputable def res:Except Str (List Str):=e₀.2.2.2.2.2.2.2.2.2.2.2.2.2.2.2.2.2.2
theorem here:S₀ c m σ X A n S H D gen cap gl par p tn U k₀ Q res:=by
 intro hA hR hS hP hU hp hlen hpl hUl hrun hQ hX
 show COK prog w G (zg G 336) c A (.ref 428) ⟨[.ref S,.str p tn],[]⟩ m σ Q X
 have hY:Fly.Leaves prog w G (zg G 336):=jc
 walk_at "fn"
 refine eps (n:=⟨dDyn⟩) _ ?_
 intro hR'
 refine ze (zu (z9 (za (zb rfl (zc (zF (fun La hLa=>zx ?_) (lek rfl)))))))
 refine ze (zu (z9 (za (zb rfl (zc (zF (fun Pa hPa=>zx ?_) (lek rfl)))))))
 have u₂:Ext σ ((σ.set La (.seq false [.str p tn])).set Pa (.seq false [.str p tn])):=(Upd.refl.set_new hLa).set_new hPa
 refine ze (zu (z9 (za (zv (zh (by k_is) (zf (by kernel_rfl) (za (zb rfl (za (zb rfl (zc (COK.call (spec_parents (n:=n+1) hY rfl hR' (hS.upd u₂ id id fun _ _ _=>id) (hP.ext u₂) (by have:=hlen p hp;omega) (by have:=hpl p;omega) fun σ₃ ρ ys u₃ hρ hys hsy=>?_)))))))))))))
 refine zc (zF (fun Ra hRa=>zx ?_) (lek rfl))
 refine ze (zu (z9 (za (zD fun t0=>zc (zF (fun Aa hAa=>zx ?_) (lek rfl))))))
 have dPL:Pa≠La:=fun z=>by rw [z,Map.set_self] at hPa;cases hPa
 have eL₂:((σ.set La (.seq false [.str p tn])).set Pa (.seq false [.str p tn])) La=some (.seq false [.str p tn]):=Map.set_other Map.set_self dPL.symm
 have eL₃:=u₃.get eL₂
 have eP₃:=u₃.get (Map.set_self (σ:=σ.set La (.seq false [.str p tn])) (a:=Pa) (ao:=.seq false [.str p tn]))
 have dLR:La≠Ra:=zm eL₃ hRa
 have dPR:Pa≠Ra:=zm eP₃ hRa
 have dρR:ρ≠Ra:=zm hys hRa
 have dρL:La≠ρ:=zm eL₂ hρ
 have dρP:Pa≠ρ:=zm (Map.set_self (σ:=σ.set La (.seq false [.str p tn])) (a:=Pa) (ao:=.seq false [.str p tn])) hρ
 have dLA:La≠Aa:=zm (Map.set_other eL₃ dLR) hAa
 have dPA:Pa≠Aa:=zm (Map.set_other eP₃ dPR) hAa
 have dRA:Ra≠Aa:=zm Map.set_self hAa
 have dρA:ρ≠Aa:=zm (Map.set_other hys dρR) hAa
 have sL:σ La=none:=hLa
 have sP:σ Pa=none:=by rwa [Map.set_ne dPL] at hPa
 have u23:Ext σ σ₃:=u₂.trans u₃
 have sR:σ Ra=none:=Ext.none_of u23 hRa
 have u4:Ext σ (σ₃.set Ra (.seq false [.ref ρ])):=u23.set_new hRa
 have sA:σ Aa=none:=Ext.none_of u4 hAa
 let B:Addr→Prop:=fun a=>a=La∨a=Pa∨a=Ra∨a=Aa
 have nB:∀ {a:Addr},B a→σ a=none:=fun {a} h=>by
  rcases h with h | h | h | h
  ·rw [h];exact sL
  ·rw [h];exact sP
  ·rw [h];exact sR
  ·rw [h];exact sA
 have loc:∀ {σ':Map} {a:Addr} {ao:AO},Ext σ σ'→B a→Ext σ (σ'.set a ao):=fun u h=>Upd.set_loc u (nB h)
 let res':=res
 refine ze (P_while (die_loop rfl) (J:=fun k m₁ σ₁=>A6 (m₁ "stash" = some (.ref S)) (m₁ "line" = some (.ref La)) (m₁ "path" = some (.ref Pa)) (m₁ "rows" = some (.ref Ra)) (m₁ "at" = some (.ref Aa)) (X6 fun line st lvs pv rv av=>A11 (drun par k line st=some res) (Ext σ σ₁) (σ₁ La=some (.seq false lvs)) (StrsAre lvs line) (σ₁ Pa=some (.seq false pv)) (σ₁ Ra=some (.seq false rv)) (σ₁ Aa=some (.seq false av)) (Stk σ₁ B par st pv rv av) (line.length+left U line≤U.length) (st.length≤line.length) (∀ x∈st,x.1∈U))) k₀ ?_ ?_)
 ·refine ⟨rfl,rfl,rfl,rfl,rfl,[p],[(p,par p)],_,_,_,_,hrun,u4.set_new hAa,Map.set_other (Map.set_other eL₃ dLR) dLA,.cons _ _ .nil,Map.set_other (Map.set_other eP₃ dPR) dPA,Map.set_other Map.set_self dRA,Map.set_self,
   ⟨[],[],[],tn,ρ,0,t0,ys,rfl,rfl,rfl,Map.set_other (Map.set_other hys dρR) dρA,hsy,rfl,Nat.zero_le _,?_,rfl,rfl,rfl⟩,?_,Nat.le_refl _,fun x hx=>?_⟩
  ·rintro (h | h | h | h)
   ·exact dρL h.symm
   ·exact dρP h.symm
   ·exact dρR h
   ·exact dρA h
  ·have:=left_lt (U:=U) (s:=[]) hp (fun z=>nomatch z)
   have h2:left U ([]:List Str)≤U.length:=List.length_filter_le _ _
   have e:([]:List Str) ++ [p]=[p]:=rfl
   rw [e] at this
   show 1+_≤_
   omega
  ·simp only [List.mem_singleton] at hx;subst hx;exact hp
 ·rintro k m₁ σ₁ ⟨e1,e2,e3,e4,e5,line,st,lvs,pv,rv,av,hr,u,eL,hlv,eP,eR,eA,hst,hb1,hb2,hb3⟩
  have hl1:=hst.len
  have zp:pv.length≤sizeLine:=by rw [sizeLine_eq];omega
  refine ja (zb (by exact e3) (P_truthyList eP zp ⟨fun hb=>?_,fun hb=>?_⟩))
  rotate_left
  ·have:st=[]:=by
    cases st with
    | nil=>rfl
    | cons x st=>
     have:=hl1.1
     cases pv with
     | nil=>cases this
     | cons _ _=>cases hb
   subst this
   have er:res = .ok line:=by (first | rw [drun_step] at hr | rw [drun_pop] at hr | rw [drun_nil] at hr | rw [drun_0] at hr);exact (Option.some.inj hr).symm
   exact zy (ze (zO (zb (by exact e2) (hQ line er σ₁ La lvs u sL eL hlv))))
  ·cases st with
   | nil=>rw [hst.1] at hb;cases hb
   | cons x st=>
    cases k with
    | zero=>(first | rw [drun_step] at hr | rw [drun_pop] at hr | rw [drun_nil] at hr | rw [drun_0] at hr);cases hr
    | succ k=>
    refine zk fun zz=>?_
    obtain ⟨pv',rv',av',t,ρ',j,ta,ys',h1,h2,h3,h4,h5,h6,h7,h8,h9⟩:=id hst
    obtain ⟨q0,rest⟩:=x
    refine zz ?_;clear zz
    simp only at h1 h5 h6 h7
    subst h1 h2 h3
    have hq0:q0∈U:=hb3 _ (.head _)
    have zr:ys'.length≤sizeLine:=by rw [h5.length,sizeLine_eq];have:=hpl q0;omega
    refine ze (zJ (zj (zR (zb (by exact e5) (P_unop (zD fun t1=>P_neg fun t2=>P_itemBack eA ?_))))))
    refine zv (zC (by k_is) (by boot_by_name) (by decide) (zt (za (zR (zb (by exact e4) (P_unop (zD fun t3=>P_neg fun t4=>P_itemBack eR (zc (P_len h4 zr fun t5=>P_eqInt (zd ⟨fun hb=>?_,fun hb=>zy ?_⟩))))))))))
    ·have hj:j=(par q0).length:=by
      have:=h5.length
      have h3:(j:Int)=(ys'.length:Int):=by simpa using hb
      omega
     have hrest:rest=[]:=by rw [h6,hj,List.drop_length]
     subst hrest
     have zr':(rv' ++ [Value.ref ρ']).length≤sizeLine:=by rw [sizeLine_eq,hl1.2.1];have:=hb2;omega
     have za':(av' ++ [Value.int j ta]).length≤sizeLine:=by rw [sizeLine_eq,hl1.2.2];have:=hb2;omega
     refine ze (jt (zI (zb (by exact e3) (jg eP PySem.F.slot_list_pop (by kernel_rfl) (P_callWithB0 (P_pop eP zp ?_))))))
     refine ze (jt (zI (zb (by exact e4) (jg (Map.set_other eR dPR.symm) PySem.F.slot_list_pop (by kernel_rfl) (P_callWithB0 (P_pop (Map.set_other eR dPR.symm) zr' ?_))))))
     refine ze (jt (zI (zb (by exact e5) (jg (Map.set_other (Map.set_other eA dPA.symm) dRA.symm) PySem.F.slot_list_pop (by kernel_rfl) (P_callWithB0 (P_pop (Map.set_other (Map.set_other eA dPA.symm) dRA.symm) za' ?_))))))
     refine ze (P_cont ⟨k,Nat.lt_succ_self _,e1,e2,e3,e4,e5,line,st,lvs,pv',rv',av',by (first | rw [drun_step] at hr | rw [drun_pop] at hr | rw [drun_nil] at hr | rw [drun_0] at hr);exact hr,?_,Map.set_other (Map.set_other (Map.set_other eL dPL.symm) dLR) dLA,hlv,Map.set_other (Map.set_other Map.set_self dPR) dPA,Map.set_other Map.set_self dRA,Map.set_self,?_,hb1,?_,fun x hx=>hb3 x (.tail _ hx)⟩)
     ·exact loc (loc (loc u (.inr (.inl rfl))) (.inr (.inr (.inl rfl)))) (.inr (.inr (.inr rfl)))
     ·exact h9.upd (((Upd.refl.set_in (.inr (.inl rfl))).set_in (.inr (.inr (.inl rfl)))).set_in (.inr (.inr (.inr rfl))))
     ·simp only [List.length_cons] at hb2;omega
    ·have hj:j < (par q0).length:=by
      have:=h5.length
      have h3:¬ (j:Int)=(ys'.length:Int):=by simpa using hb
      omega
     have hrest:rest=(par q0)[j] :: (par q0).drop (j+1):=by rw [h6,List.drop_eq_getElem_cons hj]
     obtain ⟨q,hq⟩:∃ q,q=(par q0)[j]:=⟨_,rfl⟩
     rw [← hq] at hrest
     subst hrest
     have hqU:q∈U:=hU q0 q (by rw [hq];exact List.getElem_mem hj)
     obtain ⟨tq,htq⟩:=h5.get j q (by simp [hj,hq])
     have hjb:(j:Int) < 2 ^ 63:=by have:=hpl q0;omega
     refine ze (zu (zR (zR (zb (by exact e4) (P_unop (zD fun t6=>P_neg fun t7=>P_itemBack eR (zR (zb (by exact e5) (P_unop (zD fun t8=>P_neg fun t9=>P_itemBack eA (kh h4 (Int.natCast_nonneg j) hjb (by exact htq) (zx ?_))))))))))))
     refine ze (P_augSub (zb (by exact e5) (P_unop (zD fun t10=>P_neg fun t11=>P_getItemBack eA (zD fun t12=>P_iaddInt fun t13=>P_setItemBack eA ?_)))))
     have eL₂:=Map.set_other (a:=Aa) (ao:=.seq false (av' ++ [.int ((j:Int)+1) t13])) eL dLA
     have eP₂:=Map.set_other (a:=Aa) (ao:=.seq false (av' ++ [.int ((j:Int)+1) t13])) eP dPA
     have eR₂:=Map.set_other (a:=Aa) (ao:=.seq false (av' ++ [.int ((j:Int)+1) t13])) eR dRA
     have u₂:Ext σ (σ₁.set Aa (.seq false (av' ++ [.int ((j:Int)+1) t13]))):=loc u (.inr (.inr (.inr rfl)))
     have hst₂:Stk (σ₁.set Aa (.seq false (av' ++ [.int ((j:Int)+1) t13]))) B par ((q0,(par q0).drop (j+1)) :: st) (pv' ++ [.str q0 t]) (rv' ++ [.ref ρ']) (av' ++ [.int ((j:Int)+1) t13]):=
      ⟨pv',rv',av',t,ρ',j+1,t13,ys',rfl,rfl,rfl,Map.set_other h4 fun z=>h8 (.inr (.inr (.inr z))),h5,rfl,hj,h8,h9.upd (Upd.refl.set_in (.inr (.inr (.inr rfl))))⟩
     (first | rw [drun_step] at hr | rw [drun_pop] at hr | rw [drun_nil] at hr | rw [drun_0] at hr)
     refine ze (zJ (zj (zb rfl (zb (by exact e3) (P_inStrs eP₂ hst.strs (zd ⟨fun hb=>?_,fun hb=>zy ?_⟩))))))
     ·have hqm:q∈q0 :: st.map (·.1):=by
       have:=any_beq.mp hb
       simpa [or_comm] using this
      rw [if_pos hqm] at hr
      have er:res = .error q:=(Option.some.inj hr).symm
      have hql:=hlen q hqU
      have l1:(("Recursive inheritance detected in package '" : Str) ++ q).length=43+q.length:=by
       show (("Recursive inheritance detected in package '" : Str).cps ++ q.cps).size=_
       rw [Array.size_append];rfl
      refine ze (P_raise hR'.2.2 die_raise (zv (zh (by k_is) (zf (by kernel_rfl) (za (zG (zG (zo fun t1=>zb rfl (zH (by rw [sizeLine_eq];show 43+q.length≤_;omega) fun t2=>zo fun t3=>zH (by rw [l1,sizeLine_eq];show _+1≤_;omega) fun t4=>zc
       (P_dieCall (n:=n) hY (hR'.le (by omega)) fun a t5 h0=>⟨a,_,_,_,rfl,Map.set_self,rfl,hX q er _ ?_⟩))))))))))
      intro b bo hbb _
      have hb':=u₂.get hbb
      have hne:b≠a:=zm hb' h0
      rw [Map.del_ne hne,Map.set_ne hne];exact hb'
     ·have hqm:¬ q∈q0 :: st.map (·.1):=fun z=>by
       have:((q0 :: st.map (·.1)).reverse.any fun x=>x == q)=true:=any_beq.mpr (List.mem_reverse.mpr z)
       rw [List.map_cons] at hb
       rw [this] at hb;cases hb
      rw [if_neg hqm] at hr
      refine ze (zJ (zj (zb rfl (zb (by exact e2) (P_notInStrs eL₂ hlv (zd ⟨fun hb=>?_,fun hb=>zy (zy ?_)⟩))))))
      ·have hql:q∉line:=fun z=>by rw [any_beq.mpr z] at hb;cases hb
       rw [if_neg hql] at hr
       have hlt:=left_lt (U:=U) hqU hql
       have zl:lvs.length≤sizeLine:=by rw [hlv.length,sizeLine_eq];omega
       have zr':(rv' ++ [Value.ref ρ']).length≤sizeLine:=by rw [sizeLine_eq,hl1.2.1];have:=hb2;omega
       have za':(av' ++ [Value.int ((j:Int)+1) t13]).length≤sizeLine:=by have e:(av' ++ [Value.int ((j:Int)+1) t13]).length=(av' ++ [Value.int j ta]).length:=by { simp };rw [e,sizeLine_eq,hl1.2.2];have:=hb2;omega
       refine ze (jt (zI (zb (by exact e2) (jg eL₂ slot_list_append (by kernel_rfl) (zt (za (zb rfl (zc (jS eL₂ zl ?_)))))))))
       refine ze (jt (zI (zb (by exact e3) (jg (Map.set_other eP₂ dPL) slot_list_append (by kernel_rfl) (zt (za (zb rfl (zc (jS (Map.set_other eP₂ dPL) zp ?_)))))))))
       have u₄:=loc (ao:=.seq false (pv' ++ [.str q0 t] ++ [.str q tq])) (loc (ao:=.seq false (lvs ++ [.str q tq])) u₂ (.inl rfl)) (.inr (.inl rfl))
       have eR₄:=Map.set_other (a:=Pa) (ao:=.seq false (pv' ++ [.str q0 t] ++ [.str q tq])) (Map.set_other (a:=La) (ao:=.seq false (lvs ++ [.str q tq])) eR₂ dLR.symm) dPR.symm
       refine ze (jt (zI (zb (by exact e4) (jg eR₄ slot_list_append (by kernel_rfl) (zt (za (zv (zh (by k_is) (zf (by kernel_rfl) (za (zb (by exact e1) (za (zb rfl (zc (COK.call
        (spec_parents (n:=n+1) hY rfl hR' (hS.upd u₄ id id fun _ _ _=>id) (hP.ext u₄) (by have:=hlen q hqU;omega) (by have:=hpl q;omega) fun σ₅ ρ₂ ys₂ u₅ hρ₂ hys₂ hsy₂=>zc (jS (u₅.get eR₄) zr' ?_)))))))))))))))))
       have bn:∀ {a:Addr},B a→a≠ρ₂:=fun {a} h z=>by
        subst z
        have hh:∃ ao,((σ₁.set Aa (.seq false (av' ++ [.int ((j:Int)+1) t13]))).set La (.seq false (lvs ++ [.str q tq]))).set Pa (.seq false (pv' ++ [.str q0 t] ++ [.str q tq])) a=some ao:=by
         rcases h with h | h | h | h
         ·rw [h];exact ⟨_,Map.set_other Map.set_self dPL.symm⟩
         ·rw [h];exact ⟨_,Map.set_self⟩
         ·rw [h];exact ⟨_,eR₄⟩
         ·rw [h];exact ⟨_,Map.set_other (Map.set_other Map.set_self dLA.symm) dPA.symm⟩
        obtain ⟨ao,hao⟩:=hh
        rw [hρ₂] at hao;cases hao
       have eA₅:=u₅.get (Map.set_other (a:=Pa) (ao:=.seq false (pv' ++ [.str q0 t] ++ [.str q tq])) (Map.set_other (a:=La) (ao:=.seq false (lvs ++ [.str q tq])) (Map.set_self (σ:=σ₁) (a:=Aa) (ao:=.seq false (av' ++ [.int ((j:Int)+1) t13]))) dLA.symm) dPA.symm)
       have eL₅:=u₅.get (Map.set_other (a:=Pa) (ao:=.seq false (pv' ++ [.str q0 t] ++ [.str q tq])) (Map.set_self (σ:=σ₁.set Aa (.seq false (av' ++ [.int ((j:Int)+1) t13]))) (a:=La) (ao:=.seq false (lvs ++ [.str q tq]))) dPL.symm)
       have eP₅:=u₅.get (Map.set_self (σ:=(σ₁.set Aa (.seq false (av' ++ [.int ((j:Int)+1) t13]))).set La (.seq false (lvs ++ [.str q tq]))) (a:=Pa) (ao:=.seq false (pv' ++ [.str q0 t] ++ [.str q tq])))
       refine ze (jt (zI (zb (by exact e5) (jg (Map.set_other eA₅ dRA.symm) slot_list_append (by kernel_rfl) (zt (za (zD fun t14=>zc (jS (Map.set_other eA₅ dRA.symm) za' (zy (zy ?_))))))))))
       refine ⟨k,Nat.lt_succ_self _,e1,e2,e3,e4,e5,line ++ [q],(q,par q) :: (q0,(par q0).drop (j+1)) :: st,_,_,_,_,hr,?_,Map.set_other (Map.set_other eL₅ dLR) dLA,StrsAre.snoc hlv,Map.set_other (Map.set_other eP₅ dPR) dPA,Map.set_other Map.set_self dRA,Map.set_self,
        ⟨_,_,_,tq,ρ₂,0,t14,ys₂,rfl,rfl,rfl,Map.set_other (Map.set_other hys₂ (bn (.inr (.inr (.inl rfl)))).symm) (bn (.inr (.inr (.inr rfl)))).symm,hsy₂,rfl,Nat.zero_le _,fun h=>bn h rfl,?_⟩,?_,?_,fun x hx=>?_⟩
       ·exact loc (loc (u₄.trans u₅) (.inr (.inr (.inl rfl)))) (.inr (.inr (.inr rfl)))
       ·exact (((hst₂.upd ((Upd.refl.set_in (.inl rfl)).set_in (.inr (.inl rfl)))).upd (u₅.mono fun _ h=>h.elim)).upd (Upd.refl.set_in (.inr (.inr (.inl rfl))))).upd (Upd.refl.set_in (.inr (.inr (.inr rfl))))
       ·rw [List.length_append];show line.length+1+_≤_;omega
       ·rw [List.length_append];simp only [List.length_cons] at hb2 ⊢;show _≤line.length+1;omega
       ·rcases List.mem_cons.mp hx with rfl | hx
        ·exact hqU
        ·rcases List.mem_cons.mp hx with rfl | hx
         ·exact hq0
         ·exact hb3 x (.tail _ hx)
      ·have hql:q∈line:=by
        cases z:line.any fun x=>x == q with
        | true=>exact any_beq.mp z
        | false=>rw [z] at hb;cases hb
       rw [if_pos hql] at hr
       exact ⟨k,Nat.lt_succ_self _,e1,e2,e3,e4,e5,line,(q0,(par q0).drop (j+1)) :: st,lvs,_,_,_,hr,u₂,eL₂,hlv,eP₂,eR₂,Map.set_self,hst₂,hb1,hb2,fun x hx=>by
        rcases List.mem_cons.mp hx with rfl | hx
        ·exact hq0
        ·exact hb3 x (.tail _ hx)⟩
end spec_line
section
variable {c:Cx}{X:Str→Map→Prop}{m:Loc}{σ τ:Map}
theorem spec_line {A:Around}{n:Nat}(hA:A.frames=some c.fr) (hR:Rm A (n+4)) {S:Addr}{H:Addr}{D:Addr}{gen:Int}{cap:Nat}{gl:Str→Option GI}{par:Str→List Str}{p:Str}{tn:Tok}{U:List Str}{k₀:Nat}{Q:Value→Loc→Map→Prop}(hS:Stash prog w σ S H D gen cap gl) (hP:ParAt σ gl par) (hU:∀ x q,q∈par x→q∈U) (hp:p∈U) (hlen:∀ x∈U,x.length≤900) (hpl:∀ x,(par x).length≤900) (hUl:U.length≤900) {res:Except Str (List Str)}(hrun:drun par k₀ [p] [(p,par p)]=some res) (hQ:∀ l,res = .ok l→∀ σ' a ys,Ext σ σ'→σ a=none→σ' a=some (.seq false ys)→StrsAre ys l→Q (.ref a) m σ') (hX:∀ q,res = .error q→∀ σ',Ext σ σ'→X (jd q) σ'):COK prog w G (zg G 336) c A (.ref 428) ⟨[.ref S,.str p tn],[]⟩ m σ Q X:=by with_unfolding_all exact eps (fun x:Cx × Loc × Map × (Str→Map→Prop) × Around × Nat × Addr × Addr × Addr × Int × Nat × (Str→Option GI) × (Str→List Str) × Str × Tok × (List Str) × Nat × (Value→Loc→Map→Prop) × (Except Str (List Str))=>spec_line.S₀ x.1 x.2.1 x.2.2.1 x.2.2.2.1 x.2.2.2.2.1 x.2.2.2.2.2.1 x.2.2.2.2.2.2.1 x.2.2.2.2.2.2.2.1 x.2.2.2.2.2.2.2.2.1 x.2.2.2.2.2.2.2.2.2.1 x.2.2.2.2.2.2.2.2.2.2.1 x.2.2.2.2.2.2.2.2.2.2.2.1 x.2.2.2.2.2.2.2.2.2.2.2.2.1 x.2.2.2.2.2.2.2.2.2.2.2.2.2.1 x.2.2.2.2.2.2.2.2.2.2.2.2.2.2.1 x.2.2.2.2.2.2.2.2.2.2.2.2.2.2.2.1 x.2.2.2.2.2.2.2.2.2.2.2.2.2.2.2.2.1 x.2.2.2.2.2.2.2.2.2.2.2.2.2.2.2.2.2.1 x.2.2.2.2.2.2.2.2.2.2.2.2.2.2.2.2.2.2) spec_line.here (c,m,σ,X,A,n,S,H,D,gen,cap,gl,par,p,tn,U,k₀,Q,res) hA hR hS hP hU hp hlen hpl hUl hrun hQ hX
end
section
variable {c:Cx}{X:Str→Map→Prop}{m:Loc}{σ τ:Map}
noncomputable def merge (l:List Str) (o:Str):List Str:=if o∈l then l else l ++ [o]
theorem merge_in {l:List Str}{o:Str}(h:o∈l):merge l o=l:=if_pos h
theorem merge_new {l:List Str}{o:Str}(h:o∉l):merge l o=l ++ [o]:=if_neg h
noncomputable def zS (par:Str→List Str) (p:Str):Except Str (List Str):=
 match jX par 7 p with
 | .error q=>.error q
 | .ok l=>match jX par 7 "UNIVERSAL" with
  | .error q=>.error q
  | .ok l₂=>.ok (l₂.foldl merge l)
structure ParOk (par:Str→List Str) (U:List Str):Prop where
 hU:∀ x q,q∈par x→q∈U
 hl:U.length < 7
 hlen:∀ x∈U,x.length≤900
 hpl:∀ x,(par x).length≤900
 huni:("UNIVERSAL" : Str)∈U
theorem bl_sub {par:Str→List Str}{U:List Str}(hp:ParOk par U) {n:Nat}{p:Str}(h:p∈U):∀ x∈bl par n p [],x∈U:=fun x hx=>by
 rcases bl_mem.2.2 x hx with h | h'
 ·first | exact nb h | exact nt h | cases h
 ·induction h' with
  | refl=>exact h
  | tail _ hc _=>exact hp.hU _ _ hc
theorem lineOf_sub {par:Str→List Str}{U:List Str}(hp:ParOk par U) {p:Str}(h:p∈U) {l:List Str}(e:jX par 7 p = .ok l):(∀ x∈l,x∈U)∧l.Nodup:=by
 have:=lineOf_spec hp.hU h hp.hl
 rw [e] at this
 rw [this.1]
 exact ⟨bl_sub hp h,bl_nodup List.nodup_nil⟩
theorem left_app {U:List Str}{l s:List Str}(h1:l.Nodup) (h2:∀ x∈l,x∈U) (h3:∀ x∈l,x∉s):left U (s ++ l)+l.length≤left U s:=by
 induction l generalizing s with
 | nil=>rw [List.append_nil];exact Nat.le_refl _
 | cons x r ih=>
  have h1:=List.nodup_cons.mp h1
  have a:=left_lt (U:=U) (h2 x (.head _)) (h3 x (.head _))
  have b:=ih (s:=s ++ [x]) h1.2 (fun y hy=>h2 y (.tail _ hy)) fun y hy z=>(List.mem_append.mp z).elim (h3 y (.tail _ hy)) fun z=>h1.1 (List.mem_singleton.mp z ▸ hy)
  rw [List.append_assoc] at b
  exact Nat.le_trans (Nat.succ_le_succ b) a
theorem jI {U l:List Str}(h1:l.Nodup) (h2:∀ x∈l,x∈U):l.length≤U.length:=by
 have:=left_app (s:=[]) h1 h2 fun x _=>(fun z=>nomatch z)
 have h3:left U ([]:List Str)≤U.length:=List.length_filter_le _ _
 omega
theorem merge_sub {U:List Str}:∀ {l₂ l:List Str},(∀ x∈l,x∈U)→(∀ x∈l₂,x∈U)→∀ x∈l₂.foldl merge l,x∈U
 | [],l,h,_=>h
 | y :: r,l,h,h₂=>by
  rw [List.foldl_cons]
  refine merge_sub (fun x hx=>?_) fun x hx=>h₂ x (.tail _ hx)
  unfold merge at hx
  split at hx
  ·exact h x hx
  ·rcases List.mem_append.mp hx with hx | hx
   ·exact h x hx
   ·simp only [List.mem_singleton] at hx;rw [hx];exact h₂ y (.head _)
theorem merge_nodup:∀ {l₂ l:List Str},l.Nodup→(l₂.foldl merge l).Nodup
 | [],l,h=>h
 | y :: r,l,h=>by
  rw [List.foldl_cons]
  refine merge_nodup ?_
  unfold merge
  split
  ·exact h
  ·rename_i hy
   exact List.nodup_append.mpr ⟨h,by simp,fun a ha b hb=>by simp only [List.mem_singleton] at hb;exact fun z=>hy (by rw [← hb,← z];exact ha)⟩
theorem spec_whole {A:Around}{n:Nat}(hA:A.frames=some c.fr) (hR:Rm A (n+5)) {S H D:Addr}{gen:Int}{cap:Nat}{gl:Str→Option GI}{par:Str→List Str}{p:Str}{tn:Tok}{U:List Str}{Q:Value→Loc→Map→Prop}
 (hS:Stash prog w σ S H D gen cap gl) (hP:ParAt σ gl par) (hp:ParOk par U) (hpU:p∈U)
 (hQ:∀ l,zS par p = .ok l→∀ σ' a ys,Ext σ σ'→σ a=none→σ' a=some (.seq false ys)→StrsAre ys l→Q (.ref a) m σ')
 (hX:∀ q,zS par p = .error q→∀ σ',Ext σ σ'→X (jd q) σ'):COK prog w G (zg G 336) c A (.ref 435) ⟨[.ref S,.str p tn],[]⟩ m σ Q X:=by
 have hY:Fly.Leaves prog w G (zg G 336):=jc
 refine zk fun zz=>?_
 obtain ⟨k₁,hk₁⟩:=lineOf_run hp.hU hpU hp.hl
 obtain ⟨k₂,hk₂⟩:=lineOf_run hp.hU hp.huni hp.hl
 refine zz ?_;clear zz
 have hUl:U.length≤900:=by have:=hp.hl;omega
 walk_at "fn"
 intro d hR'
 refine ze (zu (zv (zh (by k_is) (zf (by kernel_rfl) (za (zb rfl (za (zb rfl (zc (COK.call (spec_line (n:=n) rfl hR' hS hP hp.hU hpU hp.hlen hp.hpl hUl hk₁
  (fun l hl σ₁ La lvs u₁ hLa eL hlv=>zx ?_) fun q hq σ' u=>hX q (by unfold zS;rw [hq]) σ' u)))))))))))
 have hls:=lineOf_sub hp hpU hl
 refine ze (P_for hR'.2.2 (zv (zh (by k_is) (zf (by kernel_rfl) (za (zb rfl (za (zh (by k_is) (zc (COK.call (spec_line (n:=n) rfl hR' (hS.upd u₁ id id fun _ _ _=>id) (hP.ext u₁) hp.hU hp.huni hp.hlen hp.hpl hUl hk₂
  (fun l₂ hl₂ σ₂ Lb ys u₂ hLb eB hsy=>⟨ys.length,fun i v=>ys[i]? = some v,fun ρ=>ρ Lb=some (.seq false ys),
   fun i m' σ'=>A5 (m' "line" = some (.ref La)) (Ext σ σ') (i≤ys.length) (σ' Lb=some (.seq false ys)) (∃ lv,(σ' La=some (.seq false lv))∧(StrsAre lv ((l₂.take i).foldl merge l))),Iterable.list,?_,?_,?_,?_⟩)
  fun q hq σ' u=>hX q (by unfold zS;rw [hl];show (match jX par 7 "UNIVERSAL" with | .error q=>_ | .ok l₂=>_)=_;rw [hq]) σ' (u₁.trans u))))))))))))
 ·exact fun i m' σ' τ' ⟨_,_,_,h,_⟩=>Map.or_some h
 ·exact ⟨rfl,u₁.trans u₂,Nat.zero_le _,eB,lvs,u₂.get eL,hlv⟩
 ·rintro i v m' σ' hi hv ⟨e1,u,_,eB',lv,eL',hlv'⟩
  have hls₂:=lineOf_sub hp hp.huni hl₂
  have hil:i < l₂.length:=by rw [← hsy.length];exact hi
  obtain ⟨t,ht⟩:=hsy.get i l₂[i] (by simp [hil])
  have:v = .str l₂[i] t:=by rw [ht] at hv;exact (Option.some.inj hv).symm
  subst this
  have hstep:(l₂.take (i+1)).foldl merge l=merge ((l₂.take i).foldl merge l) l₂[i]:=by
   rw [List.take_add_one,List.foldl_append];simp [hil]
  have hne:Lb≠La:=fun z=>by rw [z,eL] at hLb;cases hLb
  refine ze (zJ (zj (zb rfl (zb (by exact e1) (P_notInStrs eL' hlv' (zd ⟨fun hb=>?_,fun hb=>zy (zy ⟨by exact e1,u,hi,eB',lv,eL',?_⟩)⟩))))))
  ·have hn:l₂[i]∉(l₂.take i).foldl merge l:=fun z=>by rw [any_beq.mpr z] at hb;cases hb
   have zl:lv.length≤sizeLine:=by
    have:=jI (U:=U) (merge_nodup (l₂:=l₂.take i) hls.2) (merge_sub hls.1 fun x hx=>hls₂.1 x (List.mem_of_mem_take hx))
    rw [hlv'.length,sizeLine_eq];omega
   refine ze (jt (zI (zb (by exact e1) (jg eL' slot_list_append (by kernel_rfl) (zt (za (zb rfl (zc (jS eL' zl (zy (zy ⟨by exact e1,u.set_loc hLa,hi,Map.set_other eB' hne,_,Map.set_self,?_⟩)))))))))))
   rw [hstep,merge_new hn]
   exact StrsAre.snoc hlv'
  ·have hn:l₂[i]∈(l₂.take i).foldl merge l:=by
    cases z:((l₂.take i).foldl merge l).any fun x=>x == l₂[i] with
    | true=>exact any_beq.mp z
    | false=>rw [z] at hb;cases hb
   rw [hstep,merge_in hn]
   exact hlv'
 ·rintro m' σ' ⟨e1,u,_,_,lv,eL',hlv'⟩
  rw [List.take_of_length_le (by rw [hsy.length];exact Nat.le_refl _)] at hlv'
  refine zy (ze (zO (zb (by exact e1) (hQ _ ?_ σ' La lv u hLa eL' hlv'))))
  unfold zS
  rw [hl]
  show (match jX par 7 "UNIVERSAL" with | .error q=>_ | .ok l₂=>_)=_
  rw [hl₂]
end
section
variable {c:Cx}{X:Str→Map→Prop}{m:Loc}{σ τ:Map}
theorem zP (x y:Str):(x ++ y).length=x.length+y.length:=by
 show (x.cps ++ y.cps).size=_
 rw [Array.size_append];rfl
theorem app_assoc (x y z:Str):x ++ y ++ z=x ++ (y ++ z):=by
 show (⟨(x.cps ++ y.cps) ++ z.cps⟩:Str)=⟨x.cps ++ (y.cps ++ z.cps)⟩
 rw [Array.append_assoc]
noncomputable def inPkg (p nm:Str):Bool:=Txt.slice nm none (some (p.length+2)) == p ++ ("::" : Str)
theorem valueAt_mem {kvs:List (Str × Value)}{k:Str}:(valueAt kvs k).isSome=true↔k∈kvs.map (·.1):=by
 unfold valueAt
 rw [Option.isSome_map,List.find?_isSome,List.mem_map]
 constructor
 ·rintro ⟨x,hx,e⟩;exact ⟨x,hx,of_decide_eq_true e⟩
 ·rintro ⟨x,hx,e⟩;exact ⟨x,hx,decide_eq_true e⟩
theorem Map.set_same {a:Addr}{ao:AO}{σ:Map}(h:σ a=some ao):σ.set a ao=σ:=by
 funext b;unfold Map.set;by_cases z:b=a
 ·rw [if_pos z,z,h]
 ·rw [if_neg z]
theorem P_nodup {α:Type}{t:Sem α}{Q:α→Loc→Map→Prop}{D:Addr}{kvs:List (Str × Value)}(hx:σ D=some (.raw (sdP prog w D kvs))) (h:(kvs.map (·.1)).Nodup→POK prog w G (zg G 336) c t m σ Q X):POK prog w G (zg G 336) c t m σ Q X:=
 POK.reraw hx fun o ho=>⟨_,ho,by
  rw [Map.set_same hx]
  refine zk fun zz=>?_
  obtain ⟨_,es,ep,_,_,_,_,hn⟩:=ho
  refine zz ?_;clear zz
  exact h hn⟩
theorem spec_hasPackage {A:Around}{n:Nat}(hY:Fly.Leaves prog w G (zg G 336)) (hA:A.frames=some c.fr) (hR:Rm A (n+1)) {S H D:Addr}{gen:Int}{cap:Nat}{gl:Str→Option GI}{p:Str}{tn:Tok}{Q:Value→Loc→Map→Prop}
 (hS:Stash prog w σ S H D gen cap gl) {Ks:List Str} (hKs:Ks.length < 64) (hKm:∀ nm g,gl nm=some g→nm∈Ks) (hp:p.length≤1000) (hnl:∀ nm g,gl nm=some g→nm.length≤1000)
 (hQ:∀ b:Bool,(b=true↔∃ nm g,gl nm=some g∧inPkg p nm=true)→∀ σ',Ext σ σ'→Q (.bool b) m σ'):COK prog w G (zg G 336) c A (.ref 498) ⟨[.ref S,.str p tn],[]⟩ m σ Q X:=by
 refine zk fun zz=>?_
 obtain ⟨tg,eS⟩:=hS.hS
 obtain ⟨kvs,eD,hl,hv⟩:=hS.hD
 refine zz ?_;clear zz
 have hk:∀ k,k∈kvs.map (·.1)↔∃ g,gl k=some g:=fun k=>by
  rw [← valueAt_mem,hv]
  cases gl k <;> simp
 walk_at "fn"
 intro d hR'
 refine P_nodup eD fun hnd=>?_
 have h64:kvs.length < 64:=by
  have:=jI (U:=Ks) hnd fun k hk'=>by
   obtain ⟨g,hg⟩:=(hk k).mp hk'
   exact hKm k g hg
  rw [List.length_map] at this
  omega
 refine ze (P_for hR'.2.2 (zv (zC (by k_is) (by boot_by_name) (by decide) (zt (za (zB (zb rfl (zw eS (by kernel_rfl) rfl rfl (zc (P_sortedD hR'.2.2 eD h64 fun Da ys ks hDa hys hperm=>
  ⟨ys.length,fun i v=>ys[i]? = some v,fun ρ=>ρ Da=some (.seq false ys),fun i m' σ'=>A3 (m' "package" = some (.str p tn)) (σ'=σ.set Da (.seq false ys)) (∀ j,j < i→∀ k,ks[j]? = some k→inPkg p k=false),Iterable.list,?_,?_,?_,?_⟩))))))))))
 ·rintro i m' σ' τ' ⟨_,rfl,_⟩
  exact Map.or_some Map.set_self
 ·exact ⟨rfl,rfl,fun j hj=>by omega⟩
 ·rintro i v m' σ' hi hv' ⟨e1,rfl,e2⟩
  have hik:i < ks.length:=by rw [← hys.length];exact hi
  obtain ⟨t,ht⟩:=hys.get i ks[i] (by simp [hik])
  have:v = .str ks[i] t:=by rw [ht] at hv';exact (Option.some.inj hv').symm
  subst this
  have hkm:ks[i]∈kvs.map (·.1):=hperm.mem_iff.mp (List.getElem_mem hik)
  obtain ⟨g,hg⟩:=(hk _).mp hkm
  have hz:ks[i].length≤sizeLine:=by have:=hnl _ g hg;rw [sizeLine_eq];omega
  refine ze (zJ (zj (P_sliceTo (zb rfl ⟨_,_,rfl,hz,zG (zv (zC (by k_is) (by boot_by_name) (by decide) (zt (za (zb (by exact e1) (zc (P_lenStr (by rw [sizeLine_eq];omega) fun t1=>zD fun t2=>P_addInt fun t3=>⟨_,_,rfl,fun t4=>zG (zb (by exact e1) (zo fun t5=>zH (by rw [sizeLine_eq];show p.length+2≤_;omega) fun t6=>jK (zd ⟨fun hb=>?_,fun hb=>zy (zy ⟨by exact e1,rfl,fun j hj k hk'=>?_⟩)⟩)))⟩)))))))⟩))))
  ·exact ze (zO (P_boolC (hQ true ⟨fun _=>⟨ks[i],g,hg,hb⟩,fun _=>rfl⟩ _ (Upd.refl.set_new hDa))))
  ·rcases Nat.lt_or_ge j i with h | h
   ·exact e2 j h k hk'
   ·have:j=i:=by omega
    subst this
    have e:k=ks[j]:=by rw [List.getElem?_eq_getElem hik] at hk';exact (Option.some.inj hk').symm
    rw [e];exact hb
 ·rintro m' σ' ⟨e1,rfl,e2⟩
  refine zy (ze (zO (P_boolC (hQ false ⟨fun z=>(nomatch z),fun ⟨nm,g,h1,h2⟩=>?_⟩ _ (Upd.refl.set_new hDa)))))
  have hm:nm∈ks:=hperm.mem_iff.mpr ((hk nm).mpr ⟨g,h1⟩)
  refine zk fun zz=>?_
  obtain ⟨j,hj,e⟩:=List.getElem_of_mem hm
  refine zz ?_;clear zz
  have:=e2 j (by rw [hys.length];exact hj) nm (by rw [List.getElem?_eq_getElem hj,e])
  rw [this] at h2;cases h2
noncomputable def zZ (p nm:Str):Str:=("Can't locate object method \"" : Str) ++ nm ++ ("\" via package \"" : Str) ++ p ++ ("\"" : Str)
noncomputable def zY (p nm:Str) (known:Bool):Str:=if known then zZ p nm else zZ p nm ++ (" (perhaps you forgot to load \"" : Str) ++ p ++ ("\"?)" : Str)
theorem spec_noMethod {A:Around}{n:Nat}(hY:Fly.Leaves prog w G (zg G 336)) (hA:A.frames=some c.fr) (hR:Rm A (n+4)) {S H D:Addr}{gen:Int}{cap:Nat}{gl:Str→Option GI}{p nm:Str}{tn tp:Tok}{Q:Value→Loc→Map→Prop}
 (hS:Stash prog w σ S H D gen cap gl) {Ks:List Str} (hKs:Ks.length < 64) (hKm:∀ nm g,gl nm=some g→nm∈Ks) (hp:p.length≤1000) (hnm:nm.length≤1000) (hnl:∀ nm g,gl nm=some g→nm.length≤1000)
 (hQ:∀ b:Bool,(b=true↔∃ nm g,gl nm=some g∧inPkg p nm=true)→∀ σ' a t t',Ext σ σ'→σ' a=none→Q (.ref a) m (σ'.set a (.exc 336 [("text",.str "died" t),("value",.str (zY p nm b) t')] none))):COK prog w G (zg G 336) c A (.ref 505) ⟨[.ref S,.str p tp,.str nm tn],[]⟩ m σ Q X:=by
 walk_at "fn"
 intro d hR'
 have l0:∀ x:Str,(("Can't locate object method \"" : Str) ++ x).length=28+x.length:=fun x=>zP _ _
 have l1:(("Can't locate object method \"" : Str) ++ nm ++ ("\" via package \"" : Str)).length=28+nm.length+15:=by rw [zP,zP];rfl
 have l2:(("Can't locate object method \"" : Str) ++ nm ++ ("\" via package \"" : Str) ++ p).length=28+nm.length+15+p.length:=by rw [zP,l1]
 have l3:(zZ p nm).length=28+nm.length+15+p.length+1:=by unfold zZ;rw [zP,l2];rfl
 have l4:((" (perhaps you forgot to load \"" : Str) ++ p).length=30+p.length:=zP _ _
 have l5:((" (perhaps you forgot to load \"" : Str) ++ p ++ ("\"?)" : Str)).length=30+p.length+3:=by rw [zP,l4];rfl
 refine ze (zu (zG (zG (zG (zG (zo fun t1=>zb rfl (zH (by rw [sizeLine_eq];show 28+_≤_;omega) fun t2=>zo fun t3=>zH (by rw [l0,sizeLine_eq];show _+15≤_;omega) fun t4=>zb rfl (zH (by rw [l1,sizeLine_eq];omega) fun t5=>zo fun t6=>
  zH (by rw [l2,sizeLine_eq];show _+1≤_;omega) fun t7=>zx ?_))))))))
 refine j8 (J:=fun m₁ σ₁=>(Ext σ σ₁)∧(X2 fun b t=>((b=true↔∃ nm g,gl nm=some g∧inPkg p nm=true))∧(m₁ "text" = some (.str (zY p nm b) t)))) ?_ ?_
 ·refine zJ (j0 (ja (zv (zh (by k_is) (zf (by kernel_rfl) (za (zb rfl (za (zb rfl (zc (COK.call (spec_hasPackage (n:=n+2) hY rfl hR' hS hKs hKm hp hnl fun b hb σ' u=>zd ⟨fun h=>?_,fun h=>zy ⟨rfl,u,b,t7,hb,?_⟩⟩))))))))))))
  ·have hbf:b=false:=by cases b <;> simp_all
   refine ze (P_augName (P_loadName rfl (zG (zG (zo fun t8=>zb rfl (zH (by rw [sizeLine_eq];show 30+_≤_;omega) fun t9=>zo fun t10=>zH (by rw [l4,sizeLine_eq];show _+3≤_;omega) fun t11=>P_iaddStr (by show (zZ p nm).length+_≤_;rw [l3,l5,sizeLine_eq];omega) fun t12=>zx (zy ⟨rfl,u,b,t12,hb,?_⟩)))))))
   have e:zY p nm b=zZ p nm ++ ((" (perhaps you forgot to load \"" : Str) ++ p ++ ("\"?)" : Str)):=by
    unfold zY;rw [hbf,if_neg (by decide),← app_assoc,← app_assoc]
   rw [e];rfl
  ·have hbt:b=true:=by cases b <;> simp_all
   have e:zY p nm b=zZ p nm:=by unfold zY;rw [hbt,if_pos rfl]
   rw [e];rfl
 ·rintro m₁ σ₁ ⟨u,b,t,hb,e1⟩
  exact ze (zO (zv (zh (by k_is) (zf (by kernel_rfl) (za (zb e1 (zc (P_dieCall (n:=n) hY hR' fun a t' h0=>hQ b hb σ₁ a t' t u h0))))))))
end
section
variable {c:Cx}{X:Str→Map→Prop}{m:Loc}{σ τ:Map}
noncomputable def P5:List Str:=["A","B","C::D","E","UNIVERSAL"]
noncomputable def P6:List Str:=["A","B","C::D","E","UNIVERSAL","F"]
noncomputable def N9:List Str:=["m","n","AUTOLOAD","DESTROY","\x69mport","isa","can","DOES","VERSION"]
noncomputable def N10:List Str:=["m","n","AUTOLOAD","DESTROY","\x69mport","isa","can","DOES","VERSION","ISA"]
structure Ad where
 R:Addr
 S:Addr
 H:Addr
 D:Addr
 CT:Addr
 Z:Addr
 PL:Addr
 MC:Addr
structure Sv where
 TB:Addr
 gen:Int
 last:Int
 gl:Str→Option GI
 par:Str→List Str
 sb:Str→Str→Option Int
 tl:Str→Option Str
 ld:Str→Addr
 it:Str→List Addr
noncomputable def dSv:Sv:=⟨0,0,0,fun _=>none,fun _=>[],fun _ _=>none,fun _=>none,fun _=>0,fun _=>[]⟩
noncomputable def runF (H CT S lm a1 a2 a3 a4 a5 a6 a7 a8 a9 a10 a11 a12 mv:Value):List (Str × Value):=
 [("heap",H),("counter",CT),("stash",S),("limits",lm),("nodes",a1),("lvs",a2),("statements",a3),("funcs",a4),("operators",a5),("out",a6),("err",a7),("saves",a8),("frames",a9),("match",.none),("patterns",a10),("empties",a11),("steps",a12),
  ("methods",mv),("call_code",.none),("compile_text",.none)]
inductive RunAt (σ:Map) (R:Addr) (H CT S mv:Value):Prop | mk (lm a1 a2 a3 a4 a5 a6 a7 a8 a9 a10 a11 a12:Value) (h:σ R=some (.inst 674 (runF H CT S lm a1 a2 a3 a4 a5 a6 a7 a8 a9 a10 a11 a12 mv))):RunAt σ R H CT S mv
noncomputable def coOf (gl:Str→Option GI) (j:Str):Option Addr:=(gl j).bind GI.co
structure W (prog':Program) (w':World) (σ:Map) (a:Ad) (v:Sv) (cnt:Nat):Prop where
 run:RunAt σ a.R (.ref a.H) (.ref a.CT) (.ref a.S) (.ref a.MC)
 stash:Stash prog w σ a.S a.H a.D v.gen cnt v.gl
 ctr:σ a.CT=some (.inst 653 (counterF a.H a.PL))
 pl:σ a.PL=some (.raw (edP a.PL))
 heap:HeapAt σ a.H a.Z v.last
 zero:∃ zs,σ a.Z=some (.seq false zs)∧zs.length≤cnt
 cache:CacheAt prog w σ a.MC v.TB v.gen cnt v.gl
 par:ParAt σ v.gl v.par
 parU:∀ p q,q∈v.par p→q∈P6
 parL:∀ p,(v.par p).length≤cnt
 nm:∀ j g,v.gl j=some g→∃ p n,p∈P5∧n∈N10∧j=cc p n
 inj:∀ j j' g g',v.gl j=some g→v.gl j'=some g'→g.ga=g'.ga→j=j'
 subs:∀ p∈P6,∀ n∈N10,match v.sb p n with
  | none=>coOf v.gl (cc p n)=none
  | some k=>∃ x,coOf v.gl (cc p n)=some x∧CodeAt σ x k
 codes:∀ j g x,v.gl j=some g→g.co=some x→∃ num,CodeAt σ x num
 arrs:∀ j g x,v.gl j=some g→g.ar=some x→(∃ bl,ArrAt σ x bl (v.ld j))∧σ (v.ld j)=some (.seq false ((v.it j).map .ref))∧v.ld j≠a.Z
 itS:∀ j g x y,v.gl j=some g→g.ar=some x→y∈v.it j→∃ z,ScalarAt σ y z
 arD:∀ j j' g g' x x',v.gl j=some g→v.gl j'=some g'→g.ar=some x→g'.ar=some x'→(x=x'∨v.ld j=v.ld j')→j=j'
 scs:∀ j g x,v.gl j=some g→g.sc=some x→∃ y,ScalarAt σ x y∧(y = .none∨∃ z t,y = .str z t)
 scD:∀ j j' g g' x,v.gl j=some g→v.gl j'=some g'→g.sc=some x→g'.sc=some x→j=j'
 scI:∀ j g x y,v.gl j=some g→g.ar=some x→y∈v.it j→∀ j' g',v.gl j'=some g'→g'.sc≠some y
 told:∀ p y,v.tl p=some y→∃ g x t,v.gl (cc p "AUTOLOAD")=some g∧g.sc=some x∧ScalarAt σ x (.str y t)
 neT:v.TB≠a.D∧v.TB≠a.PL∧a.D≠a.PL
theorem RunAt.upd {σ':Map}{F:Addr→Prop}{R:Addr}{H CT S mv:Value}(h:RunAt σ R H CT S mv) (u:Upd F σ σ') (hF:¬ F R):RunAt σ' R H CT S mv:=by
 refine zk fun zz=>?_
 obtain ⟨lm,a1,a2,a3,a4,a5,a6,a7,a8,a9,a10,a11,a12,h⟩:=h
 refine zz ?_;clear zz
 exact ⟨lm,a1,a2,a3,a4,a5,a6,a7,a8,a9,a10,a11,a12,u.get h hF⟩
theorem CacheAt.ext {σ':Map}{MC TB:Addr}{gen:Int}{cap:Nat}{gl:Str→Option GI}(h:CacheAt prog w σ MC TB gen cap gl) (u:Ext σ σ'):CacheAt prog w σ' MC TB gen cap gl:=by
 refine zk fun zz=>?_
 obtain ⟨g,tg,xs,h1,h2,h3,h4,h5⟩:=h.go
 refine zz ?_;clear zz
 exact ⟨g,tg,xs,u.get h1,h2.keeps (u.get h2.1) fun b ys=>u.get,h3,h4,fun e x hx=>(h5 e x hx).keeps fun b ys=>u.get⟩
theorem ArrAt.upd {σ':Map}{F:Addr→Prop}{x l:Addr}{bl:Value}(h:ArrAt σ x bl l) (u:Upd F σ σ') (hF:¬ F x):ArrAt σ' x bl l:=by
 refine zk fun zz=>?_
 obtain ⟨n,t,k,t',wk,h⟩:=h
 refine zz ?_;clear zz
 exact ⟨n,t,k,t',wk,u.get h hF⟩
theorem ItemsAt.map {vs:List Value}{ps:List Str}{σ σ':Map}(h:ItemsAt σ vs ps) (u:∀ x y,Value.ref x∈vs→ScalarAt σ x y→ScalarAt σ' x y):ItemsAt σ' vs ps:=by
 induction vs generalizing ps with
 | nil=>cases ps <;> exact h
 | cons v vs ih=>
  cases ps with
  | nil=>exact h
  | cons p ps=>
   obtain ⟨⟨s,t,e,h⟩,r⟩:=h
   exact ⟨⟨s,t,e,u s _ (e ▸ .head _) h⟩,ih r fun x y hx=>u x y (.tail _ hx)⟩
theorem W.ext {σ':Map}{a:Ad}{v:Sv}{cnt:Nat}(h:W prog w σ a v cnt) (u:Ext σ σ'):W prog w σ' a v cnt where
 run:=h.run.upd u id
 stash:=h.stash.upd u id id fun _ _ _=>id
 ctr:=u.get h.ctr
 pl:=u.get h.pl
 heap:=h.heap.upd u id
 zero:=(h.zero).imp fun _ k=>⟨u.get k.1,k.2⟩
 cache:=h.cache.ext u
 par:=h.par.ext u
 parU:=h.parU
 parL:=h.parL
 nm:=h.nm
 inj:=h.inj
 subs:=fun p hp n hn=>by
  have:=h.subs p hp n hn
  cases q:v.sb p n with
  | none=>rw [q] at this;exact this
  | some k=>rw [q] at this;obtain ⟨x,h1,h2⟩:=this;exact ⟨x,h1,h2.upd u id⟩
 codes:=fun j g x h1 h2=>(h.codes j g x h1 h2).imp fun _ k=>k.upd u id
 arrs:=fun j g x h1 h2=>have k:=h.arrs j g x h1 h2;⟨k.1.imp fun _ z=>z.upd u id,u.get k.2.1,k.2.2⟩
 itS:=fun j g x y h1 h2 h3=>(h.itS j g x y h1 h2 h3).imp fun _ k=>k.upd u id
 arD:=h.arD
 scs:=fun j g x h1 h2=>(h.scs j g x h1 h2).imp fun _ k=>⟨k.1.upd u id,k.2⟩
 scD:=h.scD
 scI:=h.scI
 told:=fun p y hy=>(h.told p y hy).imp fun _ k=>k.imp fun _ k=>k.imp fun _ k=>⟨k.1,k.2.1,k.2.2.upd u id⟩
 neT:=h.neT
theorem W.le {a:Ad}{v:Sv}{cnt cnt':Nat}(h:W prog w σ a v cnt) (hc:cnt≤cnt'):W prog w σ a v cnt':=
 { h with
   stash:=⟨h.stash.hS,h.stash.hD.imp fun _ k=>⟨k.1,Nat.le_trans k.2.1 hc,k.2.2⟩,h.stash.hG⟩
   zero:=(h.zero).imp fun _ k=>⟨k.1,Nat.le_trans k.2 hc⟩
   cache:=by obtain ⟨g,tg,xs,h1,h2,h3,h4⟩:=h.cache.go;exact ⟨g,tg,xs,h1,h2,Nat.le_trans h3 hc,h4⟩
   parL:=fun p=>Nat.le_trans (h.parL p) hc }
theorem W.find {σ':Map}{a:Ad}{v:Sv}{cnt:Nat}{TB':Addr}(h:W prog w σ a v cnt) (u:Upd (fun b=>b=a.MC∨b=v.TB) σ σ') (hC:CacheAt prog w σ' a.MC TB' v.gen (cnt+1) v.gl) (hT:TB'=v.TB∨σ TB'=none) :
 W prog w σ' a { v with TB:=TB' } (cnt+1):=by
 refine zk fun zz=>?_
 obtain ⟨g0,tg0,xs0,eM,⟨eT,_⟩,_⟩:=h.cache.go
 obtain ⟨t1,eS⟩:=h.stash.hS
 obtain ⟨kvs,eD,hl,hv⟩:=h.stash.hD
 obtain ⟨lm,tl,eH⟩:=id h.heap
 obtain ⟨zs,eZ,hz⟩:=h.zero
 obtain ⟨_,_,_,_,_,_,_,_,_,_,_,_,_,eR⟩:=id h.run
 refine zz ?_;clear zz
 have nF:∀ {b:Addr} {ao:AO},σ b=some ao→(∀ fs,ao≠.inst 466 fs)→(∀ P,ao≠.raw P)→¬ (b=a.MC∨b=v.TB):=fun {b ao} hb h1 h2 z=>by
  rcases z with z | z
  ·rw [z,eM] at hb;exact h1 _ (Option.some.inj hb).symm
  ·rw [z,eT] at hb;exact h2 _ (Option.some.inj hb).symm
 have nD:¬ (a.D=a.MC∨a.D=v.TB):=fun z=>by
  rcases z with z | z
  ·rw [z,eM] at eD;cases eD
  ·exact h.neT.1 z.symm
 have nP:¬ (a.PL=a.MC∨a.PL=v.TB):=fun z=>by
  rcases z with z | z
  ·have:=h.pl;rw [z,eM] at this;cases this
  ·exact h.neT.2.1 z.symm
 have cd:∀ {x:Addr} {k:Int},CodeAt σ x k→CodeAt σ' x k:=fun {x k} hx=>by
  refine zk fun zz=>?_
  obtain ⟨_,_,_,_,_,_,_,_,e⟩:=id hx
  refine zz ?_;clear zz
  exact hx.upd u (nF e (fun _ z=>by cases z) (fun _ z=>by cases z))
 have sc:∀ {x:Addr} {y:Value},ScalarAt σ x y→ScalarAt σ' x y:=fun {x y} hx=>by
  refine zk fun zz=>?_
  obtain ⟨_,_,_,_,_,e⟩:=id hx
  refine zz ?_;clear zz
  exact hx.upd u (nF e (fun _ z=>by cases z) (fun _ z=>by cases z))
 have ar:∀ {x l:Addr} {y:Value},ArrAt σ x y l→ArrAt σ' x y l:=fun {x l y} hx=>by
  refine zk fun zz=>?_
  obtain ⟨_,_,_,_,_,e⟩:=id hx
  refine zz ?_;clear zz
  exact hx.upd u (nF e (fun _ z=>by cases z) (fun _ z=>by cases z))
 have sq:∀ {x:Addr} {ys:List Value},σ x=some (.seq false ys)→σ' x=some (.seq false ys):=fun {x ys} hx=>u.get hx (nF hx (fun _ z=>by cases z) (fun _ z=>by cases z))
 refine ⟨h.run.upd u (nF eR (fun _ z=>by cases z) (fun _ z=>by cases z)),?_,u.get h.ctr (nF h.ctr (fun _ z=>by cases z) (fun _ z=>by cases z)),u.get h.pl nP,h.heap.upd u (nF eH (fun _ z=>by cases z) (fun _ z=>by cases z)),
  ⟨zs,sq eZ,by omega⟩,hC,fun p=>?_,h.parU,fun p=>Nat.le_succ_of_le (h.parL p),h.nm,h.inj,fun p hp n hn=>?_,fun j g x h1 h2=>?_,fun j g x h1 h2=>?_,fun j g x y h1 h2 h3=>?_,h.arD,fun j g x h1 h2=>?_,h.scD,h.scI,fun p y hy=>?_,?_⟩
 ·exact ⟨⟨t1,u.get eS (nF eS (fun _ z=>by cases z) (fun _ z=>by cases z))⟩,⟨kvs,u.get eD nD,by omega,hv⟩,fun j g hg=>(h.stash.hG j g hg).upd u (by
   refine zk fun zz=>?_
   obtain ⟨_,_,_,_,e⟩:=h.stash.hG j g hg
   refine zz ?_;clear zz
   exact nF e (fun _ z=>by cases z) (fun _ z=>by cases z))⟩
 ·have:=h.par p
  show match (v.gl (zX p)).bind GI.ar with | none=>_ | some x=>_
  cases q:(v.gl (zX p)).bind GI.ar with
  | none=>rw [q] at this;exact this
  | some x=>
   rw [q] at this
   refine zk fun zz=>?_
   obtain ⟨bl,l,vs,h1,h2,h3⟩:=this
   refine zz ?_;clear zz
   exact ⟨bl,l,vs,ar h1,sq h2,h3.map fun x y _=>sc⟩
 ·have:=h.subs p hp n hn
  show match v.sb p n with | none=>_ | some k=>_
  cases q:v.sb p n with
  | none=>rw [q] at this;exact this
  | some k=>rw [q] at this;obtain ⟨x,h1,h2⟩:=this;exact ⟨x,h1,cd h2⟩
 ·obtain ⟨n,h3⟩:=h.codes j g x h1 h2;exact ⟨n,cd h3⟩
 ·obtain ⟨⟨bl,h3⟩,h4,h5⟩:=h.arrs j g x h1 h2;exact ⟨⟨bl,ar h3⟩,sq h4,h5⟩
 ·obtain ⟨z,h4⟩:=h.itS j g x y h1 h2 h3;exact ⟨z,sc h4⟩
 ·obtain ⟨y,h3,h4⟩:=h.scs j g x h1 h2;exact ⟨y,sc h3,h4⟩
 ·obtain ⟨g,x,t,h1,h2,h3⟩:=h.told p y hy;exact ⟨g,x,t,h1,h2,sc h3⟩
 ·rcases hT with e | e
  ·exact ⟨by rw [e];exact h.neT.1,by rw [e];exact h.neT.2.1,h.neT.2.2⟩
  ·have n1:TB'≠a.D:=(zm eD e).symm
   have n2:TB'≠a.PL:=(zm h.pl e).symm
   exact ⟨n1,n2,h.neT.2.2⟩
end
section
variable {c:Cx}{X:Str→Map→Prop}{m:Loc}{σ τ:Map}
theorem srch_congr {gl gl':Str→Option GI}(h:∀ j,coOf gl' j=coOf gl j) (nm:Str):∀ ps:List Str,srch gl' nm ps=srch gl nm ps
 | []=>rfl
 | p :: ps=>by
  have e:=h (cc p nm)
  unfold coOf at e
  rw [srch_c,srch_c]
  rw [e,srch_congr h nm ps]
theorem CacheAt.congr {MC TB:Addr}{gen:Int}{cap:Nat}{gl gl':Str→Option GI}(h:CacheAt prog w σ MC TB gen cap gl) (e:∀ j,coOf gl' j=coOf gl j):CacheAt prog w σ MC TB gen cap gl':=by
 refine zk fun zz=>?_
 obtain ⟨g,tg,xs,h1,h2,h3,h4,h5⟩:=h.go
 refine zz ?_;clear zz
 exact ⟨g,tg,xs,h1,h2,h3,h4,fun z x hx=>by rw [srch_congr e];exact h5 z x hx⟩
theorem CacheAt.upd {σ':Map}{F:Addr→Prop}{MC TB:Addr}{gen:Int}{cap:Nat}{gl:Str→Option GI}(h:CacheAt prog w σ MC TB gen cap gl) (u:Upd F σ σ') (h1:¬ F MC) (h2:¬ F TB) (h3:∀ b ys,σ b=some (.seq true ys)→¬ F b):CacheAt prog w σ' MC TB gen cap gl:=by
 refine zk fun zz=>?_
 obtain ⟨g,tg,xs,g1,g2,g3,g4,g5⟩:=h.go
 refine zz ?_;clear zz
 exact ⟨g,tg,xs,u.get g1 h1,g2.keeps (u.get g2.1 h2) fun b ys hb=>u.get hb (h3 b ys hb),g3,g4,fun e x hx=>(g5 e x hx).keeps fun b ys hb=>u.get hb (h3 b ys hb)⟩
theorem ParAt.turn {gl gl':Str→Option GI}{par:Str→List Str}{σ':Map}(h:ParAt σ gl par) (e:∀ j,(gl' j).bind GI.ar=(gl j).bind GI.ar) (ar:∀ x l bl,ArrAt σ x bl l→ArrAt σ' x bl l) (sq:∀ x ys,σ x=some (.seq false ys)→σ' x=some (.seq false ys))
 (it:∀ p x bl l vs,(gl (zX p)).bind GI.ar=some x→ArrAt σ x bl l→σ l=some (.seq false vs)→∀ y z,Value.ref y∈vs→ScalarAt σ y z→ScalarAt σ' y z):ParAt σ' gl' par:=fun p=>by
 have:=h p
 rw [e]
 cases q:(gl (zX p)).bind GI.ar with
 | none=>rw [q] at this;exact this
 | some x=>
  rw [q] at this
  refine zk fun zz=>?_
  obtain ⟨bl,l,vs,h1,h2,h3⟩:=this
  refine zz ?_;clear zz
  exact ⟨bl,l,vs,ar _ _ _ h1,sq _ _ h2,h3.map (it p x bl l vs q h1 h2)⟩
theorem app_inj_right {x y z:Str}(h:x ++ z=y ++ z):x=y:=by
 have h':(x.cps ++ z.cps)=(y.cps ++ z.cps):=congrArg Str.cps h
 have:=Array.append_left_inj z.cps |>.mp h'
 cases x;cases y;simp_all
theorem cc_inj_left {p q n:Str}(h:cc p n=cc q n):p=q:=app_inj_right (app_inj_right h)
theorem ArrAt.inj {x l l':Addr}{bl bl':Value}(h:ArrAt σ x bl l) (h':ArrAt σ x bl' l'):l=l':=by
 refine zk fun zz=>?_
 obtain ⟨n,t,k,t',wk,h⟩:=h
 obtain ⟨n2,t2,k2,t2',wk2,h'⟩:=h'
 refine zz ?_;clear zz
 rw [h] at h'
 have:=congrArg (fun o:Option AO=>match o with | some (.inst _ fs)=>getF "items" fs | _=>none) h'
 have e:some (Value.ref l)=some (Value.ref l'):=this
 exact Value.ref.inj (Option.some.inj e)
theorem W.items {a:Ad}{v:Sv}{cnt:Nat}(h:W prog w σ a v cnt) {j:Str}{x l y:Addr}{bl:Value}{vs:List Value}(hx:(v.gl j).bind GI.ar=some x) (ha:ArrAt σ x bl l) (hl:σ l=some (.seq false vs)) (hy:Value.ref y∈vs) :
 ∃ g,v.gl j=some g∧g.ar=some x∧y∈v.it j:=by
 cases q:v.gl j with
 | none=>rw [q] at hx;cases hx
 | some g=>
  rw [q] at hx
  have hx':g.ar=some x:=hx
  refine zk fun zz=>?_
  obtain ⟨⟨bl',h1⟩,h2,h3⟩:=h.arrs j g x q hx'
  have e:=ha.inj h1
  rw [e,h2] at hl
  have e2:=(AO.seq.inj (Option.some.inj hl)).2
  rw [← e2] at hy
  obtain ⟨y',hy',e3⟩:=List.mem_map.mp hy
  refine zz ?_;clear zz
  exact ⟨g,rfl,hx',by rw [← Value.ref.inj e3];exact hy'⟩
theorem W.store {σ':Map}{a:Ad}{v:Sv}{cnt:Nat}{p y:Str}{t:Tok}{g:GI}{x:Addr}(h:W prog w σ a v cnt) (hg:v.gl (cc p "AUTOLOAD")=some g) (hx:g.sc=some x) (u:Upd (fun b=>b=x) σ σ') (hy:ScalarAt σ' x (.str y t)) :
 W prog w σ' a { v with tl:=fun q=>if q=p then some y else v.tl q } cnt:=by
 refine zk fun zz=>?_
 obtain ⟨y0,⟨_,_,_,_,_,ex⟩,_⟩:=h.scs _ g x hg hx
 refine zz ?_;clear zz
 have nF:∀ {b:Addr} {ao:AO},σ b=some ao→(∀ fs,ao≠.inst 87 fs)→¬ b=x:=fun {b ao} hb h1 z=>by
  rw [z,ex] at hb;exact h1 _ (Option.some.inj hb).symm
 refine zk fun zz=>?_
 obtain ⟨g0,tg0,xs0,eM,⟨eT,_⟩,_⟩:=id h.cache.go
 obtain ⟨t1,eS⟩:=h.stash.hS
 obtain ⟨kvs,eD,hl,hv⟩:=h.stash.hD
 obtain ⟨lm,tl,eH⟩:=id h.heap
 obtain ⟨zs,eZ,hz⟩:=h.zero
 obtain ⟨_,_,_,_,_,_,_,_,_,_,_,_,_,eR⟩:=id h.run
 refine zz ?_;clear zz
 have cd:∀ {x:Addr} {k:Int},CodeAt σ x k→CodeAt σ' x k:=fun {x k} hx=>by
  refine zk fun zz=>?_
  obtain ⟨_,_,_,_,_,_,_,_,e⟩:=id hx
  refine zz ?_;clear zz
  exact hx.upd u (nF e (fun _ z=>by cases z))
 have ar:∀ {x l:Addr} {y:Value},ArrAt σ x y l→ArrAt σ' x y l:=fun {x l y} hx=>by
  refine zk fun zz=>?_
  obtain ⟨_,_,_,_,_,e⟩:=id hx
  refine zz ?_;clear zz
  exact hx.upd u (nF e (fun _ z=>by cases z))
 have sq:∀ {x:Addr} {ys:List Value},σ x=some (.seq false ys)→σ' x=some (.seq false ys):=fun {x ys} hx=>u.get hx (nF hx (fun _ z=>by cases z))
 refine ⟨h.run.upd u (nF eR (fun _ z=>by cases z)),?_,u.get h.ctr (nF h.ctr (fun _ z=>by cases z)),u.get h.pl (nF h.pl (fun _ z=>by cases z)),h.heap.upd u (nF eH (fun _ z=>by cases z)),
  ⟨zs,sq eZ,hz⟩,h.cache.upd u (nF eM (fun _ z=>by cases z)) (nF eT (fun _ z=>by cases z)) (fun b ys hb=>nF hb (fun _ z=>by cases z)),?_,h.parU,h.parL,h.nm,h.inj,fun p hp n hn=>?_,fun j g x h1 h2=>?_,fun j g x h1 h2=>?_,fun j g1 x1 y1 h1 h2 h3=>?_,h.arD,fun j g' x' h1 h2=>?_,h.scD,h.scI,fun q z hz=>?_,h.neT⟩
 ·exact ⟨⟨t1,u.get eS (nF eS (fun _ z=>by cases z))⟩,⟨kvs,u.get eD (nF eD (fun _ z=>by cases z)),hl,hv⟩,fun j g hg=>(h.stash.hG j g hg).upd u (by
   refine zk fun zz=>?_
   obtain ⟨_,_,_,_,e⟩:=h.stash.hG j g hg
   refine zz ?_;clear zz
   exact nF e (fun _ z=>by cases z))⟩
 ·refine h.par.turn (fun _=>rfl) (fun _ _ _=>ar) (fun _ _=>sq) fun q x' bl l vs h1 h2 h3 y' z hy' hs=>hs.upd u fun e=>?_
  refine zk fun zz=>?_
  obtain ⟨g',e1,e2,e3⟩:=h.items h1 h2 h3 hy'
  refine zz ?_;clear zz
  exact h.scI _ g' x' y' e1 e2 e3 _ g hg (by rw [e];exact hx)
 ·have:=h.subs p hp n hn
  show match v.sb p n with | none=>_ | some k=>_
  cases q:v.sb p n with
  | none=>rw [q] at this;exact this
  | some k=>rw [q] at this;obtain ⟨x,h1,h2⟩:=this;exact ⟨x,h1,cd h2⟩
 ·obtain ⟨n,h3⟩:=h.codes j g x h1 h2;exact ⟨n,cd h3⟩
 ·obtain ⟨⟨bl,h3⟩,h4,h5⟩:=h.arrs j g x h1 h2;exact ⟨⟨bl,ar h3⟩,sq h4,h5⟩
 ·obtain ⟨z,h4⟩:=h.itS j g1 x1 y1 h1 h2 h3
  exact ⟨z,h4.upd u fun e=>h.scI j g1 x1 y1 h1 h2 h3 _ g hg (by rw [e];exact hx)⟩
 ·refine zk fun zz=>?_
  obtain ⟨y',h3,h4⟩:=h.scs j g' x' h1 h2
  refine zz ?_;clear zz
  by_cases e:x'=x
  ·rw [e];exact ⟨_,hy,.inr ⟨_,_,rfl⟩⟩
  ·exact ⟨y',h3.upd u e,h4⟩
 ·have hz':(if q=p then some y else v.tl q)=some z:=hz
  by_cases e:q=p
  ·rw [if_pos e] at hz'
   cases hz'
   rw [e]
   exact ⟨g,x,t,hg,hx,hy⟩
  ·rw [if_neg e] at hz'
   refine zk fun zz=>?_
   obtain ⟨g',x',t',h1,h2,h3⟩:=h.told q z hz'
   refine zz ?_;clear zz
   exact ⟨g',x',t',h1,h2,h3.upd u fun ee=>e (cc_inj_left (h.scD _ _ g' g x h1 hg (by rw [← ee];exact h2) hx))⟩
end
section
variable {c:Cx}{X:Str→Map→Prop}{m:Loc}{σ τ:Map}
theorem jh {gl:Str→Option GI}{nm:Str}{g:GI}{x:Option Addr}(hg:gl nm=some g) {j:Str}{g':GI}(h:zM gl nm { g with sc:=x } j=some g') :
 ∃ g0,gl j=some g0∧g0.ga=g'.ga∧g0.ar=g'.ar∧g0.co=g'.co∧((j=nm∧g0=g∧g'.sc=x)∨(j≠nm∧g'.sc=g0.sc)):=by
 unfold zM at h
 by_cases e:j=nm
 ·rw [if_pos e] at h
  first | exact nb h | exact nt h | cases h
  exact ⟨g,by rw [e];exact hg,rfl,rfl,rfl,.inl ⟨e,rfl,rfl⟩⟩
 ·rw [if_neg e] at h
  exact ⟨g',h,rfl,rfl,rfl,.inr ⟨e,rfl⟩⟩
theorem glPut_back {gl:Str→Option GI}{nm:Str}{g:GI}{x:Option Addr}(hg:gl nm=some g) {j:Str}{g0:GI}(h:gl j=some g0) :
 ∃ g',zM gl nm { g with sc:=x } j=some g'∧g0.ga=g'.ga∧g0.ar=g'.ar∧g0.co=g'.co∧((j=nm∧g0=g∧g'.sc=x)∨(j≠nm∧g'.sc=g0.sc)):=by
 unfold zM
 by_cases e:j=nm
 ·rw [e,hg] at h
  first | exact nb h | exact nt h | cases h
  exact ⟨_,if_pos e,rfl,rfl,rfl,.inl ⟨e,rfl,rfl⟩⟩
 ·exact ⟨g0,by rw [if_neg e];exact h,rfl,rfl,rfl,.inr ⟨e,rfl⟩⟩
theorem glPut_co {gl:Str→Option GI}{nm:Str}{g:GI}{x:Option Addr}(hg:gl nm=some g) (j:Str):coOf (zM gl nm { g with sc:=x }) j=coOf gl j:=by
 unfold coOf zM
 by_cases e:j=nm
 ·rw [if_pos e,e,hg];rfl
 ·rw [if_neg e]
theorem glPut_ar {gl:Str→Option GI}{nm:Str}{g:GI}{x:Option Addr}(hg:gl nm=some g) (j:Str):(zM gl nm { g with sc:=x } j).bind GI.ar=(gl j).bind GI.ar:=by
 unfold zM
 by_cases e:j=nm
 ·rw [if_pos e,e,hg];rfl
 ·rw [if_neg e]
end
namespace W.scalarOf
noncomputable def S₀ (σ:Map) (σ':Map) (a:Ad) (v:Sv) (cnt:Nat) (nm:Str) (g:GI) (x:Addr) (last':Int):Prop:=∀ (h:W prog w σ a v cnt) (hg:v.gl nm=some g) (u:Upd (jB a.H a.D v.gl) σ σ') (hH:HeapAt σ' a.H a.Z last') (hS:Stash prog w σ' a.S a.H a.D v.gen (cnt+1) (zM v.gl nm { g with sc:=some x })) (hx:g.sc=some x∨(g.sc=none∧σ x=none∧ScalarAt σ' x .none)),W prog w σ' a { v with last:=last',gl:=zM v.gl nm { g with sc:=some x } } (cnt+1)
noncomputable def e₀:Map × Map × Ad × Sv × Nat × Str × GI × Addr × Int:=@Classical.epsilon _ ⟨(default,default,⟨0,0,0,0,0,0,0,0⟩,dSv,default,default,⟨0,none,none,none⟩,default,default)⟩ fun x=>¬ S₀ x.1 x.2.1 x.2.2.1 x.2.2.2.1 x.2.2.2.2.1 x.2.2.2.2.2.1 x.2.2.2.2.2.2.1 x.2.2.2.2.2.2.2.1 x.2.2.2.2.2.2.2.2
@[irreducible] noncomputable def σ:Map:=e₀.1
@[irreducible] noncomputable def σ':Map:=e₀.2.1
@[irreducible] noncomputable def a:Ad:=e₀.2.2.1
@[irreducible] noncomputable def v:Sv:=e₀.2.2.2.1
@[irreducible] noncomputable def cnt:Nat:=e₀.2.2.2.2.1
@[irreducible] noncomputable def nm:Str:=e₀.2.2.2.2.2.1
@[irreducible] noncomputable def g:GI:=e₀.2.2.2.2.2.2.1
@[irreducible] noncomputable def x:Addr:=e₀.2.2.2.2.2.2.2.1
@[irreducible] noncomputable def last':Int:=e₀.2.2.2.2.2.2.2.2
theorem here:S₀ σ σ' a v cnt nm g x last':=by
 intro h hg u hH hS hx
 show W prog w σ' a { v with last:=last',gl:=zM v.gl nm { g with sc:=some x } } (cnt+1)
 refine zk fun zz=>?_
 obtain ⟨kvs,eD,hl,hv⟩:=h.stash.hD
 obtain ⟨lm,tl,eH⟩:=id h.heap
 obtain ⟨g0,tg0,xs0,eM,⟨eT,_⟩,_⟩:=id h.cache.go
 obtain ⟨zs,eZ,hz⟩:=h.zero
 obtain ⟨_,_,_,_,_,_,_,_,_,_,_,_,_,eR⟩:=id h.run
 refine zz ?_;clear zz
 have nF:∀ {b:Addr} {ao:AO},σ b=some ao→(∀ fs,ao≠.inst 246 fs)→(∀ fs,ao≠.inst 163 fs)→b≠a.D→¬ jB a.H a.D v.gl b:=fun {b ao} hb h1 h2 h3 z=>by
  rcases z with z | z | ⟨j,g',z1,z2⟩
  ·rw [z,eH] at hb;exact h1 _ (Option.some.inj hb).symm
  ·exact h3 z
  ·refine zk fun zz=>?_
   obtain ⟨_,_,_,_,e⟩:=h.stash.hG j g' z1
   refine zz ?_;clear zz
   rw [z2,e] at hb;exact h2 _ (Option.some.inj hb).symm
 have nD:∀ {b:Addr} {ao:AO},σ b=some ao→(∀ P,ao≠.raw P)→b≠a.D:=fun {b ao} hb h1 z=>by rw [z,eD] at hb;exact h1 _ (Option.some.inj hb).symm
 have cd:∀ {x:Addr} {k:Int},CodeAt σ x k→CodeAt σ' x k:=fun {x k} hx=>by
  refine zk fun zz=>?_
  obtain ⟨_,_,_,_,_,_,_,_,e⟩:=id hx
  refine zz ?_;clear zz
  exact hx.upd u (nF e (fun _ z=>by cases z) (fun _ z=>by cases z) (nD e fun _ z=>by cases z))
 have sc:∀ {x:Addr} {y:Value},ScalarAt σ x y→ScalarAt σ' x y:=fun {x y} hx=>by
  refine zk fun zz=>?_
  obtain ⟨_,_,_,_,_,e⟩:=id hx
  refine zz ?_;clear zz
  exact hx.upd u (nF e (fun _ z=>by cases z) (fun _ z=>by cases z) (nD e fun _ z=>by cases z))
 have ar:∀ {x l:Addr} {y:Value},ArrAt σ x y l→ArrAt σ' x y l:=fun {x l y} hx=>by
  refine zk fun zz=>?_
  obtain ⟨_,_,_,_,_,e⟩:=id hx
  refine zz ?_;clear zz
  exact hx.upd u (nF e (fun _ z=>by cases z) (fun _ z=>by cases z) (nD e fun _ z=>by cases z))
 have sq:∀ {x:Addr} {ys:List Value},σ x=some (.seq false ys)→σ' x=some (.seq false ys):=fun {x ys} hx=>u.get hx (nF hx (fun _ z=>by cases z) (fun _ z=>by cases z) (nD hx fun _ z=>by cases z))
 have nI:∀ {b:Addr} {C:Addr} {fs:List (Str × Value)},σ b=some (.inst C fs)→C≠246→C≠163→¬ jB a.H a.D v.gl b:=fun {b C fs} hb h1 h2=>nF hb (fun _ z=>h1 (AO.inst.inj z).1) (fun _ z=>h2 (AO.inst.inj z).1) (nD hb fun _ z=>by cases z)
 refine ⟨h.run.upd u (nI eR (by decide) (by decide)),hS,u.get h.ctr (nI h.ctr (by decide) (by decide)),u.get h.pl (nF h.pl (fun _ z=>by cases z) (fun _ z=>by cases z) h.neT.2.2.symm),hH,
  ⟨zs,sq eZ,by omega⟩,?_,?_,h.parU,fun p=>Nat.le_succ_of_le (h.parL p),fun j g' hj=>?_,fun j j' g1 g2 h1 h2 h3=>?_,fun p hp n hn=>?_,fun j g' x' h1 h2=>?_,fun j g' x' h1 h2=>?_,fun j g' x' y' h1 h2 h3=>?_,fun j j' g1 g2 x1 x2 h1 h2 h3 h4 h5=>?_,
  fun j g' x' h1 h2=>?_,fun j j' g1 g2 x' h1 h2 h3 h4=>?_,fun j g1 x1 y1 h1 h2 h3 j' g2 h4 h5=>?_,fun q z hz=>?_,h.neT⟩
 ·have hc:=h.cache.upd u (nI eM (by decide) (by decide)) (nF eT (fun _ z=>by cases z) (fun _ z=>by cases z) h.neT.1) (fun b ys hb=>nF hb (fun _ z=>by cases z) (fun _ z=>by cases z) (nD hb fun _ z=>by cases z))
  refine zk fun zz=>?_
  obtain ⟨g1,tg1,xs1,c1,c2,c3,c4,c5⟩:=(hc.congr (glPut_co (x:=some x) hg)).go
  refine zz ?_;clear zz
  exact ⟨g1,tg1,xs1,c1,c2,Nat.le_succ_of_le c3,c4,c5⟩
 ·exact h.par.turn (glPut_ar hg) (fun _ _ _=>ar) (fun _ _=>sq) fun q x' bl l vs h1 h2 h3 y' z hy' hs=>sc hs
 ·obtain ⟨g0,q0,_⟩:=jh hg hj;exact h.nm j g0 q0
 ·refine zk fun zz=>?_
  obtain ⟨a1,q1,q2,_⟩:=jh hg h1
  obtain ⟨a2,r1,r2,_⟩:=jh hg h2
  refine zz ?_;clear zz
  exact h.inj j j' a1 a2 q1 r1 (by rw [q2,r2,h3])
 ·have:=h.subs p hp n hn
  show match v.sb p n with | none=>coOf (zM v.gl nm { g with sc:=some x }) _=none | some k=>∃ x',coOf (zM v.gl nm { g with sc:=some x }) _=some x'∧_
  rw [glPut_co hg]
  cases q:v.sb p n with
  | none=>rw [q] at this;exact this
  | some k=>rw [q] at this;obtain ⟨x,h1,h2⟩:=this;exact ⟨x,h1,cd h2⟩
 ·refine zk fun zz=>?_
  obtain ⟨g0,q1,q2,q3,q4,_⟩:=jh hg h1
  refine zz ?_;clear zz
  obtain ⟨n,h3⟩:=h.codes j g0 x' q1 (by rw [q4];exact h2);exact ⟨n,cd h3⟩
 ·refine zk fun zz=>?_
  obtain ⟨g0,q1,q2,q3,q4,_⟩:=jh hg h1
  refine zz ?_;clear zz
  obtain ⟨⟨bl,h3⟩,h4,h5⟩:=h.arrs j g0 x' q1 (by rw [q3];exact h2);exact ⟨⟨bl,ar h3⟩,sq h4,h5⟩
 ·refine zk fun zz=>?_
  obtain ⟨g0,q1,q2,q3,q4,_⟩:=jh hg h1
  refine zz ?_;clear zz
  obtain ⟨z,h4⟩:=h.itS j g0 x' y' q1 (by rw [q3];exact h2) h3;exact ⟨z,sc h4⟩
 ·refine zk fun zz=>?_
  obtain ⟨a1,q1,q2,q3,_⟩:=jh hg h1
  obtain ⟨a2,r1,r2,r3,_⟩:=jh hg h2
  refine zz ?_;clear zz
  exact h.arD j j' a1 a2 x1 x2 q1 r1 (by rw [q3];exact h3) (by rw [r3];exact h4) h5
 ·refine zk fun zz=>?_
  obtain ⟨g0,q1,q2,q3,q4,q5⟩:=jh hg h1
  refine zz ?_;clear zz
  rcases q5 with ⟨e1,e2,e3⟩ | ⟨e1,e2⟩
  ·rw [h2] at e3
   cases e3
   rcases hx with hx | ⟨_,_,hx⟩
   ·obtain ⟨y,h3,h4⟩:=h.scs nm g x hg hx;exact ⟨y,sc h3,h4⟩
   ·exact ⟨_,hx,.inl rfl⟩
  ·obtain ⟨y,h3,h4⟩:=h.scs j g0 x' q1 (by rw [← e2];exact h2);exact ⟨y,sc h3,h4⟩
 ·have key:∀ j g' x',zM v.gl nm { g with sc:=some x } j=some g'→g'.sc=some x'→(∃ g0,v.gl j=some g0∧g0.sc=some x')∨(j=nm∧x'=x∧σ x=none):=fun j g' x' k1 k2=>by
   refine zk fun zz=>?_
   obtain ⟨g0,q1,q2,q3,q4,q5⟩:=jh hg k1
   refine zz ?_;clear zz
   rcases q5 with ⟨e1,e2,e3⟩ | ⟨e1,e2⟩
   ·rw [k2] at e3
    cases e3
    rcases hx with hx | ⟨_,hx,_⟩
    ·exact .inl ⟨g0,q1,by rw [e2];exact hx⟩
    ·exact .inr ⟨e1,rfl,hx⟩
   ·exact .inl ⟨g0,q1,by rw [← e2];exact k2⟩
  rcases key j g1 x' h1 h3 with ⟨b1,p1,p2⟩ | ⟨p1,p2,p3⟩ <;> rcases key j' g2 x' h2 h4 with ⟨b2,r1,r2⟩ | ⟨r1,r2,r3⟩
  ·exact h.scD j j' b1 b2 x' p1 r1 p2 r2
  ·refine zk fun zz=>?_
   obtain ⟨_,⟨_,_,_,_,_,e⟩,_⟩:=h.scs j b1 x' p1 p2
   refine zz ?_;clear zz
   rw [r2,r3] at e;cases e
  ·refine zk fun zz=>?_
   obtain ⟨_,⟨_,_,_,_,_,e⟩,_⟩:=h.scs j' b2 x' r1 r2
   refine zz ?_;clear zz
   rw [p2,p3] at e;cases e
  ·rw [p1,r1]
 ·refine zk fun zz=>?_
  obtain ⟨a1,q1,q2,q3,_⟩:=jh hg h1
  obtain ⟨a2,r1,r2,r3,r4,r5⟩:=jh hg h4
  refine zz ?_;clear zz
  have hi:=h.scI j a1 x1 y1 q1 (by rw [q3];exact h2) h3 j' a2 r1
  rcases r5 with ⟨e1,e2,e3⟩ | ⟨e1,e2⟩
  ·rw [h5] at e3
   cases e3
   rcases hx with hx | ⟨_,hx,_⟩
   ·exact hi (by rw [e2];exact hx)
   ·obtain ⟨_,_,_,_,_,_,e⟩:=h.itS j a1 x1 _ q1 (by rw [q3];exact h2) h3
    rw [hx] at e;cases e
  ·exact hi (by rw [← e2];exact h5)
 ·refine zk fun zz=>?_
  obtain ⟨g1,x1,t,h1,h2,h3⟩:=h.told q z hz
  obtain ⟨g',k1,k2,k3,k4,k5⟩:=glPut_back (x:=some x) hg h1
  refine zz ?_;clear zz
  rcases k5 with ⟨e1,e2,e3⟩ | ⟨e1,e2⟩
  ·refine ⟨g',x,t,k1,e3,?_⟩
   rcases hx with hx | ⟨hx,_,_⟩
   ·have:x1=x:=by rw [e2,hx] at h2;exact (Option.some.inj h2).symm
    rw [← this];exact sc h3
   ·rw [e2,hx] at h2;cases h2
  ·exact ⟨g',x1,t,k1,by rw [e2];exact h2,sc h3⟩
end W.scalarOf
section
variable {c:Cx}{X:Str→Map→Prop}{m:Loc}{σ τ:Map}
theorem W.scalarOf {σ':Map}{a:Ad}{v:Sv}{cnt:Nat}{nm:Str}{g:GI}{x:Addr}{last':Int}(h:W prog w σ a v cnt) (hg:v.gl nm=some g) (u:Upd (jB a.H a.D v.gl) σ σ') (hH:HeapAt σ' a.H a.Z last') (hS:Stash prog w σ' a.S a.H a.D v.gen (cnt+1) (zM v.gl nm { g with sc:=some x })) (hx:g.sc=some x∨(g.sc=none∧σ x=none∧ScalarAt σ' x .none)):W prog w σ' a { v with last:=last',gl:=zM v.gl nm { g with sc:=some x } } (cnt+1):=by with_unfolding_all exact eps (fun x:Map × Map × Ad × Sv × Nat × Str × GI × Addr × Int=>W.scalarOf.S₀ x.1 x.2.1 x.2.2.1 x.2.2.2.1 x.2.2.2.2.1 x.2.2.2.2.2.1 x.2.2.2.2.2.2.1 x.2.2.2.2.2.2.2.1 x.2.2.2.2.2.2.2.2) W.scalarOf.here (σ,σ',a,v,cnt,nm,g,x,last') h hg u hH hS hx
end
section
variable {c:Cx}{X:Str→Map→Prop}{m:Loc}{σ τ:Map}
noncomputable def Foot (a:Ad) (v:Sv) (b:Addr):Prop:=
 b=a.R∨b=a.S∨b=a.H∨b=a.D∨b=a.CT∨b=a.Z∨b=a.PL∨b=a.MC∨b=v.TB ∨
 ∃ j g,v.gl j=some g∧(b=g.ga∨g.sc=some b∨g.ar=some b∨g.co=some b∨(g.ar.isSome=true∧(b=v.ld j∨b∈v.it j)))
structure Step (a:Ad) (v:Sv) (σ:Map) (v':Sv) (σ':Map):Prop where
 u:Upd (Foot a v) σ σ'
 f:∀ b,Foot a v' b→Foot a v b∨σ b=none
theorem Step.refl {a:Ad}{v:Sv}{σ:Map}:Step a v σ v σ:=⟨Upd.refl,fun _ h=>.inl h⟩
theorem Step.ext {a:Ad}{v:Sv}{σ σ':Map}(u:Ext σ σ'):Step a v σ v σ':=⟨u.mono fun _ h=>h.elim,fun _ h=>.inl h⟩
theorem Step.trans {a:Ad}{v v' v'':Sv}{σ σ' σ'':Map}(s:Step a v σ v' σ') (t:Step a v' σ' v'' σ''):Step a v σ v'' σ'':=by
 have back:∀ b,σ' b=none→Foot a v b∨σ b=none:=fun b h=>by
  by_cases hf:Foot a v b
  ·exact .inl hf
  ·cases q:σ b with
   | none=>exact .inr rfl
   | some ao=>have:=s.u b ao q hf;rw [h] at this;cases this
 refine ⟨fun b ao hb hF=>t.u b ao (s.u b ao hb hF) fun z=>?_,fun b h=>?_⟩
 ·rcases s.f b z with h | h
  ·exact hF h
  ·rw [h] at hb;cases hb
 ·rcases t.f b h with h | h
  ·exact s.f b h
  ·exact back b h
theorem Step.get {a:Ad}{v v':Sv}{σ σ':Map}(s:Step a v σ v' σ') {b:Addr}{ao:AO}(h:σ b=some ao) (hF:¬ Foot a v b):σ' b=some ao:=s.u b ao h hF
theorem Step.out {a:Ad}{v v':Sv}{σ σ':Map}(s:Step a v σ v' σ') {b:Addr}{ao:AO}(h:σ b=some ao) (hF:¬ Foot a v b):¬ Foot a v' b:=fun z=>by
 rcases s.f b z with h' | h'
 ·exact hF h'
 ·rw [h'] at h;cases h
theorem Foot.TB {a:Ad}{v:Sv}:Foot a v v.TB:=.inr (.inr (.inr (.inr (.inr (.inr (.inr (.inr (.inl rfl))))))))
theorem Foot.MC {a:Ad}{v:Sv}:Foot a v a.MC:=.inr (.inr (.inr (.inr (.inr (.inr (.inr (.inl rfl)))))))
theorem Foot.gl {a:Ad}{v:Sv}{b:Addr}{j:Str}{g:GI}(h:v.gl j=some g) (hb:b=g.ga∨g.sc=some b∨g.ar=some b∨g.co=some b∨(g.ar.isSome=true∧(b=v.ld j∨b∈v.it j))):Foot a v b:=
 .inr (.inr (.inr (.inr (.inr (.inr (.inr (.inr (.inr ⟨j,g,h,hb⟩))))))))
theorem Step.find {a:Ad}{v:Sv}{σ σ':Map}{TB':Addr}(u:Upd (fun b=>b=a.MC∨b=v.TB) σ σ') (hT:TB'=v.TB∨σ TB'=none):Step a v σ { v with TB:=TB' } σ':=by
 refine ⟨u.mono fun b h=>?_,fun b h=>?_⟩
 ·rcases h with h | h
  ·rw [h];exact Foot.MC
  ·rw [h];exact Foot.TB
 ·by_cases e:b=TB'
  ·rcases hT with h' | h'
   ·rw [e,h'];exact .inl Foot.TB
   ·rw [e];exact .inr h'
  ·left
   rcases h with h | h | h | h | h | h | h | h | h | h
   ·exact .inl h
   ·exact .inr (.inl h)
   ·exact .inr (.inr (.inl h))
   ·exact .inr (.inr (.inr (.inl h)))
   ·exact .inr (.inr (.inr (.inr (.inl h))))
   ·exact .inr (.inr (.inr (.inr (.inr (.inl h)))))
   ·exact .inr (.inr (.inr (.inr (.inr (.inr (.inl h))))))
   ·exact .inr (.inr (.inr (.inr (.inr (.inr (.inr (.inl h)))))))
   ·exact absurd h e
   ·exact .inr (.inr (.inr (.inr (.inr (.inr (.inr (.inr (.inr h))))))))
theorem Step.store {a:Ad}{v:Sv}{σ σ':Map}{tl:Str→Option Str}{j:Str}{g:GI}{x:Addr}(hg:v.gl j=some g) (hx:g.sc=some x) (u:Upd (fun b=>b=x) σ σ'):Step a v σ { v with tl:=tl } σ':=
 ⟨u.mono fun b h=>by rw [h];exact Foot.gl hg (.inr (.inl hx)),fun b h=>.inl h⟩
theorem Step.scalarOf {a:Ad}{v:Sv}{σ σ':Map}{nm:Str}{g:GI}{x:Addr}{last':Int}(hg:v.gl nm=some g) (u:Upd (jB a.H a.D v.gl) σ σ') (hx:g.sc=some x∨σ x=none) :
 Step a v σ { v with last:=last',gl:=zM v.gl nm { g with sc:=some x } } σ':=by
 refine ⟨u.mono fun b h=>?_,fun b h=>?_⟩
 ·rcases h with h | h | ⟨j,g',h1,h2⟩
  ·exact .inr (.inr (.inl h))
  ·exact .inr (.inr (.inr (.inl h)))
  ·exact Foot.gl h1 (.inl h2)
 ·rcases h with h | h | h | h | h | h | h | h | h | ⟨j,g',h1,h2⟩
  ·exact .inl (.inl h)
  ·exact .inl (.inr (.inl h))
  ·exact .inl (.inr (.inr (.inl h)))
  ·exact .inl (.inr (.inr (.inr (.inl h))))
  ·exact .inl (.inr (.inr (.inr (.inr (.inl h)))))
  ·exact .inl (.inr (.inr (.inr (.inr (.inr (.inl h))))))
  ·exact .inl (.inr (.inr (.inr (.inr (.inr (.inr (.inl h)))))))
  ·exact .inl (.inr (.inr (.inr (.inr (.inr (.inr (.inr (.inl h))))))))
  ·exact .inl (.inr (.inr (.inr (.inr (.inr (.inr (.inr (.inr (.inl h)))))))))
  ·refine zk fun zz=>?_
   obtain ⟨g0,q1,q2,q3,q4,q5⟩:=jh hg h1
   refine zz ?_;clear zz
   rcases h2 with h2 | h2 | h2 | h2 | ⟨h2,h3⟩
   ·exact .inl (Foot.gl q1 (.inl (by rw [h2,q2])))
   ·rcases q5 with ⟨e1,e2,e3⟩ | ⟨e1,e2⟩
    ·rw [h2] at e3
     cases e3
     rcases hx with hx | hx
     ·exact .inl (Foot.gl q1 (.inr (.inl (by rw [e2];exact hx))))
     ·exact .inr hx
    ·exact .inl (Foot.gl q1 (.inr (.inl (by rw [← e2];exact h2))))
   ·exact .inl (Foot.gl q1 (.inr (.inr (.inl (by rw [q3];exact h2)))))
   ·exact .inl (Foot.gl q1 (.inr (.inr (.inr (.inl (by rw [q4];exact h2))))))
   ·exact .inl (Foot.gl q1 (.inr (.inr (.inr (.inr ⟨by rw [q3];exact h2,h3⟩)))))
theorem W.parOk {a:Ad}{v:Sv}{cnt:Nat}(h:W prog w σ a v cnt) (hc:cnt≤900):ParOk v.par P6:=
 ⟨h.parU,by decide,by decide,fun x=>Nat.le_trans (h.parL x) hc,by decide⟩
theorem cc_len (p n:Str):(cc p n).length=p.length+2+n.length:=by unfold cc;rw [zP,zP];rfl
noncomputable def Kall:List Str:=P5.flatMap fun p=>N10.map fun n=>cc p n
theorem W.nmAll {a:Ad}{v:Sv}{cnt:Nat}(h:W prog w σ a v cnt):∀ j g,v.gl j=some g→j∈Kall:=fun j g hg=>by
 refine zk fun zz=>?_
 obtain ⟨p,n,hp,hn,e⟩:=h.nm j g hg
 refine zz ?_;clear zz
 rw [e]
 exact List.mem_flatMap.mpr ⟨p,hp,List.mem_map.mpr ⟨n,hn,rfl⟩⟩
theorem W.nmLen {a:Ad}{v:Sv}{cnt:Nat}(h:W prog w σ a v cnt):∀ j g,v.gl j=some g→j.length≤1000:=fun j g hg=>by
 refine zk fun zz=>?_
 obtain ⟨p,n,hp,hn,e⟩:=h.nm j g hg
 refine zz ?_;clear zz
 have h1:∀ p∈P5,p.length≤100:=by decide
 have h2:∀ n∈N10,n.length≤100:=by decide
 have:=h1 p hp
 have:=h2 n hn
 rw [e,cc_len];omega
theorem spec_findW {A:Around}{n:Nat}(hY:Fly.Leaves prog w G (zg G 336)) (hA:A.frames=some c.fr) (hR:Rm A (n+4)) {a:Ad}{v:Sv}{cnt:Nat}{l:Addr}{nm:Str}{tn:Tok}{ys:List Value}{ps:List Str}{Q:Value→Loc→Map→Prop}
 (h:W prog w σ a v cnt) (hc:cnt≤900) (hl:σ l=some (.seq false ys)) (hys:StrsAre ys ps) (hps:∀ p∈ps,p∈P6) (hnm:nm.length≤1000) (hpl:ps.length≤1000)
 (hQ:∀ σ' x TB',W prog w σ' a { v with TB:=TB' } (cnt+1)→Step a v σ { v with TB:=TB' } σ'→Upd (fun b=>b=a.MC∨b=v.TB) σ σ'→FoundAt σ' x (srch v.gl nm ps)→Q x m σ') :
 COK prog w G (zg G 336) c A (.ref 463) ⟨[.ref a.MC,.ref a.S,.ref l,.str nm tn],[]⟩ m σ Q X:=
 spec_find hY hA hR h.stash h.cache (by omega) hl hys (fun p hp=>by
  have:=(by decide:∀ p∈P6,p.length≤100) p (hps p hp);omega) hnm hpl fun σ' x TB' u hC hf hT=>hQ σ' x TB' (h.find u hC hT) (Step.find u hT) u hf
theorem W.lst {a:Ad}{v:Sv}{cnt:Nat}(h:W prog w σ a v cnt) {b:Addr}{ys:List Value}(hb:σ b=some (.seq false ys)):¬ (b=a.MC∨b=v.TB):=fun z=>by
 refine zk fun zz=>?_
 obtain ⟨g,tg,xs,h1,h2,_⟩:=h.cache.go
 refine zz ?_;clear zz
 rcases z with z | z
 ·rw [z,h1] at hb;cases hb
 ·rw [z,h2.1] at hb;cases hb
end
section
variable {c:Cx}{X:Str→Map→Prop}{m:Loc}{σ τ:Map}
theorem cc_auto (p:Str):p ++ ("::AUTOLOAD" : Str)=cc p "AUTOLOAD":=by
 unfold cc;rw [app_assoc];rfl
theorem cc_isa (p:Str):zX p=cc p "ISA":=by
 unfold cc zX;rw [app_assoc];rfl
structure Same (v v':Sv):Prop where
 par:v'.par=v.par
 sb:v'.sb=v.sb
 gen:v'.gen=v.gen
 ld:v'.ld=v.ld
 it:v'.it=v.it
 co:∀ j,coOf v'.gl j=coOf v.gl j
 ar:∀ j,(v'.gl j).bind GI.ar=(v.gl j).bind GI.ar
 has:∀ j,(v'.gl j).isSome=(v.gl j).isSome
theorem Same.refl {v:Sv}:Same v v:=⟨rfl,rfl,rfl,rfl,rfl,fun _=>rfl,fun _=>rfl,fun _=>rfl⟩
theorem Same.trans {v v' v'':Sv}(s:Same v v') (t:Same v' v''):Same v v'':=
 ⟨t.par.trans s.par,t.sb.trans s.sb,t.gen.trans s.gen,t.ld.trans s.ld,t.it.trans s.it,fun j=>(t.co j).trans (s.co j),fun j=>(t.ar j).trans (s.ar j),fun j=>(t.has j).trans (s.has j)⟩
theorem Same.find {v:Sv}{TB':Addr}:Same v { v with TB:=TB' }:=⟨rfl,rfl,rfl,rfl,rfl,fun _=>rfl,fun _=>rfl,fun _=>rfl⟩
theorem Same.tl {v:Sv}{tl:Str→Option Str}:Same v { v with tl:=tl }:=⟨rfl,rfl,rfl,rfl,rfl,fun _=>rfl,fun _=>rfl,fun _=>rfl⟩
theorem Same.sc {v:Sv}{nm:Str}{g:GI}{x:Option Addr}{last':Int}(hg:v.gl nm=some g):Same v { v with last:=last',gl:=zM v.gl nm { g with sc:=x } }:=
 ⟨rfl,rfl,rfl,rfl,rfl,glPut_co hg,glPut_ar hg,fun j=>by
  show (zM v.gl nm { g with sc:=x } j).isSome=_
  unfold zM
  by_cases e:j=nm
  ·rw [if_pos e,e,hg];rfl
  ·rw [if_neg e]⟩
noncomputable def NV:List Str:=["DESTROY","\x69mport","unimport"]
noncomputable def kf (gl:Str→Option GI) (tl:Str→Option Str) (ps:List Str) (pk nm:Str):Option Addr × (Str→Option Str):=
 if nm∈NV then (none,tl) else match srch gl "AUTOLOAD" ps with
  | none=>(none,tl)
  | some (x,p)=>(some x,fun q=>if q=p then some (cc pk nm) else tl q)
theorem srch_some {gl:Str→Option GI}{nm:Str}{x:Addr}{p:Str}:∀ {ps:List Str},srch gl nm ps=some (x,p)→p∈ps∧coOf gl (cc p nm)=some x
 | [],h=>by cases h
 | q :: ps,h=>by
  rw [srch_c] at h
  split at h
  ·rename_i a e
   first | exact nb h | exact nt h | cases h
   exact ⟨.head _,e⟩
  ·obtain ⟨h1,h2⟩:=srch_some h
   exact ⟨.tail _ h1,h2⟩
end
namespace spec_autoload
noncomputable def S₀ (c:Cx) (m:Loc) (σ:Map) (X:Str→Map→Prop) (A:Around) (n:Nat) (a:Ad) (v:Sv) (cnt:Nat) (l:Addr) (pk:Str) (nm:Str) (tp:Tok) (tn:Tok) (ys:List Value) (ps:List Str) (Q:Value→Loc→Map→Prop):Prop:=∀ (hY:Fly.Leaves prog w G (zg G 336)) (hA:A.frames=some c.fr) (hR:Rm A (n+8)) (h:W prog w σ a v cnt) (hc:cnt≤890) (hl:σ l=some (.seq false ys)) (hys:StrsAre ys ps) (hps:∀ p∈ps,p∈P6) (hnm:nm.length≤1000) (hpk:pk.length≤1000) (hpl:ps.length≤1000) (hQ:∀ σ' v',W prog w σ' a v' (cnt+2)→Step a v σ v' σ'→Same v v'→v'.tl=(kf v.gl v.tl ps pk nm).2→Q (optV (kf v.gl v.tl ps pk nm).1) m σ'),COK prog w G (zg G 336) c A (.ref 512) ⟨[.ref a.R,.ref l,.str pk tp,.str nm tn],[]⟩ m σ Q X
noncomputable def e₀:Cx × Loc × Map × (Str→Map→Prop) × Around × Nat × Ad × Sv × Nat × Addr × Str × Str × Tok × Tok × (List Value) × (List Str) × (Value→Loc→Map→Prop):=@Classical.epsilon _ ⟨(dCx,default,default,default,callerA,default,⟨0,0,0,0,0,0,0,0⟩,dSv,default,default,default,default,default,default,default,default,default)⟩ fun x=>¬ S₀ x.1 x.2.1 x.2.2.1 x.2.2.2.1 x.2.2.2.2.1 x.2.2.2.2.2.1 x.2.2.2.2.2.2.1 x.2.2.2.2.2.2.2.1 x.2.2.2.2.2.2.2.2.1 x.2.2.2.2.2.2.2.2.2.1 x.2.2.2.2.2.2.2.2.2.2.1 x.2.2.2.2.2.2.2.2.2.2.2.1 x.2.2.2.2.2.2.2.2.2.2.2.2.1 x.2.2.2.2.2.2.2.2.2.2.2.2.2.1 x.2.2.2.2.2.2.2.2.2.2.2.2.2.2.1 x.2.2.2.2.2.2.2.2.2.2.2.2.2.2.2.1 x.2.2.2.2.2.2.2.2.2.2.2.2.2.2.2.2
@[irreducible] noncomputable def c:Cx:=e₀.1
@[irreducible] noncomputable def m:Loc:=e₀.2.1
@[irreducible] noncomputable def σ:Map:=e₀.2.2.1
@[irreducible] noncomputable def X:Str→Map→Prop:=e₀.2.2.2.1
@[irreducible] noncomputable def A:Around:=e₀.2.2.2.2.1
@[irreducible] noncomputable def n:Nat:=e₀.2.2.2.2.2.1
@[irreducible] noncomputable def a:Ad:=e₀.2.2.2.2.2.2.1
@[irreducible] noncomputable def v:Sv:=e₀.2.2.2.2.2.2.2.1
@[irreducible] noncomputable def cnt:Nat:=e₀.2.2.2.2.2.2.2.2.1
@[irreducible] noncomputable def l:Addr:=e₀.2.2.2.2.2.2.2.2.2.1
@[irreducible] noncomputable def pk:Str:=e₀.2.2.2.2.2.2.2.2.2.2.1
@[irreducible] noncomputable def nm:Str:=e₀.2.2.2.2.2.2.2.2.2.2.2.1
@[irreducible] noncomputable def tp:Tok:=e₀.2.2.2.2.2.2.2.2.2.2.2.2.1
@[irreducible] noncomputable def tn:Tok:=e₀.2.2.2.2.2.2.2.2.2.2.2.2.2.1
@[irreducible] noncomputable def ys:List Value:=e₀.2.2.2.2.2.2.2.2.2.2.2.2.2.2.1
@[irreducible] noncomputable def ps:List Str:=e₀.2.2.2.2.2.2.2.2.2.2.2.2.2.2.2.1
@[irreducible] noncomputable def Q:Value→Loc→Map→Prop:=e₀.2.2.2.2.2.2.2.2.2.2.2.2.2.2.2.2
theorem here:S₀ c m σ X A n a v cnt l pk nm tp tn ys ps Q:=by
 intro hY hA hR h hc hl hys hps hnm hpk hpl hQ
 show COK prog w G (zg G 336) c A (.ref 512) ⟨[.ref a.R,.ref l,.str pk tp,.str nm tn],[]⟩ m σ Q X
 refine zk fun zz=>?_
 obtain ⟨lm,a1,a2,a3,a4,a5,a6,a7,a8,a9,a10,a11,a12,eR⟩:=id h.run
 obtain ⟨g0,tg0,xs0,eM,⟨eT,_⟩,_⟩:=id h.cache.go
 refine zz ?_;clear zz
 walk_at "fn"
 refine eps (n:=⟨dDyn⟩) _ ?_
 intro hR'
 refine ze (zJ (zj (zb rfl (zh (by k_is) (P_inTup (.inr (by k_is)) (.cons _ _ (.cons _ _ (.cons _ _ .nil))) (zd ⟨fun hb=>?_,fun hb=>zy ?_⟩))))))
 ·have hm:nm∈NV:=any_beq.mp hb
  have e:kf v.gl v.tl ps pk nm=(none,v.tl):=if_pos hm
  have:=hQ σ v (h.le (by omega)) .refl .refl (by rw [e])
  rw [e] at this
  exact ze (zO (zA this))
 ·have hm:nm∉NV:=fun z=>by have:(NV.any fun x=>x == nm)=true:=any_beq.mpr z;rw [show NV=[("DESTROY" : Str),"\x69mport","unimport"] from rfl] at this;rw [this] at hb;cases hb
  refine ze (zu (zI (zB (zb rfl (zw eR (by kernel_rfl) rfl rfl (zQ eM (by kernel_rfl) rfl (zf (by kernel_rfl) (za (zB (zb rfl (zw eR (by kernel_rfl) rfl rfl (za (zb rfl (za (zo fun t1=>zc (COK.call
   (spec_findW (n:=n+3) hY rfl hR' h (by omega) hl hys hps (by decide) hpl fun σ₁ x TB' h₁ s₁ u₁ hf=>zx ?_)))))))))))))))))
  cases q:srch v.gl "AUTOLOAD" ps with
  | none=>
   rw [q] at hf
   have hx:x = .none:=hf
   subst hx
   have e:kf v.gl v.tl ps pk nm=(none,v.tl):=by unfold kf;rw [if_neg hm,q]
   have:=hQ σ₁ _ (h₁.le (by omega)) s₁ .find (by rw [e])
   rw [e] at this
   refine ze (zJ (zj (zb rfl (zA (zN rfl (zd ⟨fun hb=>ze (zO (zA this)),fun hb=>?_⟩))))))
   first | exact nb hb | exact nt hb | cases hb
  | some r=>
   refine zk fun zz=>?_
   obtain ⟨xa,p⟩:=r
   rw [q] at hf
   obtain ⟨t,tq,rfl,ht⟩:=hf
   refine zz ?_;clear zz
   have e:kf v.gl v.tl ps pk nm=(some xa,fun q=>if q=p then some (cc pk nm) else v.tl q):=by unfold kf;rw [if_neg hm,q]
   obtain ⟨hp1,hp2⟩:=srch_some q
   obtain ⟨g,hg,hgc⟩:∃ g,v.gl (cc p "AUTOLOAD")=some g∧g.co=some xa:=by
    unfold coOf at hp2
    cases z:v.gl (cc p "AUTOLOAD") with
    | none=>rw [z] at hp2;cases hp2
    | some g=>rw [z] at hp2;exact ⟨g,rfl,hp2⟩
   have hpl':p.length≤100:=(by decide:∀ p∈P6,p.length≤100) p (hps p hp1)
   have eR₁:σ₁ a.R=_:=u₁.get eR fun z=>by
    rcases z with z | z
    ·rw [z,eM] at eR;cases eR
    ·rw [z,eT] at eR;cases eR
   obtain ⟨t1',eS₁⟩:=h₁.stash.hS
   have eC₁:=h₁.ctr
   have eP₁:=h₁.pl
   refine ze (zJ (zj (zb rfl (zA (zN rfl (zd ⟨fun hb=>?_,fun hb=>zy ?_⟩))))))
   ·first | exact nb hb | exact nt hb | cases hb
   refine ze (jt (zI (zB (zb rfl (zw eR₁ (by kernel_rfl) rfl rfl (zQ (f:=615) eC₁ (by kernel_rfl) rfl (zf (by kernel_rfl) (za (zI (zB (zb rfl (zw eR₁ (by kernel_rfl) rfl rfl (zQ (f:=366) eS₁ (by kernel_rfl) rfl (zf (by kernel_rfl) (za (zG (zR (zb rfl (zD fun t2=>P_itemTup ht (by decide) (by decide) rfl
    (zo fun t3=>zH (by rw [sizeLine_eq];show p.length+10≤_;omega) fun t4=>?_))))))))))))))))))))
   rw [cc_auto]
   refine zc (COK.call (spec_scalarOf (n:=n+1) hY rfl hR' h₁.stash h₁.heap (by omega) h₁.inj fun σ₂ g₂ xs last₂ u₂ hH₂ hS₂ hg₂ hx₂=>?_))
   have hgg:g₂=g:=by
    rcases hg₂ with z | ⟨z,_⟩
    ·have z':v.gl (cc p "AUTOLOAD")=some g₂:=z
     rw [hg] at z';exact (Option.some.inj z').symm
    ·have z':v.gl (cc p "AUTOLOAD")=none:=z
     rw [hg] at z';cases z'
   subst hgg
   have h₂:=h₁.scalarOf (nm:=cc p "AUTOLOAD") hg u₂ hH₂ hS₂ hx₂
   have s₂:=Step.scalarOf (a:=a) (v:={ v with TB:=TB' }) (nm:=cc p "AUTOLOAD") (last':=last₂) hg u₂ (hx₂.imp id fun z=>z.2.1)
   have e₂:({ { v with TB:=TB' } with last:=last₂,gl:=zM ({ v with TB:=TB' }:Sv).gl (cc p "AUTOLOAD") { g₂ with sc:=some xs } }:Sv).gl (cc p "AUTOLOAD")=some { g₂ with sc:=some xs }:=if_pos rfl
   refine zk fun zz=>?_
   obtain ⟨y₂,hy₂,hy₂'⟩:=h₂.scs _ _ xs e₂ rfl
   refine zz ?_;clear zz
   have l1:(pk ++ ("::" : Str)).length=pk.length+2:=zP _ _
   refine za (zG (zG (zb rfl (zo fun t5=>zH (by rw [sizeLine_eq];show pk.length+2≤_;omega) fun t6=>zb rfl (zH (by rw [l1,sizeLine_eq];omega) fun t7=>zc (COK.call (spec_store (n:=n+5) hY rfl hR' h₂.ctr h₂.pl hy₂ hy₂' fun σ₃ u₃ hy₃=>?_)))))))
   have h₃:=h₂.store (p:=p) (y:=cc pk nm) e₂ rfl u₃ hy₃
   have s₃:=Step.store (a:=a) (tl:=fun q=>if q=p then some (cc pk nm) else v.tl q) e₂ rfl u₃
   have ht₃:σ₃ t=some (.seq true [.ref xa,.str p tq]):=by
    have nT:∀ {σ':Map} {v':Sv} {k:Nat},W prog w σ' a v' k→σ' t=some (.seq true [.ref xa,.str p tq])→¬ jB a.H a.D v'.gl t:=fun {σ' v' k} hW ht z=>by
     refine zk fun zz=>?_
     obtain ⟨_,_,eH⟩:=hW.heap
     obtain ⟨kvs,eD,_⟩:=hW.stash.hD
     refine zz ?_;clear zz
     rcases z with z | z | ⟨j,g',z1,z2⟩
     ·rw [z,eH] at ht;cases ht
     ·rw [z,eD] at ht;cases ht
     ·refine zk fun zz=>?_
      obtain ⟨_,_,_,_,eg⟩:=hW.stash.hG j g' z1
      refine zz ?_;clear zz
      rw [z2,eg] at ht;cases ht
    have ht₂:=u₂.get ht (nT h₁ ht)
    refine u₃.get ht₂ fun z=>?_
    refine zk fun zz=>?_
    obtain ⟨_,_,_,_,_,ex⟩:=hy₂
    refine zz ?_;clear zz
    rw [z,ex] at ht₂;cases ht₂
   refine ze (zO (zR (zb rfl (zD fun t8=>P_itemTup ht₃ (by decide) (by decide) (x:=.ref xa) rfl ?_))))
   have:=hQ σ₃ _ h₃ ((s₁.trans s₂).trans s₃) (((Same.find (v:=v) (TB':=TB')).trans (Same.sc (v:={ v with TB:=TB' }) (last':=last₂) (x:=some xs) hg)).trans (Same.tl (v:={ { v with TB:=TB' } with last:=last₂,gl:=zM ({ v with TB:=TB' }:Sv).gl (cc p "AUTOLOAD") { g₂ with sc:=some xs } }))) (by rw [e])
   rw [e] at this
   exact this
end spec_autoload
section
variable {c:Cx}{X:Str→Map→Prop}{m:Loc}{σ τ:Map}
theorem spec_autoload {A:Around}{n:Nat}(hY:Fly.Leaves prog w G (zg G 336)) (hA:A.frames=some c.fr) (hR:Rm A (n+8)) {a:Ad}{v:Sv}{cnt:Nat}{l:Addr}{pk:Str}{nm:Str}{tp:Tok}{tn:Tok}{ys:List Value}{ps:List Str}{Q:Value→Loc→Map→Prop}(h:W prog w σ a v cnt) (hc:cnt≤890) (hl:σ l=some (.seq false ys)) (hys:StrsAre ys ps) (hps:∀ p∈ps,p∈P6) (hnm:nm.length≤1000) (hpk:pk.length≤1000) (hpl:ps.length≤1000) (hQ:∀ σ' v',W prog w σ' a v' (cnt+2)→Step a v σ v' σ'→Same v v'→v'.tl=(kf v.gl v.tl ps pk nm).2→Q (optV (kf v.gl v.tl ps pk nm).1) m σ'):COK prog w G (zg G 336) c A (.ref 512) ⟨[.ref a.R,.ref l,.str pk tp,.str nm tn],[]⟩ m σ Q X:=by with_unfolding_all exact eps (fun x:Cx × Loc × Map × (Str→Map→Prop) × Around × Nat × Ad × Sv × Nat × Addr × Str × Str × Tok × Tok × (List Value) × (List Str) × (Value→Loc→Map→Prop)=>spec_autoload.S₀ x.1 x.2.1 x.2.2.1 x.2.2.2.1 x.2.2.2.2.1 x.2.2.2.2.2.1 x.2.2.2.2.2.2.1 x.2.2.2.2.2.2.2.1 x.2.2.2.2.2.2.2.2.1 x.2.2.2.2.2.2.2.2.2.1 x.2.2.2.2.2.2.2.2.2.2.1 x.2.2.2.2.2.2.2.2.2.2.2.1 x.2.2.2.2.2.2.2.2.2.2.2.2.1 x.2.2.2.2.2.2.2.2.2.2.2.2.2.1 x.2.2.2.2.2.2.2.2.2.2.2.2.2.2.1 x.2.2.2.2.2.2.2.2.2.2.2.2.2.2.2.1 x.2.2.2.2.2.2.2.2.2.2.2.2.2.2.2.2) spec_autoload.here (c,m,σ,X,A,n,a,v,cnt,l,pk,nm,tp,tn,ys,ps,Q) hY hA hR h hc hl hys hps hnm hpk hpl hQ
end
section
variable {c:Cx}{X:Str→Map→Prop}{m:Loc}{σ τ:Map}
inductive Inv where
 | txt (x:Str)
 | nil
 | obj (p:Str)
noncomputable def InvAt (σ:Map) (val:Value):Inv→Prop
 | .txt x=>∃ t,val = .str x t
 | .nil=>val = .none
 | .obj p=>∃ r ar l tp,val = .ref r∧σ r=some (.inst 183 (refF (.ref ar)))∧ArrAt σ ar (.str p tp) l
noncomputable def kj (nm:Str):Inv→Except Str Str
 | .txt x=>if x = "" then .error (("Can't call method \"" : Str) ++ nm ++ ("\" without a package or object reference" : Str)) else .ok x
 | .nil=>.error (("Can't call method \"" : Str) ++ nm ++ ("\" on an undefined value" : Str))
 | .obj p=>.ok p
theorem cls_empty (nm:Str):kj nm (.txt "") = .error (("Can't call method \"" : Str) ++ nm ++ ("\" without a package or object reference" : Str)):=by
 simp only [kj,if_true]
theorem cls_text (nm:Str) {x:Str}(h:x≠""):kj nm (.txt x) = .ok x:=by
 simp only [kj];rw [if_neg h]
theorem spec_class {A:Around}{n:Nat}(hA:A.frames=some c.fr) (hR:Rm A (n+4)) {val:Value}{inv:Inv}{nm:Str}{tn:Tok}{Q:Value→Loc→Map→Prop}(hi:InvAt σ val inv) (hnm:nm.length≤1000)
 (hQ:∀ p t,kj nm inv = .ok p→Q (.str p t) m σ) (hX:∀ e,kj nm inv = .error e→∀ σ',Ext σ σ'→X e σ'):COK prog w G (zg G 336) c A (.ref 491) ⟨[val,.str nm tn],[]⟩ m σ Q X:=by
 have hY:Fly.Leaves prog w G (zg G 336):=jc
 have l1:(("Can't call method \"" : Str) ++ nm).length=19+nm.length:=zP _ _
 cases inv with
 | nil=>
  have e:val = .none:=hi
  subst e
  exact spec_classNone hA hR hnm fun σ' u=>hX _ rfl σ' u
 | obj p=>
  refine zk fun zz=>?_
  obtain ⟨r,ar,l,tp,rfl,er,n1,t1,k1,t2,wk,ea⟩:=hi
  refine zz ?_;clear zz
  walk_at "fn"
  intro d hR'
  refine ze (zJ (ja (zv (zC (by k_is) (by boot_by_name) (by decide) (zt (za (zb rfl (za (zh (by k_is) (zc (P_isiYes er (by kernel_rfl) (zd ⟨fun hb=>?_,fun hb=>?_⟩))))))))))))
  rotate_left
  ·first | exact nb hb | exact nt hb | cases hb
  refine ze (zJ (zj (zB (zB (zb rfl (zw er (by kernel_rfl) rfl rfl (zw ea (by kernel_rfl) rfl rfl (zA (zN rfl (zd ⟨fun hb=>?_,fun hb=>zy ?_⟩))))))))))
  ·first | exact nb hb | exact nt hb | cases hb
  exact ze (zO (zB (zB (zb rfl (zw er (by kernel_rfl) rfl rfl (zw ea (by kernel_rfl) rfl rfl (hQ p tp rfl)))))))
 | txt x=>
  obtain ⟨t,rfl⟩:=hi
  by_cases hx:x = ""
  ·subst hx
   walk_at "fn"
   intro d hR'
   refine ze (zJ (ja (zv (zC (by k_is) (by boot_by_name) (by decide) (zt (za (zb rfl (za (zh (by k_is) (zc (jT (by kernel_rfl) (zd ⟨fun hb=>?_,fun hb=>zy ?_⟩))))))))))))
   ·first | exact nb hb | exact nt hb | cases hb
   refine ze (zJ (zj (zb rfl (zA (zN rfl (zd ⟨fun hb=>?_,fun hb=>zy ?_⟩))))))
   ·first | exact nb hb | exact nt hb | cases hb
   refine ze (zu (zv (zh (by k_is) (zf (by kernel_rfl) (za (zb rfl (zc (COK.call (jC (n:=n) hY rfl (hR'.le (by omega)) (zx ?_))))))))))
   refine ze (zJ (zj (zb rfl (zo fun t1=>jK (zd ⟨fun hb=>?_,fun hb=>?_⟩)))))
   rotate_left
   ·first | exact nb hb | exact nt hb | cases hb
   refine ze (P_raise hR'.2.2 die_raise (zv (zh (by k_is) (zf (by kernel_rfl) (za (zG (zG (zo fun t1=>zb rfl (zH (by rw [sizeLine_eq];show 19+nm.length≤_;omega) fun t2=>zo fun t3=>zH (by rw [l1,sizeLine_eq];show _+39≤_;omega) fun t4=>zc
    (P_dieCall (n:=n) hY (hR'.le (by omega)) fun a t5 h0=>⟨a,_,_,_,rfl,Map.set_self,rfl,hX _ (cls_empty nm) _ ?_⟩))))))))))
   intro b bo hb _
   have hne:b≠a:=zm hb h0
   rw [Map.del_ne hne,Map.set_ne hne];exact hb
  ·exact spec_classStr (n:=n+2) hA hR (beq_false_of_ne hx) (hQ x t (cls_text nm hx))
end
section
variable {c:Cx}{X:Str→Map→Prop}{m:Loc}{σ τ:Map}
theorem StrsAre.drop1:∀ {vs:List Value}{ss:List Str},StrsAre vs ss→StrsAre (vs.drop 1) (ss.drop 1)
 | _,_,.nil=>.nil
 | _,_,.cons _ _ h=>h
theorem pick_from1 (l:List Value):kms_pick l (some 1) none=l.drop 1:=by
 unfold kms_pick kms_lo kms_hi
 simp only [show ¬ ((1:Int) < 0) by decide,if_false]
 cases l with
 | nil=>rfl
 | cons x r=>
  have e:min (1:Int).toNat (x :: r).length=1:=by simp
  rw [e]
  show (r.take ((r.length+1) - 1))=r
  rw [Nat.add_sub_cancel,List.take_length]
theorem Map.del_set {a:Addr}{ao:AO}{σ:Map}(h:σ a=none):(σ.set a ao).del a=σ:=by
 funext b;unfold Map.del Map.set;by_cases z:b=a
 ·rw [if_pos z,z,h]
 ·rw [if_neg z,if_neg z]
noncomputable def zW (nm:Str):Str × Str:=if Txt.rfind nm "::" < 0 then ("",nm) else (Txt.slice nm none (some (Txt.rfind nm "::")),Txt.slice nm (some (Txt.rfind nm "::" + 2)) none)
noncomputable def pkOf (nm:Str) (ab:Option Str) (p:Str):Str:=match ab with
 | some q=>q
 | none=>if (zW nm).1 = "" then p else (zW nm).1
noncomputable def lnOf (ab:Option Str) (l:List Str):List Str:=match ab with
 | some _=>l.drop 1
 | none=>l
noncomputable def metOf (gl:Str→Option GI) (tl:Str→Option Str) (ps:List Str) (pk nm:Str):Option Addr × (Str→Option Str):=match srch gl nm ps with
 | some (x,_)=>(some x,tl)
 | none=>kf gl tl ps pk nm
noncomputable def aboveV:Option Str→Tok→Value
 | none,_=>.none
 | some q,t=>.str q t
theorem jE {par:Str→List Str}{U:List Str}(hp:ParOk par U) {p:Str}(h:p∈U) {l:List Str}(e:zS par p = .ok l):(∀ x∈l,x∈U)∧l.Nodup:=by
 unfold zS at e
 cases q1:jX par 7 p with
 | error q=>rw [q1] at e;cases e
 | ok l1=>
  rw [q1] at e
  have e':(match jX par 7 "UNIVERSAL" with | .error q=>Except.error q | .ok l₂=>Except.ok (l₂.foldl merge l1)) = .ok l:=e
  cases q2:jX par 7 "UNIVERSAL" with
  | error q=>rw [q2] at e';cases e'
  | ok l2=>
   rw [q2] at e'
   have e3:l2.foldl merge l1=l:=Except.ok.inj e'
   have s1:=lineOf_sub hp h q1
   have s2:=lineOf_sub hp hp.huni q2
   rw [← e3]
   exact ⟨merge_sub s1.1 s2.1,merge_nodup s1.2⟩
theorem spec_cut' {A:Around}{n:Nat}(hY:Fly.Leaves prog w G (zg G 336)) (hA:A.frames=some c.fr) (hR:Rm A (n+1)) {x:Str}{t:Tok}{Q:Value→Loc→Map→Prop}(hx:x.length≤1000)
 (hQ:∀ a t1 t2,σ a=none→Q (.ref a) m (σ.set a (.seq true [.str (zW x).1 t1,.str (zW x).2 t2]))):COK prog w G (zg G 336) c A (.ref 484) ⟨[.str x t],[]⟩ m σ Q X:=by
 refine spec_cut hY hA hR hx fun a t1 t2 h0=>?_
 by_cases h:Txt.rfind x "::" < 0
 ·have:=hQ a t1 t h0
  unfold zW at this
  rw [if_pos h] at this ⊢
  exact this
 ·have:=hQ a t1 t2 h0
  unfold zW at this
  rw [if_neg h] at this ⊢
  exact this
end
namespace spec_method
noncomputable def S₀ (c:Cx) (m:Loc) (σ:Map) (X:Str→Map→Prop) (A:Around) (n:Nat) (a:Ad) (v:Sv) (cnt:Nat) (nm:Str) (tn:Tok) (ta:Tok) (Q:Value→Loc→Map→Prop):Prop:=∀ (hA:A.frames=some c.fr) (hR:Rm A (n+9)) {val:Value} {inv:Inv} {ab:Option Str} (h:W prog w σ a v cnt) (hc:cnt≤880) (hi:InvAt σ val inv) (hnm:nm.length≤900) (hlast:(zW nm).2.length≤900) (hpk:∀ p,kj nm inv = .ok p→pkOf nm ab p∈P6) (hQ:∀ p l σ' v' r,kj nm inv = .ok p→zS v.par (pkOf nm ab p) = .ok l→W prog w σ' a v' (cnt+3)→Step a v σ v' σ'→Same v v'→(r,v'.tl)=metOf v.gl v.tl (lnOf ab l) (pkOf nm ab p) (zW nm).2 →
 (r≠none∨(zW nm).2∈NV.drop 1)→Q (optV r) m σ') (hX1:∀ e,kj nm inv = .error e→∀ σ',Ext σ σ'→X e σ') (hX2:∀ p q,kj nm inv = .ok p→zS v.par (pkOf nm ab p) = .error q→∀ σ',Ext σ σ'→X (jd q) σ') (hX3:∀ p l σ' v' b,kj nm inv = .ok p→zS v.par (pkOf nm ab p) = .ok l→W prog w σ' a v' (cnt+3)→Step a v σ v' σ'→Same v v'→(none,v'.tl)=metOf v.gl v.tl (lnOf ab l) (pkOf nm ab p) (zW nm).2 →
 (zW nm).2∉NV.drop 1→(b=true↔∃ j g,v'.gl j=some g∧inPkg (pkOf nm ab p) j=true)→X (zY (pkOf nm ab p) (zW nm).2 b) σ'),COK prog w G (zg G 336) c A (.ref 519) ⟨[.ref a.R,val,.str nm tn,aboveV ab ta],[]⟩ m σ Q X
noncomputable def e₀:Cx × Loc × Map × (Str→Map→Prop) × Around × Nat × Ad × Sv × Nat × Str × Tok × Tok × (Value→Loc→Map→Prop):=@Classical.epsilon _ ⟨(dCx,default,default,default,callerA,default,⟨0,0,0,0,0,0,0,0⟩,dSv,default,default,default,default,default)⟩ fun x=>¬ S₀ x.1 x.2.1 x.2.2.1 x.2.2.2.1 x.2.2.2.2.1 x.2.2.2.2.2.1 x.2.2.2.2.2.2.1 x.2.2.2.2.2.2.2.1 x.2.2.2.2.2.2.2.2.1 x.2.2.2.2.2.2.2.2.2.1 x.2.2.2.2.2.2.2.2.2.2.1 x.2.2.2.2.2.2.2.2.2.2.2.1 x.2.2.2.2.2.2.2.2.2.2.2.2
@[irreducible] noncomputable def c:Cx:=e₀.1
@[irreducible] noncomputable def m:Loc:=e₀.2.1
@[irreducible] noncomputable def σ:Map:=e₀.2.2.1
@[irreducible] noncomputable def X:Str→Map→Prop:=e₀.2.2.2.1
@[irreducible] noncomputable def A:Around:=e₀.2.2.2.2.1
@[irreducible] noncomputable def n:Nat:=e₀.2.2.2.2.2.1
@[irreducible] noncomputable def a:Ad:=e₀.2.2.2.2.2.2.1
@[irreducible] noncomputable def v:Sv:=e₀.2.2.2.2.2.2.2.1
@[irreducible] noncomputable def cnt:Nat:=e₀.2.2.2.2.2.2.2.2.1
@[irreducible] noncomputable def nm:Str:=e₀.2.2.2.2.2.2.2.2.2.1
@[irreducible] noncomputable def tn:Tok:=e₀.2.2.2.2.2.2.2.2.2.2.1
@[irreducible] noncomputable def ta:Tok:=e₀.2.2.2.2.2.2.2.2.2.2.2.1
@[irreducible] noncomputable def Q:Value→Loc→Map→Prop:=e₀.2.2.2.2.2.2.2.2.2.2.2.2
theorem here:S₀ c m σ X A n a v cnt nm tn ta Q:=by
 intro hA hR val inv ab h hc hi hnm hlast hpk hQ hX1 hX2 hX3
 show COK prog w G (zg G 336) c A (.ref 519) ⟨[.ref a.R,val,.str nm tn,aboveV ab ta],[]⟩ m σ Q X
 have hY:Fly.Leaves prog w G (zg G 336):=jc
 refine zk fun zz=>?_
 obtain ⟨lm,a1,a2,a3,a4,a5,a6,a7,a8,a9,a10,a11,a12,eR⟩:=id h.run
 refine zz ?_;clear zz
 walk_at "fn"
 intro d hR'
 refine ze (zJ (ja (zv (zC (by k_is) (by boot_by_name) (by decide) (zt (za (zb rfl (za (zh (by k_is) (zc (jT (by kernel_rfl) (zd ⟨fun hb=>?_,fun hb=>zy ?_⟩))))))))))))
 ·first | exact nb hb | exact nt hb | cases hb
 refine ze (zu (zv (zh (by k_is) (zf (by kernel_rfl) (za (zb rfl (za (zb rfl (zc (COK.call (spec_class (n:=n+4) rfl hR' hi (by omega) (fun p tp hp=>zx ?_) hX1)))))))))))
 refine ze (P_assign2 hR'.2.2 (zv (zh (by k_is) (zf (by kernel_rfl) (za (zb rfl (zc (COK.call (spec_cut' (n:=n+7) hY rfl hR' (by omega) fun tu t1 t2 h0=>⟨tu,_,_,rfl,.inl Map.set_self,?_⟩)))))))))
 have u₁:Ext σ (σ.set tu (.seq true [.str (zW nm).1 t1,.str (zW nm).2 t2])):=Upd.refl.set_new h0
 have hpk':=hpk p hp
 refine j8 (J:=fun m₂ σ₂=>A5 (m₂ "run" = some (.ref a.R)) ((∃ t,m₂ "last" = some (.str (zW nm).2 t))) ((∃ t,m₂ "package" = some (.str (pkOf nm ab p) t))) (Ext σ σ₂) (X3 fun l La ys=>A4 (zS v.par (pkOf nm ab p) = .ok l) (m₂ "line" = some (.ref La)) (σ₂ La=some (.seq false ys)) (StrsAre ys (lnOf ab l)))) ?_ ?_
 ·cases ab with
  | some q=>
   have epk:pkOf nm (some q) p=q:=rfl
   rw [epk] at hpk' ⊢
   refine zJ (zj (zb rfl (zA (z7 (by rfl) (zd ⟨fun hb=>?_,fun hb=>?_⟩)))))
   rotate_left
   ·first | exact nb hb | exact nt hb | cases hb
   refine ze (zu (zb rfl (zx ?_)))
   refine ze (zu (zR (zv (zh (by k_is) (zf (by kernel_rfl) (za (zB (zb rfl (zw (u₁.get eR) (by kernel_rfl) rfl rfl (za (zb rfl (zc (COK.call (spec_whole (n:=n+3) rfl hR' (h.ext u₁).stash (h.ext u₁).par (h.parOk (by omega)) hpk' (fun l hl σ₂ La ys u₂ hLa eL hys=>?_)
    fun q' hq' σ' u=>hX2 p q' hp hq' σ' (u₁.trans u)))))))))))))))
   have hls:l.length≤100:=by
    have:=jE (h.parOk (by omega)) hpk' hl
    have h2:=jI this.2 this.1
    have h3:P6.length=6:=rfl
    omega
   refine P_slice (jN (zD fun t3=>jM fun sl hsl=>P_tailSliceL (lo:=some 1) (hi:=none) (.inl (Map.set_new hsl eL)) Map.set_self (.int 1 t3) .none (by rw [hys.length,sizeLine_eq];omega) fun D hD=>zx (zy ⟨rfl,rfl,⟨t2,rfl⟩,⟨ta,rfl⟩,?_,l,D,_,hl,rfl,Map.set_self,?_⟩)))
   ·exact ((u₁.trans u₂).set_new hsl).set_new hD
   ·rw [pick_from1];exact StrsAre.drop1 hys
  | none=>
   refine zJ (zj (zb rfl (zA (z7 (by rfl) (zd ⟨fun hb=>?_,fun hb=>?_⟩)))))
   ·first | exact nb hb | exact nt hb | cases hb
   refine j8 (J:=fun m₂ σ₂=>A4 (m₂ "run" = some (.ref a.R)) ((∃ t,m₂ "last" = some (.str (zW nm).2 t))) ((∃ t,m₂ "package" = some (.str (pkOf nm none p) t))) (σ₂=σ.set tu (.seq true [.str (zW nm).1 t1,.str (zW nm).2 t2]))) ?_ ?_
   ·refine zJ (zj (zb rfl (zo fun t3=>P_neStr (zd ⟨fun hb=>?_,fun hb=>zy ⟨rfl,rfl,⟨t2,rfl⟩,⟨tp,?_⟩,rfl⟩⟩))))
    ·refine ze (zu (zb rfl (zx (zy ⟨rfl,rfl,⟨t2,rfl⟩,⟨t1,?_⟩,rfl⟩))))
     have e:(zW nm).1≠"":=by simpa using hb
     have e2:pkOf nm none p=(zW nm).1:=if_neg e
     rw [e2];rfl
    ·have e:(zW nm).1 = "":=by simpa using hb
     have e2:pkOf nm none p=p:=if_pos e
     rw [e2];rfl
   ·rintro m₂ σ₂ ⟨e1,⟨t4,e2⟩,⟨t5,e3⟩,rfl⟩
    refine ze (zu (zv (zh (by k_is) (zf (by kernel_rfl) (za (zB (zb (by exact e1) (zw (u₁.get eR) (by kernel_rfl) rfl rfl (za (zb (by exact e3) (zc (COK.call (spec_whole (n:=n+3) rfl hR' (h.ext u₁).stash (h.ext u₁).par (h.parOk (by omega)) hpk' (fun l hl σ₂ La ys u₂ hLa eL hys=>zx (zy ⟨rfl,e1,⟨t4,e2⟩,⟨t5,e3⟩,u₁.trans u₂,l,La,ys,hl,rfl,eL,hys⟩))
     fun q' hq' σ' u=>hX2 p q' hp hq' σ' (u₁.trans u))))))))))))))
 ·rintro m₂ σ₂ ⟨e1,⟨t3,e2⟩,⟨t4,e3⟩,u₂,l,La,ys,hl,e4,eL,hys⟩
  have hls:=jE (h.parOk (by omega)) hpk' hl
  have hll:(lnOf ab l).length≤100:=by
   have h2:=jI hls.2 hls.1
   have h3:P6.length=6:=rfl
   cases ab with
   | none=>show l.length≤_;omega
   | some q=>show (l.drop 1).length≤_;rw [List.length_drop];omega
  have hps:∀ p∈lnOf ab l,p∈P6:=fun x hx=>by
   cases ab with
   | none=>exact hls.1 x hx
   | some q=>exact hls.1 x (List.mem_of_mem_drop hx)
  have h₂:=h.ext u₂
  refine zk fun zz=>?_
  obtain ⟨g0,tg0,xs0,eM,⟨eT,_⟩,_⟩:=id h₂.cache.go
  obtain ⟨ts,eS⟩:=h₂.stash.hS
  refine zz ?_;clear zz
  have eR₂:=u₂.get eR
  refine ze (zu (zI (zB (zb (by exact e1) (zw eR₂ (by kernel_rfl) rfl rfl (zQ eM (by kernel_rfl) rfl (zf (by kernel_rfl) (za (zB (zb (by exact e1) (zw eR₂ (by kernel_rfl) rfl rfl (za (zb (by exact e4) (za (zb (by exact e2) (zc (COK.call
   (spec_findW (n:=n+4) hY rfl hR' h₂ (by omega) eL hys hps (by omega) (by omega) fun σ₃ x TB' h₃ s₃ u₃ hf=>zx ?_))))))))))))))))))
  have eL₃:=u₃.get eL (h₂.lst eL)
  have eR₃:σ₃ a.R=_:=u₃.get eR₂ fun z=>by
   rcases z with z | z
   ·rw [z,eM] at eR₂;cases eR₂
   ·rw [z,eT] at eR₂;cases eR₂
  have step₃:Step a v σ { v with TB:=TB' } σ₃:=(Step.ext u₂).trans s₃
  cases q:srch v.gl (zW nm).2 (lnOf ab l) with
  | some r=>
   refine zk fun zz=>?_
   obtain ⟨xa,pp⟩:=r
   rw [q] at hf
   obtain ⟨t,tq,rfl,ht⟩:=hf
   refine zz ?_;clear zz
   refine ze (zJ (zj (zb rfl (zA (z7 rfl (zd ⟨fun hb=>?_,fun hb=>?_⟩))))))
   rotate_left
   ·first | exact nb hb | exact nt hb | cases hb
   refine ze (zO (zR (zb rfl (zD fun t8=>P_itemTup ht (by decide) (by decide) (x:=.ref xa) rfl ?_))))
   exact hQ p l σ₃ _ (some xa) hp hl (h₃.le (by omega)) step₃ .find (by unfold metOf;rw [q]) (.inl (by intro z;cases z))
  | none=>
   rw [q] at hf
   have hx:x = .none:=hf
   subst hx
   refine ze (zJ (zj (zb rfl (zA (z7 rfl (zd ⟨fun hb=>?_,fun hb=>zy ?_⟩))))))
   ·first | exact nb hb | exact nt hb | cases hb
   refine ze (zu (zv (zh (by k_is) (zf (by kernel_rfl) (za (zb (by exact e1) (za (zb (by exact e4) (za (zb (by exact e3) (za (zb (by exact e2) (zc (COK.call
    (spec_autoload (n:=n) hY rfl hR' h₃ (by omega) eL₃ hys hps (by omega) (by have:=(by decide:∀ p∈P6,p.length≤100) _ hpk';omega) (by omega) fun σ₄ v₄ h₄ s₄ same₄ htl₄=>zx ?_)))))))))))))))
   have e5:metOf v.gl v.tl (lnOf ab l) (pkOf nm ab p) (zW nm).2=kf v.gl v.tl (lnOf ab l) (pkOf nm ab p) (zW nm).2:=by unfold metOf;rw [q]
   have step₄:=step₃.trans s₄
   have same:Same v v₄:=(Same.find (v:=v) (TB':=TB')).trans same₄
   have eR₄:RunAt σ₄ a.R (.ref a.H) (.ref a.CT) (.ref a.S) (.ref a.MC):=h₄.run
   refine zk fun zz=>?_
   obtain ⟨lm',b1,b2,b3,b4,b5,b6,b7,b8,b9,b10,b11,b12,eR₄⟩:=eR₄
   refine zz ?_;clear zz
   cases r:(kf v.gl v.tl (lnOf ab l) (pkOf nm ab p) (zW nm).2).1 with
   | some xa=>
    refine ze (zJ (jz (zj (zb rfl (zA (zN (plain_opt _) (zd ⟨fun hb=>?_,fun hb=>⟨fun hb'=>(nomatch hb'),fun _=>zy ?_⟩⟩)))))))
    ·first | exact nb hb | exact nt hb | cases hb
    ·refine ze (zO (zb rfl ?_))
     exact hQ p l σ₄ v₄ (some xa) hp hl (h₄.le (by omega)) step₄ same (by rw [e5,htl₄,← r]) (.inl (by intro z;cases z))
   | none=>
    refine ze (zJ (jz (zj (zb rfl (zA (zN (plain_opt _) (zd ⟨fun hb=>?_,fun hb=>?_⟩)))))))
    rotate_left
    ·first | exact nb hb | exact nt hb | cases hb
    refine jz (zj (zb (by exact e2) (zR (zh (by k_is) (P_slice (jN (zD fun t9=>jM fun sl hsl=>P_tailSliceT (k:=1) (xs:=[.str "DESTROY" 742,.str "\x69mport" 743,.str "unimport" 744]) (.inr (by k_is)) Map.set_self (by decide) (by decide) (by rw [sizeLine_eq];decide) fun D hD=>
     P_notInTup (ys:=NV.drop 1) (.inl Map.set_self) (.cons _ _ (.cons _ _ .nil)) (zd ⟨fun hb2=>P_testAndNil ⟨fun _=>?_,fun z=>(nomatch z)⟩,fun hb2=>⟨fun z=>(nomatch z),fun _=>zy ?_⟩⟩))))))))
    all_goals
     have u₅:Ext σ₄ ((σ₄.set sl (.raw (jO (.int 1 t9) .none))).set D (.seq true (List.drop 1 [.str "DESTROY" 742,.str "\x69mport" 743,.str "unimport" 744]))):=(Upd.refl.set_new hsl).set_new hD
     have h₅:=(h₄.ext u₅).le (by omega:cnt+1+2≤cnt+3)
     have step₅:=step₄.trans (Step.ext u₅)
     have e6:(none,v₄.tl)=metOf v.gl v.tl (lnOf ab l) (pkOf nm ab p) (zW nm).2:=by rw [e5,htl₄,← r]
    ·have hnl:(zW nm).2∉NV.drop 1:=fun z=>by rw [any_beq.mpr z] at hb2;cases hb2
     have hpl:(pkOf nm ab p).length≤100:=(by decide:∀ p∈P6,p.length≤100) _ hpk'
     refine ze (P_raise hR'.2.2 die_raise (zv (zh (by k_is) (zf (by kernel_rfl) (za (zB (zb (by exact e1) (zw (u₅.get eR₄) (by kernel_rfl) rfl rfl (za (zb (by exact e3) (za (zb (by exact e2) (zc (COK.call
      (spec_noMethod (n:=n+4) hY rfl hR' h₅.stash (Ks:=Kall) (by decide) h₅.nmAll (by omega) (by omega) h₅.nmLen fun b hb σ₆ x t t' u₆ h0=>⟨x,_,_,_,rfl,Map.set_self,rfl,?_⟩)))))))))))))))
     rw [Map.del_set h0]
     exact hX3 p l σ₆ v₄ b hp hl (h₅.ext u₆) (step₅.trans (Step.ext u₆)) same e6 hnl hb
    ·have hml:(zW nm).2∈NV.drop 1:=by
      cases z:(NV.drop 1).any fun x=>x == (zW nm).2 with
      | true=>exact any_beq.mp z
      | false=>rw [z] at hb2;cases hb2
     exact ze (zO (zb rfl (hQ p l _ v₄ none hp hl h₅ step₅ same e6 (.inr hml))))
end spec_method
section
variable {c:Cx}{X:Str→Map→Prop}{m:Loc}{σ τ:Map}
theorem spec_method {A:Around}{n:Nat}(hA:A.frames=some c.fr) (hR:Rm A (n+9)) {a:Ad}{v:Sv}{cnt:Nat}{val:Value}{inv:Inv}{nm:Str}{tn:Tok}{ta:Tok}{ab:Option Str}{Q:Value→Loc→Map→Prop}(h:W prog w σ a v cnt) (hc:cnt≤880) (hi:InvAt σ val inv) (hnm:nm.length≤900) (hlast:(zW nm).2.length≤900) (hpk:∀ p,kj nm inv = .ok p→pkOf nm ab p∈P6) (hQ:∀ p l σ' v' r,kj nm inv = .ok p→zS v.par (pkOf nm ab p) = .ok l→W prog w σ' a v' (cnt+3)→Step a v σ v' σ'→Same v v'→(r,v'.tl)=metOf v.gl v.tl (lnOf ab l) (pkOf nm ab p) (zW nm).2 →
 (r≠none∨(zW nm).2∈NV.drop 1)→Q (optV r) m σ') (hX1:∀ e,kj nm inv = .error e→∀ σ',Ext σ σ'→X e σ') (hX2:∀ p q,kj nm inv = .ok p→zS v.par (pkOf nm ab p) = .error q→∀ σ',Ext σ σ'→X (jd q) σ') (hX3:∀ p l σ' v' b,kj nm inv = .ok p→zS v.par (pkOf nm ab p) = .ok l→W prog w σ' a v' (cnt+3)→Step a v σ v' σ'→Same v v'→(none,v'.tl)=metOf v.gl v.tl (lnOf ab l) (pkOf nm ab p) (zW nm).2 →
 (zW nm).2∉NV.drop 1→(b=true↔∃ j g,v'.gl j=some g∧inPkg (pkOf nm ab p) j=true)→X (zY (pkOf nm ab p) (zW nm).2 b) σ'):COK prog w G (zg G 336) c A (.ref 519) ⟨[.ref a.R,val,.str nm tn,aboveV ab ta],[]⟩ m σ Q X:=by with_unfolding_all exact eps (fun x:Cx × Loc × Map × (Str→Map→Prop) × Around × Nat × Ad × Sv × Nat × Str × Tok × Tok × (Value→Loc→Map→Prop)=>spec_method.S₀ x.1 x.2.1 x.2.2.1 x.2.2.2.1 x.2.2.2.2.1 x.2.2.2.2.2.1 x.2.2.2.2.2.2.1 x.2.2.2.2.2.2.2.1 x.2.2.2.2.2.2.2.2.1 x.2.2.2.2.2.2.2.2.2.1 x.2.2.2.2.2.2.2.2.2.2.1 x.2.2.2.2.2.2.2.2.2.2.2.1 x.2.2.2.2.2.2.2.2.2.2.2.2) spec_method.here (c,m,σ,X,A,n,a,v,cnt,nm,tn,ta,Q) hA hR h hc hi hnm hlast hpk hQ hX1 hX2 hX3
end
section
variable {c:Cx}{X:Str→Map→Prop}{m:Loc}{σ τ:Map}
noncomputable def codeV:Option (Addr × Str)→Value
 | none=>.none
 | some (x,_)=>.ref x
theorem spec_findMethod {A:Around}{n:Nat}(hA:A.frames=some c.fr) (hR:Rm A (n+6)) {a:Ad}{v:Sv}{cnt:Nat}{pk nm:Str}{tp tn:Tok}{Q:Value→Loc→Map→Prop}
 (h:W prog w σ a v cnt) (hc:cnt≤880) (hpk:pk∈P6) (hnm:nm.length≤900)
 (hQ:∀ l σ' TB',zS v.par pk = .ok l→W prog w σ' a { v with TB:=TB' } (cnt+1)→Step a v σ { v with TB:=TB' } σ'→Q (codeV (srch v.gl nm l)) m σ')
 (hX:∀ q,zS v.par pk = .error q→∀ σ',Ext σ σ'→X (jd q) σ') :
 COK prog w G (zg G 336) c A (.ref 477) ⟨[.ref a.S,.ref a.MC,.str pk tp,.str nm tn],[]⟩ m σ Q X:=by
 have hY:Fly.Leaves prog w G (zg G 336):=jc
 refine zk fun zz=>?_
 obtain ⟨g0,tg0,xs0,eM,⟨eT,_⟩,_⟩:=id h.cache.go
 refine zz ?_;clear zz
 walk_at "fn"
 intro d hR'
 refine ze (zu (zI (zb rfl (zQ (f:=463) eM (by kernel_rfl) rfl (zf (by kernel_rfl) (za (zb rfl (za (zv (zh (by k_is) (zf (by kernel_rfl) (za (zb rfl (za (zb rfl (zc (COK.call (spec_whole (n:=n) rfl hR' h.stash h.par (h.parOk (by omega)) hpk
  (fun l hl σ₂ La ys u₂ hLa eL hys=>?_) hX))))))))))))))))))
 have hls:=jE (h.parOk (by omega)) hpk hl
 have hll:l.length≤100:=by
  have h2:=jI hls.2 hls.1
  have h3:P6.length=6:=rfl
  omega
 refine za (zb rfl (zc (COK.call (spec_findW (n:=n+1) hY rfl hR' (h.ext u₂) (by omega) eL hys hls.1 (by omega) (by omega) fun σ₃ x TB' h₃ s₃ u₃ hf=>zx ?_))))
 cases q:srch v.gl nm l with
 | none=>
  rw [q] at hf
  have hx:x = .none:=hf
  subst hx
  refine ze (zJ (zj (zb rfl (zA (zN rfl (zd ⟨fun hb=>ze (zO (zA ?_)),fun hb=>?_⟩))))))
  ·have:=hQ l σ₃ TB' hl h₃ ((Step.ext u₂).trans s₃);rw [q] at this;exact this
  ·first | exact nb hb | exact nt hb | cases hb
 | some r=>
  refine zk fun zz=>?_
  obtain ⟨xa,pp⟩:=r
  rw [q] at hf
  obtain ⟨t,tq,rfl,ht⟩:=hf
  refine zz ?_;clear zz
  refine ze (zJ (zj (zb rfl (zA (zN rfl (zd ⟨fun hb=>?_,fun hb=>zy ?_⟩))))))
  ·first | exact nb hb | exact nt hb | cases hb
  refine ze (zO (zR (zb rfl (zD fun t8=>P_itemTup ht (by decide) (by decide) (x:=.ref xa) rfl ?_))))
  have:=hQ l σ₃ TB' hl h₃ ((Step.ext u₂).trans s₃);rw [q] at this;exact this
noncomputable def zT:Inv→Str
 | .txt x=>x
 | .nil=>""
 | .obj p=>p
theorem spec_can {A:Around}{n:Nat}(hA:A.frames=some c.fr) (hR:Rm A (n+8)) {a:Ad}{v:Sv}{cnt:Nat}{val want:Value}{inv:Inv}{nm:Str}{tn:Tok}{vl:Addr}{Q:Value→Loc→Map→Prop}
 (h:W prog w σ a v cnt) (hc:cnt≤880) (hi:InvAt σ val inv) (hvl:σ vl=some (.seq false [val,.str nm tn])) (hpk:zT inv≠""→zT inv∈P6) (hobj:∀ p,inv = .obj p→p≠"") (hnm:nm.length≤900)
 (hQ0:zT inv = ""→Q .none m σ)
 (hQ:∀ l σ' TB',zT inv≠""→zS v.par (zT inv) = .ok l→W prog w σ' a { v with TB:=TB' } (cnt+1)→Step a v σ { v with TB:=TB' } σ' →
  (srch v.gl nm l=none→Q .none m σ')∧∀ x p r σ'',srch v.gl nm l=some (x,p)→Ext σ' σ''→σ'' r=some (.inst 183 (refF (.ref x)))→Q (.ref r) m σ'')
 (hX:∀ q,zT inv≠""→zS v.par (zT inv) = .error q→∀ σ',Ext σ σ'→X (jd q) σ') :
 COK prog w G (zg G 336) c A (.ref 540) ⟨[.ref a.R,.ref vl,want],[]⟩ m σ Q X:=by
 have hY:Fly.Leaves prog w G (zg G 336):=jc
 refine zk fun zz=>?_
 obtain ⟨lm,a1,a2,a3,a4,a5,a6,a7,a8,a9,a10,a11,a12,eR⟩:=id h.run
 refine zz ?_;clear zz
 walk_at "fn"
 intro d hR'
 refine ze (zJ (zj (zv (zC (by k_is) (by boot_by_name) (by decide) (zt (za (zb rfl (zc (P_len hvl (by rw [sizeLine_eq];show 2≤_;omega) fun t1=>zD fun t2=>P_neInt (zd ⟨fun hb=>?_,fun hb=>zy ?_⟩))))))))))
 ·first | exact nb hb | exact nt hb | cases hb
 refine j8 (J:=fun m₁ σ₁=>A4 (σ₁=σ) (m₁ "run" = some (.ref a.R)) (m₁ "values" = some (.ref vl)) (m₁ "value" = some val)) ?_ ?_
 ·refine zu (zv (zh (by k_is) (zf (by kernel_rfl) (za (zR (zb rfl (zD fun t1=>kh hvl (by decide) (by decide) (x:=val) rfl (zc (COK.call ?_)))))))))
  cases inv with
  | nil=>have e:val = .none:=hi;subst e;exact spec_valueNone (n:=n+6) hY rfl hR' (zx ⟨rfl,rfl,rfl,rfl,rfl⟩)
  | txt x=>obtain ⟨t,rfl⟩:=hi;exact spec_valueStr (n:=n+6) hY rfl hR' (zx ⟨rfl,rfl,rfl,rfl,rfl⟩)
  | obj p=>obtain ⟨r,ar,l,tp,rfl,er,ea⟩:=hi;exact spec_valueRef (n:=n+6) hY rfl hR' er (zx ⟨rfl,rfl,rfl,rfl,rfl⟩)
 rintro m₁ σ₁ ⟨rfl,e1,e2,e3⟩
 refine j8 (J:=fun m₂ σ₂=>A4 (σ₂=σ₁) (m₂ "run" = some (.ref a.R)) (m₂ "values" = some (.ref vl)) (∃ tp,m₂ "package" = some (.str (zT inv) tp))) ?_ ?_
 ·cases inv with
  | nil=>
   have e:val = .none:=hi
   subst e
   refine zJ (ja (zv (zC (by k_is) (by boot_by_name) (by decide) (zt (za (zb (by exact e3) (za (zh (by k_is) (zc (P_isiNone (by kernel_rfl) (zd ⟨fun hb=>(by first | exact nb hb | exact nt hb | cases hb),fun hb=>?_⟩)))))))))))
   exact ze (zu (zv (zh (by k_is) (zf (by kernel_rfl) (za (zb (by exact e3) (zc (COK.call (spec_textNone (n:=n+6) hY rfl hR' fun t=>zx (zy ⟨rfl,rfl,e1,e2,t,rfl⟩))))))))))
  | txt x=>
   obtain ⟨t,rfl⟩:=hi
   refine zJ (ja (zv (zC (by k_is) (by boot_by_name) (by decide) (zt (za (zb (by exact e3) (za (zh (by k_is) (zc (jT (by kernel_rfl) (zd ⟨fun hb=>(by first | exact nb hb | exact nt hb | cases hb),fun hb=>?_⟩)))))))))))
   exact ze (zu (zv (zh (by k_is) (zf (by kernel_rfl) (za (zb (by exact e3) (zc (COK.call (jC (n:=n+6) hY rfl hR' (zx (zy ⟨rfl,rfl,e1,e2,t,rfl⟩)))))))))))
  | obj p=>
   refine zk fun zz=>?_
   obtain ⟨r,ar,l,tp,rfl,er,n1,t1,k1,t2,wk,ea⟩:=hi
   refine zz ?_;clear zz
   refine zJ (ja (zv (zC (by k_is) (by boot_by_name) (by decide) (zt (za (zb (by exact e3) (za (zh (by k_is) (zc (P_isiYes er (by kernel_rfl) (zd ⟨fun hb=>?_,fun hb=>(by first | exact nb hb | exact nt hb | cases hb)⟩)))))))))))
   exact ze (zu (zB (zB (zb (by exact e3) (zw er (by kernel_rfl) rfl rfl (zw ea (by kernel_rfl) rfl rfl (zx (zy ⟨rfl,rfl,e1,e2,tp,rfl⟩))))))))
 rintro m₂ σ₂ ⟨rfl,e4,e5,tp,e6⟩
 refine ze (zJ (P_testOr (zj (zb (by exact e6) (zA (zN rfl (zd ⟨fun hb=>(by first | exact nb hb | exact nt hb | cases hb),fun hb=>P_testOr (zj (zb (by exact e6) (zo fun t1=>jK (zd ⟨fun hb2=>⟨fun _=>ze (zO (zA (hQ0 (eq_of_beq hb2)))),fun z=>(by first | exact nb z | exact nt z | cases z)⟩,fun hb2=>P_testOrNil ⟨fun z=>(by first | exact nb z | exact nt z | cases z),fun _=>zy ?_⟩⟩))))⟩)))))))
 have hne:zT inv≠"":=fun z=>by rw [z] at hb2;cases hb2
 refine ze (zu (zv (zh (by k_is) (zf (by kernel_rfl) (za (zB (zb (by exact e4) (zw eR (by kernel_rfl) rfl rfl (za (zB (zb (by exact e4) (zw eR (by kernel_rfl) rfl rfl (za (zb (by exact e6) (za ?_)))))))))))))))
 refine zv (zh (by k_is) (zf (by kernel_rfl) (za (zv (zh (by k_is) (zf (by kernel_rfl) (za (zR (zb (by exact e5) (zD fun t2=>kh hvl (by decide) (by decide) (x:=.str nm tn) rfl (zc (COK.call (spec_valueStr (n:=n+6) hY rfl hR' (zc (COK.call (jC (n:=n+6) hY rfl hR' ?_))))))))))))))))
 refine zc (COK.call (spec_findMethod (n:=n+1) rfl hR' h hc (hpk hne) hnm (fun l σ' TB' hl h₁ s₁=>zx ?_) fun q hq σ' u=>hX q hne hq σ' u))
 obtain ⟨k1,k2⟩:=hQ l σ' TB' hne hl h₁ s₁
 cases q:srch v.gl nm l with
 | none=>exact ze (zJ (zj (zb rfl (zA (zN rfl (zd ⟨fun hb=>ze (zO (zA (k1 q))),fun hb=>(by first | exact nb hb | exact nt hb | cases hb)⟩))))))
 | some r=>
  obtain ⟨x,p⟩:=r
  refine ze (zJ (zj (zb rfl (zA (zN rfl (zd ⟨fun hb=>(by first | exact nb hb | exact nt hb | cases hb),fun hb=>zy ?_⟩))))))
  refine ze (zO (zv (zh (by k_is) (zf (by kernel_rfl) (za (zb rfl (zc (P_make (fI:=180) (by kernel_rfl) fun r h0=>spec_Ref (n:=n+5) hY rfl (Rm.under (n:=n+6) hR') Map.set_self fun σ₂ u₂ hr=>⟨rfl,?_⟩))))))))
  refine k2 x p r σ₂ q (fun b ao hb _=>u₂ b ao ?_ ?_) hr
  ·exact Map.set_new h0 hb
  ·exact zm hb h0
end
section
variable {c:Cx}{X:Str→Map→Prop}{m:Loc}{σ τ:Map}
theorem spec_derived {A:Around}{n:Nat}(hA:A.frames=some c.fr) (hR:Rm A (n+6)) {a:Ad}{v:Sv}{cnt:Nat}{val:Value}{inv:Inv}{k:Str}{tk:Tok}{Q:Value→Loc→Map→Prop}
 (h:W prog w σ a v cnt) (hc:cnt≤880) (hi:InvAt σ val inv) (hpk:zT inv≠""→zT inv∈P6) (hobj:∀ p,inv = .obj p→p≠"") (hk:(("ARRAY" : Str) == k)=false)
 (hQ0:zT inv = ""→∀ σ',Ext σ σ'→Q (.bool false) m σ')
 (hQ:∀ l σ',zT inv≠""→zS v.par (zT inv) = .ok l→Ext σ σ'→Q (.bool (l.any fun x=>x == k)) m σ')
 (hX:∀ q,zT inv≠""→zS v.par (zT inv) = .error q→∀ σ',Ext σ σ'→X (jd q) σ') :
 COK prog w G (zg G 336) c A (.ref 526) ⟨[.ref a.S,val,.str k tk],[]⟩ m σ Q X:=by
 have hY:Fly.Leaves prog w G (zg G 336):=jc
 walk_at "fn"
 intro d hR'
 cases inv with
 | nil=>
  have e:val = .none:=hi
  subst e
  refine ze (zJ (ja (zv (zC (by k_is) (by boot_by_name) (by decide) (zt (za (zb rfl (za (zh (by k_is) (zc (P_isiNone (by kernel_rfl) (zd ⟨fun hb=>(by first | exact nb hb | exact nt hb | cases hb),fun hb=>zy ?_⟩))))))))))))
  refine ze (zu (zv (zh (by k_is) (zf (by kernel_rfl) (za (zb rfl (zc (COK.call (spec_textNone (n:=n+4) hY rfl hR' fun t=>zx ?_)))))))))
  refine ze (zO (P_boolAnd (P_cmp (zb rfl (zo fun t1=>P_neStr (zd ⟨fun hb=>(by first | exact nb hb | exact nt hb | cases hb),fun hb=>hQ0 rfl _ Upd.refl⟩))))))
 | txt x=>
  obtain ⟨t,rfl⟩:=hi
  refine ze (zJ (ja (zv (zC (by k_is) (by boot_by_name) (by decide) (zt (za (zb rfl (za (zh (by k_is) (zc (jT (by kernel_rfl) (zd ⟨fun hb=>(by first | exact nb hb | exact nt hb | cases hb),fun hb=>zy ?_⟩))))))))))))
  refine ze (zu (zv (zh (by k_is) (zf (by kernel_rfl) (za (zb rfl (zc (COK.call (jC (n:=n+4) hY rfl hR' (zx ?_))))))))))
  refine ze (zO (P_boolAnd (P_cmp (zb rfl (zo fun t1=>P_neStr (zd ⟨fun hb=>P_boolOne ?_,fun hb=>?_⟩))))))
  ·have hne:x≠"":=by simpa using hb
   refine P_cmp (zb rfl (zv (zh (by k_is) (zf (by kernel_rfl) (za (zb rfl (za (zb rfl (zc (COK.call ?_))))))))))
   exact spec_whole (n:=n) rfl hR' h.stash h.par (h.parOk (by omega)) (hpk hne) (fun l hl σ₂ La ys u₂ hLa eL hys=>P_inStrs eL hys (hQ l σ₂ hne hl u₂)) fun q hq σ' u=>hX q hne hq σ' u
  ·have he:x = "":=by simpa using hb
   have:=hQ0 he σ Upd.refl
   have e2:(x != "")=false:=hb
   rw [e2];exact this
 | obj p=>
  refine zk fun zz=>?_
  obtain ⟨r,ar,l,tp,rfl,er,n1,t1,k1,t2,wk,ea⟩:=hi
  refine zz ?_;clear zz
  have hne:p≠"":=hobj p rfl
  refine ze (zJ (ja (zv (zC (by k_is) (by boot_by_name) (by decide) (zt (za (zb rfl (za (zh (by k_is) (zc (P_isiYes er (by kernel_rfl) (zd ⟨fun hb=>?_,fun hb=>(by first | exact nb hb | exact nt hb | cases hb)⟩))))))))))))
  refine ze (zJ (zj (zv (zh (by k_is) (zf (by kernel_rfl) (za (zB (zb rfl (zw er (by kernel_rfl) rfl rfl (zc (COK.call (spec_wordArray (n:=n+4) hY rfl hR' ea fun t=>zb rfl (jK (zd ⟨fun hb=>?_,fun hb=>zy ?_⟩))))))))))))))
  ·rw [hk] at hb;cases hb
  refine ze (zJ (zj (zB (zB (zb rfl (zw er (by kernel_rfl) rfl rfl (zw ea (by kernel_rfl) rfl rfl (zA (zN rfl (zd ⟨fun hb=>(by first | exact nb hb | exact nt hb | cases hb),fun hb=>zy ?_⟩))))))))))
  refine ze (zO (P_cmp (zb rfl (zv (zh (by k_is) (zf (by kernel_rfl) (za (zb rfl (za (zB (zB (zb rfl (zw er (by kernel_rfl) rfl rfl (zw ea (by kernel_rfl) rfl rfl (zc (COK.call
   (spec_whole (n:=n) rfl hR' h.stash h.par (h.parOk (by omega)) (hpk hne) (fun l hl σ₂ La ys u₂ hLa eL hys=>P_inStrs eL hys (hQ l σ₂ hne hl u₂)) fun q hq σ' u=>hX q hne hq σ' u)))))))))))))))))
theorem spec_isa {A:Around}{n:Nat}(hA:A.frames=some c.fr) (hR:Rm A (n+7)) {a:Ad}{v:Sv}{cnt:Nat}{val want:Value}{inv:Inv}{k:Str}{tk:Tok}{vl:Addr}{Q:Value→Loc→Map→Prop}
 (h:W prog w σ a v cnt) (hc:cnt≤880) (hi:InvAt σ val inv) (hvl:σ vl=some (.seq false [val,.str k tk])) (hpk:zT inv≠""→zT inv∈P6) (hobj:∀ p,inv = .obj p→p≠"") (hk:(("ARRAY" : Str) == k)=false)
 (hQ0:zT inv = ""→∀ σ' t,Ext σ σ'→Q (.str "" t) m σ')
 (hQ:∀ l σ',zT inv≠""→zS v.par (zT inv) = .ok l→Ext σ σ'→(k∈l→∀ t,Q (.int 1 t) m σ')∧(k∉l→∀ t,Q (.str "" t) m σ'))
 (hX:∀ q,zT inv≠""→zS v.par (zT inv) = .error q→∀ σ',Ext σ σ'→X (jd q) σ') :
 COK prog w G (zg G 336) c A (.ref 533) ⟨[.ref a.R,.ref vl,want],[]⟩ m σ Q X:=by
 have hY:Fly.Leaves prog w G (zg G 336):=jc
 refine zk fun zz=>?_
 obtain ⟨lm,a1,a2,a3,a4,a5,a6,a7,a8,a9,a10,a11,a12,eR⟩:=id h.run
 refine zz ?_;clear zz
 walk_at "fn"
 intro d hR'
 refine ze (zJ (zj (zv (zC (by k_is) (by boot_by_name) (by decide) (zt (za (zb rfl (zc (P_len hvl (by rw [sizeLine_eq];show 2≤_;omega) fun t1=>zD fun t2=>P_neInt (zd ⟨fun hb=>(by first | exact nb hb | exact nt hb | cases hb),fun hb=>zy ?_⟩))))))))))
 have fin:∀ {b:Bool} {σ':Map} {c':Cx} {A':Around} {m':Loc} {Q':Value→Loc→Map→Prop} {X':Str→Map→Prop},A'.frames=some c'.fr→Rm A' (n+6)→(b=true→∀ t,Q' (.int 1 t) m' σ')→(b=false→∀ t,Q' (.str "" t) m' σ') →
  COK prog w G (zg G 336) c' A' (.ref 299) ⟨[.bool b],[]⟩ m' σ' Q' X':=fun h1 h2 h3 h4=>spec_truth (n:=n+5) hY h1 h2 h3 h4
 refine ze (zO (zv (zh (by k_is) (zf (by kernel_rfl) (za (zv (zh (by k_is) (zf (by kernel_rfl) (za (zB (zb rfl (zw eR (by kernel_rfl) rfl rfl (za (zv (zh (by k_is) (zf (by kernel_rfl) (za (zR (zb rfl (zD fun t3=>kh hvl (by decide) (by decide) (x:=val) rfl (zc (COK.call ?_))))))))))))))))))))))
 have go:∀ {Q':Value→Loc→Map→Prop} {c':Cx} {A':Around} {m':Loc} {X':Str→Map→Prop},A'.frames=some c'.fr→Rm A' (n+6)→Q' val m' σ→COK prog w G (zg G 336) c' A' (.ref 278) ⟨[val],[]⟩ m' σ Q' X':=fun h1 h2 h3=>by
  cases inv with
  | nil=>have e:val = .none:=hi;subst e;exact spec_valueNone (n:=n+5) hY h1 h2 h3
  | txt x=>obtain ⟨t,rfl⟩:=hi;exact spec_valueStr (n:=n+5) hY h1 h2 h3
  | obj p=>obtain ⟨r,ar,l,tp,rfl,er,ea⟩:=hi;exact spec_valueRef (n:=n+5) hY h1 h2 er h3
 refine go rfl hR' ?_
 refine za (zv (zh (by k_is) (zf (by kernel_rfl) (za (zv (zh (by k_is) (zf (by kernel_rfl) (za (zR (zb rfl (zD fun t4=>kh hvl (by decide) (by decide) (x:=.str k tk) rfl (zc (COK.call (spec_valueStr (n:=n+5) hY rfl hR' (zc (COK.call (jC (n:=n+5) hY rfl hR' ?_)))))))))))))))))
 refine zc (COK.call (spec_derived (n:=n) rfl hR' h hc hi hpk hobj hk (fun e σ' u=>zc (COK.call (fin rfl hR' (fun z=>(by first | exact nb z | exact nt z | cases z)) fun _ t=>hQ0 e σ' t u))) (fun l σ' hne hl u=>zc (COK.call (fin rfl hR' (fun z t=>(hQ l σ' hne hl u).1 (any_beq.mp z) t) fun z t=>(hQ l σ' hne hl u).2 (fun y=>by rw [any_beq.mpr y] at z;cases z) t))) hX))
end
section
variable {c:Cx}{X:Str→Map→Prop}{m:Loc}{σ τ:Map}
structure IsaAt (prog':Program) (w':World) (σ:Map) (B:Addr→Prop) (BK IS:Addr) (par:Str→List Str):Prop where
 b:∃ kvs,σ BK=some (.raw (sdP prog w BK kvs))∧valueAt kvs "isa" = some (.ref IS)
 i:∃ kvs,σ IS=some (.raw (sdP prog w IS kvs))∧∀ p,match valueAt kvs p with
  | none=>par p=[]
  | some x=>∃ l ys,x = .ref l∧σ l=some (.seq false ys)∧StrsAre ys (par p)∧¬ B l
 nb:¬ B BK∧¬ B IS
theorem IsaAt.upd {B:Addr→Prop}{BK IS:Addr}{par:Str→List Str}{σ':Map}(h:IsaAt prog w σ B BK IS par) (u:Upd B σ σ'):IsaAt prog w σ' B BK IS par:=by
 refine zk fun zz=>?_
 obtain ⟨⟨kb,b1,b2⟩,⟨ki,i1,i2⟩,n1,n2⟩:=h
 refine zz ?_;clear zz
 refine ⟨⟨kb,u.get b1 n1,b2⟩,⟨ki,u.get i1 n2,fun p=>?_⟩,n1,n2⟩
 have:=i2 p
 cases q:valueAt ki p with
 | none=>rw [q] at this;exact this
 | some x=>rw [q] at this;obtain ⟨l,ys,e1,e2,e3,e4⟩:=this;exact ⟨l,ys,e1,u.get e2 e4,e3,e4⟩
theorem IsaAt.new {BK IS SL:Addr}{par:Str→List Str}{ao:AO}(h:IsaAt prog w σ (fun _=>False) BK IS par) (h0:σ SL=none):IsaAt prog w (σ.set SL ao) (fun b=>b=SL) BK IS par:=by
 refine zk fun zz=>?_
 obtain ⟨⟨kb,b1,b2⟩,⟨ki,i1,i2⟩,n1,n2⟩:=h
 refine zz ?_;clear zz
 refine ⟨⟨kb,Map.set_new h0 b1,b2⟩,⟨ki,Map.set_new h0 i1,fun p=>?_⟩,zm b1 h0,zm i1 h0⟩
 have:=i2 p
 cases q:valueAt ki p with
 | none=>rw [q] at this;exact this
 | some x=>rw [q] at this;obtain ⟨l,ys,e1,e2,e3,e4⟩:=this;exact ⟨l,ys,e1,Map.set_new h0 e2,e3,zm e2 h0⟩
theorem spec_below {par:Str→List Str}(hp:ParOk par P6):∀ (n:Nat) {c:Cx}{A:Around}{m:Loc}{σ:Map}{X:Str→Map→Prop}(hY:Fly.Leaves prog w G (zg G 336)) (hA:A.frames=some c.fr) (hR:Rm A (n+1)) {BK IS SL:Addr}{p:Str}{tp:Tok}{sv:List Value}{seen:List Str}{Q:Value→Loc→Map→Prop}
 (hI:IsaAt prog w σ (fun b=>b=SL) BK IS par) (hs:σ SL=some (.seq false sv)) (hsv:StrsAre sv seen) (hpU:p∈P6) (hsU:∀ x∈seen,x∈P6) (hnd:seen.Nodup) (hleft:left P6 seen < n)
 (hQ:∀ σ' D lv sv' t,bl par n p seen=seen ++ t→Upd (fun b=>b=SL) σ σ'→σ' SL=some (.seq false sv')→StrsAre sv' (seen ++ t)→σ D=none→σ' D=some (.seq false lv)→StrsAre lv t→Q (.ref D) m σ'),
 COK prog w G (zg G 336) c A (.ref 722) ⟨[.ref BK,.str p tp,.ref SL],[]⟩ m σ Q X:=by
 intro n
 induction n with
 | zero=>intro c A m σ X hY hA hR BK IS SL p tp sv seen Q hI hs hsv hpU hsU hnd hleft;omega
 | succ n ih=>
  intro c A m σ X hY hA hR BK IS SL p tp sv seen Q hI hs hsv hpU hsU hnd hleft hQ
  refine zk fun zz=>?_
  obtain ⟨⟨kb,b1,b2⟩,⟨ki,i1,i2⟩,n1,n2⟩:=id hI
  refine zz ?_;clear zz
  have hsl:seen.length≤6:=jI hnd hsU
  walk_at "fn"
  intro d hR'
  refine ze (zJ (zj (zb rfl (zb rfl (P_inStrs hs hsv (zd ⟨fun hb=>?_,fun hb=>zy ?_⟩))))))
  ·have hm:p∈seen:=any_beq.mp hb
   refine ze (zO (z9 (zc (zF fun D h0=>hQ _ D [] sv [] ?_ (Upd.refl.set_new h0) (Map.set_new h0 hs) (by rw [List.append_nil];exact hsv) h0 Map.set_self .nil))))
   (first | rw [bl_s] | rw [bl_0])
   rw [if_pos hm,List.append_nil]
  ·have hm:p∉seen:=fun z=>by rw [any_beq.mpr z] at hb;cases hb
   have hbl:bl par (n+1) p seen=(par p).foldl (fun s x=>bl par n x s) (seen ++ [p]):=by
    (first | rw [bl_s] | rw [bl_0])
    rw [if_neg hm]
   have hlt:=left_lt (U:=P6) hpU hm
   refine ze (jt (zI (zb rfl (jg hs slot_list_append (by kernel_rfl) (zt (za (zb rfl (zc (jS hs (by rw [hsv.length,sizeLine_eq];omega) ?_)))))))))
   refine ze (zu (z9 (za (zb rfl (zc (zF (fun La hLa=>zx ?_) (lek rfl)))))))
   have dLS:La≠SL:=fun z=>by rw [z,Map.set_self] at hLa;cases hLa
   have sLa:σ La=none:=by rwa [Map.set_ne dLS] at hLa
   have u₁:Upd (fun b=>b=SL) σ ((σ.set SL (.seq false (sv ++ [.str p tp]))).set La (.seq false [.str p tp])):=Upd.set_new (Upd.set_in Upd.refl rfl) hLa
   have hI₁:=hI.upd u₁
   have eb₁:=u₁.get b1 n1
   have ei₁:=u₁.get i1 n2
   have eS₁:((σ.set SL (.seq false (sv ++ [.str p tp]))).set La (.seq false [.str p tp])) SL=some (.seq false (sv ++ [.str p tp])):=Map.set_other Map.set_self dLS.symm
   have hsv₁:StrsAre (sv ++ [.str p tp]) (seen ++ [p]):=StrsAre.snoc hsv
   refine ze (P_for hR'.2.2 (zI (zR (zb rfl (zo fun t1=>jk eb₁ b2 (P_getMethD ei₁ (zt (za (zb rfl (za (z9 (zc (zF fun Ea hEa=>zc (P_get2 (Map.set_new hEa ei₁) ?_))))))))))))))
   have dEL:Ea≠La:=fun z=>by rw [z,Map.set_self] at hEa;cases hEa
   have dES:Ea≠SL:=fun z=>by rw [z,eS₁] at hEa;cases hEa
   have sEa:σ Ea=none:=by rwa [Map.set_ne dEL,Map.set_ne dES] at hEa
   have u₂:=Upd.set_new (ao:=.seq false []) u₁ hEa
   have hlst:∃ lst ys,(valueAt ki p).getD (.ref Ea) = .ref lst∧(((σ.set SL (.seq false (sv ++ [.str p tp]))).set La (.seq false [.str p tp])).set Ea (.seq false [])) lst=some (.seq false ys)∧StrsAre ys (par p)∧lst≠SL∧lst≠La:=by
    have:=i2 p
    cases q:valueAt ki p with
    | none=>rw [q] at this;exact ⟨Ea,[],rfl,Map.set_self,by rw [this];exact .nil,dES,dEL⟩
    | some x=>
     rw [q] at this
     refine zk fun zz=>?_
     obtain ⟨l,ys,e1,e2,e3,e4⟩:=this
     refine zz ?_;clear zz
     exact ⟨l,ys,e1,u₂.get e2 e4,e3,e4,fun z=>by rw [z,sLa] at e2;cases e2⟩
   refine zk fun zz=>?_
   obtain ⟨lst,ys,ev,el,hys,dlS,dlL⟩:=hlst
   refine zz ?_;clear zz
   rw [ev]
   refine ⟨ys.length,fun i v=>ys[i]? = some v,fun ρ=>ρ lst=some (.seq false ys),fun i m' σ'=>A7 (m' "book" = some (.ref BK)) (m' "seen" = some (.ref SL)) (m' "line" = some (.ref La)) (i≤ys.length) (σ' lst=some (.seq false ys)) (Upd (fun b=>b=SL) σ σ') (X3 fun u sv' lv'=>A5 (((par p).take i).foldl (fun s x=>bl par n x s) (seen ++ [p])=seen ++ [p] ++ u) (σ' SL=some (.seq false sv')) (StrsAre sv' (seen ++ [p] ++ u)) (σ' La=some (.seq false lv')) (StrsAre lv' ([p] ++ u))),Iterable.list,?_,?_,?_,?_⟩
   ·exact fun i m' σ' τ' ⟨_,_,_,_,h,_,_⟩=>Map.or_some h
   ·exact ⟨rfl,rfl,rfl,Nat.zero_le _,el,u₂,[],_,_,by rw [List.append_nil];rfl,Map.set_other eS₁ dES.symm,by rw [List.append_nil];exact hsv₁,Map.set_other Map.set_self dEL.symm,.cons _ _ .nil⟩
   ·rintro i v m' σ' hi hv ⟨e1,e2,e3,_,e4,u,us,sv',lv',e5,e6,e7,e8,e9⟩
    have hip:i < (par p).length:=by rw [← hys.length];exact hi
    obtain ⟨t,ht⟩:=hys.get i (par p)[i] (by simp [hip])
    have:v = .str (par p)[i] t:=by rw [ht] at hv;exact (Option.some.inj hv).symm
    subst this
    have hqU:(par p)[i]∈P6:=hp.hU p _ (List.getElem_mem hip)
    have hpre:bl par n (par p)[i] (seen ++ [p] ++ us)=((par p).take (i+1)).foldl (fun s x=>bl par n x s) (seen ++ [p]):=by
     rw [List.take_add_one,List.foldl_append,e5];simp [hip]
    have hnd':(seen ++ [p] ++ us).Nodup:=by
     rw [← e5]
     have key:∀ (r l:List Str),l.Nodup→(r.foldl (fun s x=>bl par n x s) l).Nodup:=by
      intro r
      induction r with
      | nil=>intro l h;exact h
      | cons z r ihr=>intro l hl;rw [List.foldl_cons];exact ihr _ (bl_nodup hl)
     exact key _ _ (List.nodup_append.mpr ⟨hnd,by simp,fun x hx y hy=>by simp only [List.mem_singleton] at hy;exact fun z=>hm (by rw [← hy,← z];exact hx)⟩)
    have hsU':∀ x∈seen ++ [p] ++ us,x∈P6:=by
     rw [← e5]
     have key:∀ (r l:List Str),(∀ x∈r,x∈P6)→(∀ x∈l,x∈P6)→∀ x∈r.foldl (fun s x=>bl par n x s) l,x∈P6:=by
      intro r
      induction r with
      | nil=>intro l _ h;exact h
      | cons z r ihr=>
       intro l hr hl
       rw [List.foldl_cons]
       refine ihr _ (fun x hx=>hr x (.tail _ hx)) fun x hx=>?_
       rcases bl_mem.2.2 x hx with h | h
       ·exact hl x h
       ·have hz:=hr z (.head _)
        clear hx ihr
        induction h with
        | refl=>exact hz
        | tail _ hc _=>exact hp.hU _ _ hc
     refine key _ _ (fun x hx=>hp.hU p _ (List.mem_of_mem_take hx)) fun x hx=>?_
     rcases List.mem_append.mp hx with hx | hx
     ·exact hsU x hx
     ·simp only [List.mem_singleton] at hx;rw [hx];exact hpU
    have hl':left P6 (seen ++ [p] ++ us) < n:=Nat.lt_of_le_of_lt (left_mono fun x hx=>List.mem_append_left _ hx) (by omega)
    refine ze (P_augName (P_loadName (by exact e3) (zv (zh (by k_is) (zf (by kernel_rfl) (za (zb (by exact e1) (za (zb rfl (za (zb (by exact e2) (zc (COK.call (ih hY rfl hR' (hI.upd u) e6 e7 hqU hsU' hnd' hl' fun σ₃ D lv₃ sv₃ t₃ k1 u₃ k2 k3 k4 k5 k6=>?_))))))))))))))
    have dDL:D≠La:=fun z=>by rw [z,e8] at k4;cases k4
    have dDl:D≠lst:=fun z=>by rw [z,e4] at k4;cases k4
    have eL₃:=u₃.get e8 dLS
    have l2:=jI hnd' hsU'
    have l3:lv'.length≤6:=by rw [e9.length];simp only [List.length_append] at l2 ⊢;have h6:P6.length=6:=rfl;omega
    have l4:lv₃.length≤6:=by
     have hn:=bl_nodup (par:=par) (n:=n) (q:=(par p)[i]) hnd'
     have hs2:∀ x∈bl par n (par p)[i] (seen ++ [p] ++ us),x∈P6:=fun x hx=>by
      rcases bl_mem.2.2 x hx with h | h
      ·exact hsU' x h
      ·induction h with
       | refl=>exact hqU
       | tail _ hc _=>exact hp.hU _ _ hc
     have:=jI hn hs2
     rw [k1] at this
     rw [k6.length]
     simp only [List.length_append] at this ⊢
     have h6:P6.length=6:=rfl
     omega
    refine P_iaddList eL₃ k5 (by omega) (zx (zy ⟨by exact e1,by exact e2,rfl,hi,?_,?_,us ++ t₃,sv₃,_,?_,Map.set_other k2 dLS.symm,by rw [← List.append_assoc];exact k3,Map.set_self,?_⟩))
    ·exact Map.set_other (u₃.get e4 dlS) dlL
    ·exact (u.trans u₃).set_loc sLa
    ·rw [← hpre,k1,List.append_assoc (seen ++ [p])]
    ·have app:∀ {a b:List Value} {x y:List Str},StrsAre a x→StrsAre b y→StrsAre (a ++ b) (x ++ y):=fun ha hb=>by
      induction ha with
      | nil=>exact hb
      | cons x t _ ih=>exact .cons _ _ ih
     have:=app e9 k6
     rwa [List.append_assoc] at this
   ·rintro m' σ' ⟨e1,e2,e3,_,e4,u,us,sv',lv',e5,e6,e7,e8,e9⟩
    rw [List.take_of_length_le (by rw [hys.length];exact Nat.le_refl _)] at e5
    refine zy (ze (zO (zb (by exact e3) (hQ σ' La lv' sv' ([p] ++ us) ?_ u e6 (by rw [← List.append_assoc];exact e7) sLa e8 e9))))
    rw [hbl,e5,List.append_assoc]
end
section
variable {c:Cx}{X:Str→Map→Prop}{m:Loc}{σ τ:Map}
theorem jj {a:Addr}{ao:AO}{σ':Map}(h:σ a=none) (u:Upd (fun b=>b=a) (σ.set a ao) σ'):Ext σ σ':=fun b bo hb _=>u b bo (Map.set_new h hb) (zm hb h)
theorem left0:left P6 ([]:List Str) < 7:=by
 have:left P6 ([]:List Str)≤P6.length:=List.length_filter_le _ _
 have h6:P6.length=6:=rfl
 omega
theorem IsaAt.ext {BK IS:Addr}{par:Str→List Str}{σ':Map}(h:IsaAt prog w σ (fun _=>False) BK IS par) (u:Ext σ σ'):IsaAt prog w σ' (fun _=>False) BK IS par:=h.upd u
end
namespace spec_rings
noncomputable def S₀ (c:Cx) (m:Loc) (σ:Map) (X:Str→Map→Prop) (A:Around) (n:Nat) (par:Str→List Str) (BK:Addr) (IS:Addr) (p:Str) (tp:Tok) (Q:Value→Loc→Map→Prop):Prop:=∀ (hY:Fly.Leaves prog w G (zg G 336)) (hA:A.frames=some c.fr) (hR:Rm A (n+9)) (hp:ParOk par P6) (hI:IsaAt prog w σ (fun _=>False) BK IS par) (hpU:p∈P6) (hQ:∀ σ',Ext σ σ'→Q (.bool (rings par 7 p)) m σ'),COK prog w G (zg G 336) c A (.ref 729) ⟨[.ref BK,.str p tp],[]⟩ m σ Q X
noncomputable def e₀:Cx × Loc × Map × (Str→Map→Prop) × Around × Nat × (Str→List Str) × Addr × Addr × Str × Tok × (Value→Loc→Map→Prop):=@Classical.epsilon _ ⟨(dCx,default,default,default,callerA,default,default,default,default,default,default,default)⟩ fun x=>¬ S₀ x.1 x.2.1 x.2.2.1 x.2.2.2.1 x.2.2.2.2.1 x.2.2.2.2.2.1 x.2.2.2.2.2.2.1 x.2.2.2.2.2.2.2.1 x.2.2.2.2.2.2.2.2.1 x.2.2.2.2.2.2.2.2.2.1 x.2.2.2.2.2.2.2.2.2.2.1 x.2.2.2.2.2.2.2.2.2.2.2
@[irreducible] noncomputable def c:Cx:=e₀.1
@[irreducible] noncomputable def m:Loc:=e₀.2.1
@[irreducible] noncomputable def σ:Map:=e₀.2.2.1
@[irreducible] noncomputable def X:Str→Map→Prop:=e₀.2.2.2.1
@[irreducible] noncomputable def A:Around:=e₀.2.2.2.2.1
@[irreducible] noncomputable def n:Nat:=e₀.2.2.2.2.2.1
@[irreducible] noncomputable def par:Str→List Str:=e₀.2.2.2.2.2.2.1
@[irreducible] noncomputable def BK:Addr:=e₀.2.2.2.2.2.2.2.1
@[irreducible] noncomputable def IS:Addr:=e₀.2.2.2.2.2.2.2.2.1
@[irreducible] noncomputable def p:Str:=e₀.2.2.2.2.2.2.2.2.2.1
@[irreducible] noncomputable def tp:Tok:=e₀.2.2.2.2.2.2.2.2.2.2.1
@[irreducible] noncomputable def Q:Value→Loc→Map→Prop:=e₀.2.2.2.2.2.2.2.2.2.2.2
theorem here:S₀ c m σ X A n par BK IS p tp Q:=by
 intro hY hA hR hp hI hpU hQ
 show COK prog w G (zg G 336) c A (.ref 729) ⟨[.ref BK,.str p tp],[]⟩ m σ Q X
 walk_at "fn"
 refine eps (n:=⟨dDyn⟩) _ ?_
 intro hR'
 refine ze (zu (zv (zh (by k_is) (zf (by kernel_rfl) (za (zb rfl (za (zb rfl (za (z9 (zc (zF fun SL hSL=>zc (COK.call (spec_below hp 7 hY rfl (hR'.le (by omega)) (hI.new hSL) Map.set_self .nil hpU (fun x hx=>nomatch hx) List.nodup_nil left0
  fun σ₁ D lv sv' t k1 u₁ k2 k3 k4 k5 k6=>zx ?_))))))))))))))
 have v₁:Ext σ σ₁:=jj hSL u₁
 rw [List.nil_append] at k1
 have htU:∀ x∈t,x∈P6:=by rw [← k1];exact bl_sub hp hpU
 refine ze (P_for hR'.2.2 (zb rfl ⟨lv.length,fun i v=>lv[i]? = some v,fun ρ=>ρ D=some (.seq false lv),fun i m' σ'=>A5 (m' "book" = some (.ref BK)) (Ext σ σ') (σ' D=some (.seq false lv)) (i≤lv.length) (∀ x∈t.take i,((par x).any fun q=>decide (x∈bl par 7 q []))=false),Iterable.list,?_,?_,?_,?_⟩))
 ·exact fun i m' σ' τ' ⟨_,_,h,_,_⟩=>Map.or_some h
 ·exact ⟨rfl,v₁,k5,Nat.zero_le _,fun x hx=>nomatch hx⟩
 ·rintro i v m' σ' hi hv ⟨e1,u,e2,_,e3⟩
  have hit:i < t.length:=by rw [← k6.length];exact hi
  obtain ⟨tt,ht⟩:=k6.get i t[i] (by simp [hit])
  have:v = .str t[i] tt:=by rw [ht] at hv;exact (Option.some.inj hv).symm
  subst this
  obtain ⟨one,hone⟩:∃ one,one=t[i]:=⟨_,rfl⟩
  rw [← hone]
  have hoU:one∈P6:=by rw [hone];exact htU _ (List.getElem_mem hit)
  have hI':=hI.ext u
  refine zk fun zz=>?_
  obtain ⟨⟨kb,b1,b2⟩,⟨ki,i1,i2⟩,_⟩:=id hI'
  refine zz ?_;clear zz
  refine ze (P_for hR'.2.2 (zI (zR (zb (by exact e1) (zo fun t1=>jk b1 b2 (P_getMethD i1 (zt (za (zb rfl (za (z9 (zc (zF fun Ea hEa=>zc (P_get2 (Map.set_new hEa i1) ?_))))))))))))))
  have hlst:∃ lst ys,(valueAt ki one).getD (.ref Ea) = .ref lst∧(σ'.set Ea (.seq false [])) lst=some (.seq false ys)∧StrsAre ys (par one):=by
   have:=i2 one
   cases q:valueAt ki one with
   | none=>rw [q] at this;exact ⟨Ea,[],rfl,Map.set_self,by rw [this];exact .nil⟩
   | some x=>
    rw [q] at this
    refine zk fun zz=>?_
    obtain ⟨l,ys,e1,e2,e3,e4⟩:=this
    refine zz ?_;clear zz
    exact ⟨l,ys,e1,Map.set_new hEa e2,e3⟩
  refine zk fun zz=>?_
  obtain ⟨lst,ys,ev,el,hys⟩:=hlst
  refine zz ?_;clear zz
  rw [ev]
  have u₂:Ext σ (σ'.set Ea (.seq false [])):=u.set_new hEa
  refine ⟨ys.length,fun i v=>ys[i]? = some v,fun ρ=>ρ lst=some (.seq false ys),fun j m₂ σ₂=>A7 (m₂ "book" = some (.ref BK)) ((∃ t,m₂ "one" = some (.str one t))) (Ext σ σ₂) (σ₂ lst=some (.seq false ys)) (σ₂ D=some (.seq false lv)) (j≤ys.length) (∀ q∈(par one).take j,one∉bl par 7 q []),Iterable.list,?_,?_,?_,?_⟩
  ·exact fun i m' σ' τ' ⟨_,_,_,h,_,_,_⟩=>Map.or_some h
  ·exact ⟨by exact e1,⟨tt,rfl⟩,u₂,el,Map.set_new hEa e2,Nat.zero_le _,fun q hq=>nomatch hq⟩
  ·rintro j v m₂ σ₂ hj hv ⟨f1,⟨to,f2⟩,f3,f4,f5,_,f6⟩
   have hjp:j < (par one).length:=by rw [← hys.length];exact hj
   obtain ⟨tq,htq⟩:=hys.get j (par one)[j] (by simp [hjp])
   have:v = .str (par one)[j] tq:=by rw [htq] at hv;exact (Option.some.inj hv).symm
   subst this
   refine ze (zJ (zj (zb (by exact f2) (zv (zh (by k_is) (zf (by kernel_rfl) (za (zb (by exact f1) (za (zb rfl (za (z9 (zc (zF fun SL hSL=>zc (COK.call (spec_below hp 7 hY rfl (hR'.le (by omega)) ((hI.ext f3).new hSL) Map.set_self .nil (hp.hU one _ (List.getElem_mem hjp)) (fun x hx=>nomatch hx) List.nodup_nil left0
    fun σ₃ D₃ lv₃ sv₃ t₃ g1 u₃ g2 g3 g4 g5 g6=>P_inStrs g5 g6 (zd ⟨fun hb=>?_,fun hb=>zy (zy ⟨by exact f1,⟨to,by exact f2⟩,f3.trans (jj hSL u₃),Ext.get (jj hSL u₃) f4,Ext.get (jj hSL u₃) f5,hj,fun q hq=>?_⟩)⟩)))))))))))))))))
   ·rw [List.nil_append] at g1
    have hm:one∈t₃:=any_beq.mp hb
    have:rings par 7 p=true:=by
     unfold rings
     rw [List.any_eq_true]
     refine ⟨one,by rw [k1,hone];exact List.getElem_mem hit,List.any_eq_true.mpr ⟨_,List.getElem_mem hjp,decide_eq_true (by rw [g1];exact hm)⟩⟩
    have hq:=hQ σ₃ (f3.trans (jj hSL u₃))
    rw [this] at hq
    exact ze (zO (P_boolC hq))
   ·rw [List.nil_append] at g1
    rw [List.take_add_one,List.mem_append] at hq
    rcases hq with hq | hq
    ·exact f6 q hq
    ·rw [List.getElem?_eq_getElem hjp] at hq
     simp only [Option.toList_some,List.mem_singleton] at hq
     rw [hq,g1]
     intro z
     rw [any_beq.mpr z] at hb;cases hb
  ·rintro m₂ σ₂ ⟨f1,_,f3,f4,f5,_,f6⟩
   rw [List.take_of_length_le (by rw [hys.length];exact Nat.le_refl _)] at f6
   refine zy (zy ⟨by exact f1,f3,f5,hi,fun x hx=>?_⟩)
   rw [List.take_add_one,List.mem_append] at hx
   rcases hx with hx | hx
   ·exact e3 x hx
   ·rw [List.getElem?_eq_getElem hit] at hx
    simp only [Option.toList_some,List.mem_singleton] at hx
    rw [hx,← hone,List.any_eq_false]
    intro q hq
    simpa using f6 q hq
 ·rintro m' σ' ⟨e1,u,e2,_,e3⟩
  rw [List.take_of_length_le (by rw [k6.length];exact Nat.le_refl _)] at e3
  have:rings par 7 p=false:=by
   unfold rings
   rw [k1,List.any_eq_false]
   intro x hx
   rw [e3 x hx];simp
  have hq:=hQ σ' u
  rw [this] at hq
  exact zy (ze (zO (P_boolC hq)))
end spec_rings
section
variable {c:Cx}{X:Str→Map→Prop}{m:Loc}{σ τ:Map}
theorem spec_rings {A:Around}{n:Nat}(hY:Fly.Leaves prog w G (zg G 336)) (hA:A.frames=some c.fr) (hR:Rm A (n+9)) {par:Str→List Str}(hp:ParOk par P6) {BK:Addr}{IS:Addr}{p:Str}{tp:Tok}{Q:Value→Loc→Map→Prop}(hI:IsaAt prog w σ (fun _=>False) BK IS par) (hpU:p∈P6) (hQ:∀ σ',Ext σ σ'→Q (.bool (rings par 7 p)) m σ'):COK prog w G (zg G 336) c A (.ref 729) ⟨[.ref BK,.str p tp],[]⟩ m σ Q X:=by with_unfolding_all exact eps (fun x:Cx × Loc × Map × (Str→Map→Prop) × Around × Nat × (Str→List Str) × Addr × Addr × Str × Tok × (Value→Loc→Map→Prop)=>spec_rings.S₀ x.1 x.2.1 x.2.2.1 x.2.2.2.1 x.2.2.2.2.1 x.2.2.2.2.2.1 x.2.2.2.2.2.2.1 x.2.2.2.2.2.2.2.1 x.2.2.2.2.2.2.2.2.1 x.2.2.2.2.2.2.2.2.2.1 x.2.2.2.2.2.2.2.2.2.2.1 x.2.2.2.2.2.2.2.2.2.2.2) spec_rings.here (c,m,σ,X,A,n,par,BK,IS,p,tp,Q) hY hA hR hp hI hpU hQ
end
section
variable {c:Cx}{X:Str→Map→Prop}{m:Loc}{σ τ:Map}
noncomputable def jn (par:Str→List Str) (p:Str):Option (List Str):=if rings par 7 p || rings par 7 "UNIVERSAL" then none else some (bl par 7 "UNIVERSAL" (bl par 7 p []))
theorem jy {par:Str→List Str}(hp:ParOk par P6) {p:Str}(h:p∈P6):match zS par p with | .ok l=>jn par p=some l | .error _=>jn par p=none:=by
 have s1:=lineOf_spec hp.hU h hp.hl
 have s2:=lineOf_spec hp.hU hp.huni hp.hl
 unfold zS jn
 cases q1:jX par 7 p with
 | error q=>
  rw [q1] at s1
  have s1':rings par 7 p=true:=s1
  rw [s1'];rfl
 | ok l1=>
  rw [q1] at s1
  obtain ⟨e1,r1⟩:=s1
  show match (match jX par 7 "UNIVERSAL" with | .error q=>Except.error q | .ok l₂=>Except.ok (l₂.foldl merge l1)) with | .ok l=>_ | .error _=>_
  cases q2:jX par 7 "UNIVERSAL" with
  | error q=>
   rw [q2] at s2
   have s2':rings par 7 "UNIVERSAL" = true:=s2
   rw [s2',r1];rfl
  | ok l2=>
   rw [q2] at s2
   obtain ⟨e2,r2⟩:=s2
   show (if (rings par 7 p || rings par 7 "UNIVERSAL")=true then none else some (bl par 7 "UNIVERSAL" (bl par 7 p [])))=some (l2.foldl merge l1)
   rw [r1,r2,bl_whole hp.hU h hp.hl,← e1,← e2]
   have hn:l2.Nodup:=by rw [e2];exact bl_nodup List.nodup_nil
   have:=merge_out (l:=l2) (s:=l1) hn fun _ _ _=>trivial
   rw [← this]
   rfl
theorem spec_lawLine {A:Around}{n:Nat}(hY:Fly.Leaves prog w G (zg G 336)) (hA:A.frames=some c.fr) (hR:Rm A (n+10)) {par:Str→List Str}(hp:ParOk par P6) {BK IS:Addr}{p:Str}{tp:Tok}{Q:Value→Loc→Map→Prop}
 (hI:IsaAt prog w σ (fun _=>False) BK IS par) (hpU:p∈P6)
 (hQ:∀ σ' v,Ext σ σ'→(match jn par p with | none=>v = .none | some l=>∃ D ys,v = .ref D∧σ D=none∧σ' D=some (.seq false ys)∧StrsAre ys l)→Q v m σ'):COK prog w G (zg G 336) c A (.ref 736) ⟨[.ref BK,.str p tp],[]⟩ m σ Q X:=by
 walk_at "fn"
 intro d hR'
 refine ze (zJ (P_testOr (ja (zv (zh (by k_is) (zf (by kernel_rfl) (za (zb rfl (za (zb rfl (zc (COK.call (spec_rings (n:=n) hY rfl hR' hp hI hpU fun σ₀ u₀=>zd ⟨fun hb=>⟨fun _=>ze (zO (zA (hQ σ₀ .none u₀ ?_))),fun z=>(by first | exact nb z | exact nt z | cases z)⟩,fun hb=>?_⟩)))))))))))))
 ·unfold jn;rw [hb];rfl
 refine P_testOr (ja (zv (zh (by k_is) (zf (by kernel_rfl) (za (zb rfl (za (zo fun t1=>zc (COK.call (spec_rings (n:=n) hY rfl hR' hp (hI.ext u₀) hp.huni fun σ₁ u₁'=>zd ⟨fun hb2=>⟨fun _=>ze (zO (zA (hQ σ₁ .none (u₀.trans u₁') ?_))),fun z=>(by first | exact nb z | exact nt z | cases z)⟩,fun hb2=>P_testOrNil ⟨fun z=>(by first | exact nb z | exact nt z | cases z),fun _=>zy ?_⟩⟩))))))))))
 ·unfold jn;rw [hb,hb2];rfl
 have e3:jn par p=some (bl par 7 "UNIVERSAL" (bl par 7 p [])):=by unfold jn;rw [hb,hb2];rfl
 have u₁:Ext σ σ₁:=u₀.trans u₁'
 refine ze (zu (z9 (zc (zF fun SL hSL=>zx ?_))))
 refine ze (zO (zG (zv (zh (by k_is) (zf (by kernel_rfl) (za (zb rfl (za (zb rfl (za (zb rfl (zc (COK.call (spec_below hp 7 hY rfl (hR'.le (by omega)) ((hI.ext u₁).new hSL) Map.set_self .nil hpU (fun x hx=>nomatch hx) List.nodup_nil left0
  fun σ₂ D lv sv' t k1 u₂ k2 k3 k4 k5 k6=>?_))))))))))))))
 rw [List.nil_append] at k1 k3
 have hI₂:=((hI.ext u₁).new (ao:=.seq false []) hSL).upd u₂
 have htU:∀ x∈t,x∈P6:=by rw [← k1];exact bl_sub hp hpU
 have htn:t.Nodup:=by rw [← k1];exact bl_nodup List.nodup_nil
 have hl:left P6 t < 7:=Nat.lt_of_le_of_lt (left_mono (s:=[]) (t:=t) fun x hx=>(by first | exact nb hx | exact nt hx | cases hx)) left0
 have dDS:D≠SL:=fun z=>by rw [z,Map.set_self] at k4;cases k4
 refine zv (zh (by k_is) (zf (by kernel_rfl) (za (zb rfl (za (zo fun t2=>za (zb rfl (zc (COK.call (spec_below hp 7 hY rfl (hR'.le (by omega)) hI₂ k2 k3 hp.huni htU htn hl fun σ₃ D₃ lv₃ sv₃ t₃ g1 u₃ g2 g3 g4 g5 g6=>?_))))))))))
 have hn2:=bl_nodup (par:=par) (n:=7) (q:=("UNIVERSAL" : Str)) htn
 have hs2:∀ x∈bl par 7 "UNIVERSAL" t,x∈P6:=fun x hx=>by
  rcases bl_mem.2.2 x hx with h | h
  ·exact htU x h
  ·induction h with
   | refl=>exact hp.huni
   | tail _ hc _=>exact hp.hU _ _ hc
 have l2:=jI hn2 hs2
 rw [g1,List.length_append] at l2
 have h6:P6.length=6:=rfl
 have e4:bl par 7 "UNIVERSAL" (bl par 7 p [])=t ++ t₃:=by rw [k1,g1]
 have v₂:Ext σ σ₂:=u₁.trans (jj hSL u₂)
 have sSL:σ SL=none:=Ext.none_of u₁ hSL
 have v₃:Ext σ σ₃:=fun b ao hb _=>u₃ b ao (v₂.get hb) (zm hb sSL)
 refine P_addLists (u₃.get k5 dDS) g5 (by rw [k6.length,g6.length,sizeLine_eq];omega) fun E hE=>hQ _ _ (v₃.set_new hE) ?_
 rw [e3,e4]
 have app:∀ {a b:List Value} {x y:List Str},StrsAre a x→StrsAre b y→StrsAre (a ++ b) (x ++ y):=fun ha hb=>by
  induction ha with
  | nil=>exact hb
  | cons x t _ ih=>exact .cons _ _ ih
 exact ⟨E,_,rfl,Ext.none_of v₃ hE,Map.set_self,app k6 g6⟩
structure SubsAt (prog':Program) (w':World) (σ:Map) (BK SB:Addr) (sb:Str→Str→Option Int) (cnt:Nat):Prop where
 b:∃ kvs,σ BK=some (.raw (sdP prog w BK kvs))∧valueAt kvs "subs" = some (.ref SB)
 T:∃ xs,TD (jZ prog w) σ SB xs∧xs.length≤cnt∧∀ p n,match atKey xs [p,n] with
  | none=>sb p n=none
  | some q=>∃ k t,q.2 = .int k t∧sb p n=some k
theorem SubsAt.upd {F:Addr→Prop}{BK SB:Addr}{sb:Str→Str→Option Int}{cnt:Nat}{σ':Map}(h:SubsAt prog w σ BK SB sb cnt) (u:Upd F σ σ') (h1:¬ F BK) (h2:¬ F SB) (h3:∀ b ys,σ b=some (.seq true ys)→¬ F b):SubsAt prog w σ' BK SB sb cnt:=by
 refine zk fun zz=>?_
 obtain ⟨⟨kb,b1,b2⟩,xs,t1,t2,t3⟩:=h
 refine zz ?_;clear zz
 exact ⟨⟨kb,u.get b1 h1,b2⟩,xs,t1.keeps (u.get t1.1 h2) fun b ys hb=>u.get hb (h3 b ys hb),t2,t3⟩
noncomputable def jv (sb:Str→Str→Option Int) (name:Str):List Str→Option Str
 | []=>none
 | p :: ps=>if (sb p name).isSome then some p else jv sb name ps
theorem lfirst_c {sb:Str→Str→Option Int}{name p:Str}{ps:List Str}:jv sb name (p :: ps)=if (sb p name).isSome then some p else jv sb name ps:=rfl
noncomputable def optS:Option Str→Tok→Value
 | none,_=>.none
 | some p,t=>.str p t
theorem spec_lawFirst {A:Around}{n:Nat}(hY:Fly.Leaves prog w G (zg G 336)) (hA:A.frames=some c.fr) (hR:Rm A (n+2)) {BK SB D:Addr}{sb:Str→Str→Option Int}{cnt:Nat}{name:Str}{tn:Tok}{ys:List Value}{ps:List Str}{Q:Value→Loc→Map→Prop}
 (hS:SubsAt prog w σ BK SB sb cnt) (hD:σ D=some (.seq false ys)) (hys:StrsAre ys ps)
 (hQ:∀ σ' t,Ext σ σ'→Q (optS (jv sb name ps) t) m σ'):COK prog w G (zg G 336) c A (.ref 743) ⟨[.ref BK,.ref D,.str name tn],[]⟩ m σ Q X:=by
 walk_at "fn"
 intro d hR'
 refine ze (P_for hR'.2.2 (zb rfl ⟨ys.length,fun i v=>ys[i]? = some v,fun ρ=>ρ D=some (.seq false ys),
  fun i m' σ'=>A4 (m' "book" = some (.ref BK)) (m' "name" = some (.str name tn)) (Ext σ σ') (jv sb name ps=jv sb name (ps.drop i)),Iterable.list,?_,?_,?_,?_⟩))
 ·exact fun i m' σ' τ' ⟨_,_,u,_⟩=>Map.or_some (u.get hD)
 ·exact ⟨rfl,rfl,Upd.refl,rfl⟩
 ·rintro i v m' σ' hi hv ⟨e1,e2,u,e3⟩
  have hip:i < ps.length:=by rw [← hys.length];exact hi
  obtain ⟨t,ht⟩:=hys.get i ps[i] (by simp [hip])
  have:v = .str ps[i] t:=by rw [ht] at hv;exact (Option.some.inj hv).symm
  subst this
  have hS':=hS.upd u id id fun _ _ _=>id
  refine zk fun zz=>?_
  obtain ⟨⟨kb,b1,b2⟩,xs,t1,t2,t3⟩:=id hS'
  refine zz ?_;clear zz
  rw [List.drop_eq_getElem_cons hip] at e3
  refine ze (zJ (zj (z0 (za (zb rfl (za (zb (by exact e2) (zc (zL (fun ka hka=>?_) (lek rfl))))))))))
  refine zR (zb (by exact e1) (zo fun t4=>jk (Map.set_new hka b1) b2
   (P_inT (t1.keeps (Map.set_new hka t1.1) fun b zs hb=>Map.set_new hka hb) (roomT (hR'.le (by omega:1≤n+1))) (k:=[ps[i],name]) ⟨_,Map.set_self,.cons _ _ (.cons _ _ .nil)⟩ (zd ⟨fun hb=>?_,fun hb=>zy (zy ⟨by exact e1,by exact e2,u.set_new hka,?_⟩)⟩))))
  ·have h3:=t3 ps[i] name
   cases q:atKey xs [ps[i],name] with
   | none=>rw [q] at hb;cases hb
   | some r=>
    rw [q] at h3
    refine zk fun zz=>?_
    obtain ⟨k,tk,_,hk⟩:=h3
    refine zz ?_;clear zz
    have:=hQ (σ'.set ka (.seq true [.str ps[i] t,.str name tn])) t (u.set_new hka)
    rw [e3] at this
    rw [lfirst_c] at this
    rw [hk] at this
    exact ze (zO (zb rfl this))
  ·have h3:=t3 ps[i] name
   cases q:atKey xs [ps[i],name] with
   | some r=>rw [q] at hb;cases hb
   | none=>
    rw [q] at h3
    rw [e3]
    rw [lfirst_c]
    have h3':sb ps[i] name=none:=h3
    rw [h3']
    rfl
 ·rintro m' σ' ⟨e1,e2,u,e3⟩
  rw [List.drop_of_length_le (by rw [hys.length];exact Nat.le_refl _)] at e3
  have:=hQ σ' 0 u
  rw [e3] at this
  exact zy (ze (zO (zA this)))
end
section
variable {c:Cx}{X:Str→Map→Prop}{m:Loc}{σ τ:Map}
structure NamedAt (prog':Program) (w':World) (σ:Map) (BK NM:Addr) (nm:List Str):Prop where
 b:∃ kvs,σ BK=some (.raw (sdP prog w BK kvs))∧valueAt kvs "named" = some (.ref NM)
 n:∃ ys,σ NM=some (.seq false ys)∧StrsAre ys nm
theorem NamedAt.upd {F:Addr→Prop}{BK NM:Addr}{nm:List Str}{σ':Map}(h:NamedAt prog w σ BK NM nm) (u:Upd F σ σ') (h1:¬ F BK) (h2:¬ F NM):NamedAt prog w σ' BK NM nm:=by
 refine zk fun zz=>?_
 obtain ⟨⟨kb,b1,b2⟩,ys,e1,e2⟩:=h
 refine zz ?_;clear zz
 exact ⟨⟨kb,u.get b1 h1,b2⟩,ys,u.get e1 h2,e2⟩
noncomputable def j7 (p one:Str):Bool:=one == p || inPkg p one
noncomputable def kd (nm:List Str) (p:Str):Bool:=nm.any (j7 p)
end
namespace spec_lawMissing
noncomputable def S₀ (c:Cx) (m:Loc) (σ:Map) (X:Str→Map→Prop) (A:Around) (n:Nat) (BK:Addr) (NM:Addr) (nm:List Str) (p:Str) (name:Str) (tp:Tok) (tn:Tok) (Q:Value→Loc→Map→Prop):Prop:=∀ (hY:Fly.Leaves prog w G (zg G 336)) (hA:A.frames=some c.fr) (hR:Rm A (n+1)) (hN:NamedAt prog w σ BK NM nm) (hnU:∀ x∈nm,x∈P6) (hnl:nm.length≤1000) (hp:p.length≤1000) (hname:name.length≤1000) (hQ:∀ σ' t,Ext σ σ'→Q (.str (zY p name (kd nm p)) t) m σ'),COK prog w G (zg G 336) c A (.ref 748) ⟨[.ref BK,.str p tp,.str name tn],[]⟩ m σ Q X
noncomputable def e₀:Cx × Loc × Map × (Str→Map→Prop) × Around × Nat × Addr × Addr × (List Str) × Str × Str × Tok × Tok × (Value→Loc→Map→Prop):=@Classical.epsilon _ ⟨(dCx,default,default,default,callerA,default,default,default,default,default,default,default,default,default)⟩ fun x=>¬ S₀ x.1 x.2.1 x.2.2.1 x.2.2.2.1 x.2.2.2.2.1 x.2.2.2.2.2.1 x.2.2.2.2.2.2.1 x.2.2.2.2.2.2.2.1 x.2.2.2.2.2.2.2.2.1 x.2.2.2.2.2.2.2.2.2.1 x.2.2.2.2.2.2.2.2.2.2.1 x.2.2.2.2.2.2.2.2.2.2.2.1 x.2.2.2.2.2.2.2.2.2.2.2.2.1 x.2.2.2.2.2.2.2.2.2.2.2.2.2
@[irreducible] noncomputable def c:Cx:=e₀.1
@[irreducible] noncomputable def m:Loc:=e₀.2.1
@[irreducible] noncomputable def σ:Map:=e₀.2.2.1
@[irreducible] noncomputable def X:Str→Map→Prop:=e₀.2.2.2.1
@[irreducible] noncomputable def A:Around:=e₀.2.2.2.2.1
@[irreducible] noncomputable def n:Nat:=e₀.2.2.2.2.2.1
@[irreducible] noncomputable def BK:Addr:=e₀.2.2.2.2.2.2.1
@[irreducible] noncomputable def NM:Addr:=e₀.2.2.2.2.2.2.2.1
@[irreducible] noncomputable def nm:List Str:=e₀.2.2.2.2.2.2.2.2.1
@[irreducible] noncomputable def p:Str:=e₀.2.2.2.2.2.2.2.2.2.1
@[irreducible] noncomputable def name:Str:=e₀.2.2.2.2.2.2.2.2.2.2.1
@[irreducible] noncomputable def tp:Tok:=e₀.2.2.2.2.2.2.2.2.2.2.2.1
@[irreducible] noncomputable def tn:Tok:=e₀.2.2.2.2.2.2.2.2.2.2.2.2.1
@[irreducible] noncomputable def Q:Value→Loc→Map→Prop:=e₀.2.2.2.2.2.2.2.2.2.2.2.2.2
theorem here:S₀ c m σ X A n BK NM nm p name tp tn Q:=by
 intro hY hA hR hN hnU hnl hp hname hQ
 show COK prog w G (zg G 336) c A (.ref 748) ⟨[.ref BK,.str p tp,.str name tn],[]⟩ m σ Q X
 refine C_fnCR (by assumption) (by assumption) (by assumption) (by k_is) (by k_is) (by exact fun s _=>BindsTo.of_eq rfl) (by exact kinds3 fun k=>⟨.inl rfl,.inr ⟨rfl,rfl⟩,.inl rfl,trivial⟩) (by decide) (by rfl) (by rfl) (by rfl) ?_
 intro d hR' hfr hap
 have h0:σ (d.L+1)=none:=hfr (("package" : Str),d.L+1) (.head _)
 refine zk fun zz=>?_
 obtain ⟨⟨kb,b1,b2⟩,ys,e1,hys⟩:=id hN
 refine zz ?_;clear zz
 have l0:∀ x:Str,(("Can't locate object method \"" : Str) ++ x).length=28+x.length:=fun x=>zP _ _
 have l1:(("Can't locate object method \"" : Str) ++ name ++ ("\" via package \"" : Str)).length=28+name.length+15:=by rw [zP,zP];rfl
 have l2:(("Can't locate object method \"" : Str) ++ name ++ ("\" via package \"" : Str) ++ p).length=28+name.length+15+p.length:=by rw [zP,l1]
 have l3:(zZ p name).length=28+name.length+15+p.length+1:=by unfold zZ;rw [zP,l2];rfl
 have l4:(zZ p name ++ (" (perhaps you forgot to load \"" : Str)).length=28+name.length+15+p.length+1+30:=by rw [zP,l3];rfl
 have l5:(zZ p name ++ (" (perhaps you forgot to load \"" : Str) ++ p).length=28+name.length+15+p.length+1+30+p.length:=by rw [zP,l4]
 have hcell:(σ.set (d.L+1) (.raw (zU (some (.str p tp))))) (d.L+1)=some (.raw (zU (some (.str p tp)))):=Map.set_self
 have hv:Ext σ (σ.set (d.L+1) (.raw (zU (some (.str p tp))))):=Upd.refl.set_new h0
 show POK _ _ _ _ _ _ _ (σ.set (d.L+1) (.raw (zU (some (.str p tp))))) _ _
 refine ze (zu (zG (zG (zG (zG (zo fun t1=>zb rfl (zH (by rw [sizeLine_eq];show 28+_≤_;omega) fun t2=>zo fun t3=>zH (by rw [l0,sizeLine_eq];show _+15≤_;omega) fun t4=>jw (by rfl) hcell (zH (by rw [l1,sizeLine_eq];omega) fun t5=>zo fun t6=>
  zH (by rw [l2,sizeLine_eq];show _+1≤_;omega) fun t7=>zx ?_))))))))
 refine ze (P_assignComp hR'.2.2 (cl:=[(("package" : Str),d.L+1)]) (by rfl) (by rfl) (by decide) (by decide) (by rfl) (zR (zb rfl (zo fun t8=>jk (hv.get b1) b2
  ⟨ys.length,fun i v=>ys[i]? = some v,fun ρ=>ρ NM=some (.seq false ys),fun i zs σ'=>σ'=σ.set (d.L+1) (.raw (zU (some (.str p tp))))∧zs.length≤i∧zs.isEmpty=!(nm.take i).any (j7 p),Iterable.list,by rw [hys.length,sizeLine_eq];omega,?_,?_,?_,?_,?_⟩))))
 ·rintro i zs σ' τ' ⟨rfl,_,_⟩;exact Map.or_some (hv.get e1)
 ·exact fun i zs σ' ⟨_,h,_⟩=>h
 ·exact ⟨rfl,Nat.le_refl _,rfl⟩
 ·rintro Cd i v zs m₁ σ₁ hi hv' ⟨rfl,hz,hk⟩ hm
  have hin:i < nm.length:=by rw [← hys.length];exact hi
  obtain ⟨t,ht⟩:=hys.get i nm[i] (by simp [hin])
  have:v = .str nm[i] t:=by rw [ht] at hv';exact (Option.some.inj hv').symm
  subst this
  have hnl':nm[i].length≤100:=(by decide:∀ p∈P6,p.length≤100) _ (hnU _ (List.getElem_mem hin))
  have step:(nm.take (i+1)).any (j7 p)=((nm.take i).any (j7 p) || j7 p nm[i]):=by
   rw [List.take_add_one,List.any_append];simp [hin]
  have yes:j7 p nm[i]=true→(zs ++ [Value.str nm[i] t]).isEmpty=!(nm.take (i+1)).any (j7 p):=fun h=>by rw [step,h];simp
  refine P_ifsOne (P_testOr (zj (zb hm (jw (by rfl) hcell (jK (zd ⟨fun hb=>⟨fun _=>zb hm ⟨rfl,by simp;omega,yes (by unfold j7;rw [hb];rfl)⟩,fun z=>(by first | exact nb z | exact nt z | cases z)⟩,fun hb=>?_⟩))))))
  refine P_testOr (zj (P_sliceTo (zb hm ⟨_,_,rfl,by rw [sizeLine_eq];omega,zG (zv (zC (by k_is) (by boot_by_name) (by decide) (zt (za (jw (by rfl) hcell (zc (P_lenStr (by rw [sizeLine_eq];omega) fun t1=>zD fun t2=>P_addInt fun t3=>⟨_,_,rfl,fun t4=>zG (jw (by rfl) hcell (zo fun t5=>zH (by rw [sizeLine_eq];show p.length+2≤_;omega) fun t6=>
   jK (zd ⟨fun hb2=>⟨fun _=>zb hm ⟨rfl,by simp;omega,yes (by unfold j7 inPkg;rw [hb2];simp)⟩,fun z=>(by first | exact nb z | exact nt z | cases z)⟩,fun hb2=>P_testOrNil ⟨fun z=>(by first | exact nb z | exact nt z | cases z),fun _=>⟨rfl,by omega,?_⟩⟩⟩)))⟩)))))))⟩)))
  have hno:j7 p nm[i]=false:=by unfold j7 inPkg;rw [hb,hb2];rfl
  rw [step,hno,Bool.or_false];exact hk
 ·rintro zs σ₁ D ⟨rfl,hz,hk⟩ hD
  rw [List.take_of_length_le (by rw [hys.length];exact Nat.le_refl _)] at hk
  refine ze (zO (jb (ja (zb rfl (P_truthyList Map.set_self (by rw [hys.length] at hz;rw [sizeLine_eq];omega) ⟨fun hb=>?_,fun hb=>?_⟩)))))
  ·have hkb:kd nm p=true:=by unfold kd;rw [hk] at hb;simpa using hb
   have:=hQ ((σ.set (d.L+1) (.raw (zU (some (.str p tp))))).set D (.seq false zs)) t7 (hv.set_new hD)
   rw [hkb] at this
   exact zb rfl this
  ·have hkb:kd nm p=false:=by unfold kd;rw [hk] at hb;simpa using hb
   refine zG (zG (zG (zb rfl (zo fun t9=>zH (by show (zZ p name).length+30≤_;rw [l3,sizeLine_eq];omega) fun t10=>jw (by rfl) (Map.set_new hD hcell) (zH (by show (zZ p name ++ _).length+_≤_;rw [l4,sizeLine_eq];omega) fun t11=>zo fun t12=>
    zH (by show (zZ p name ++ _ ++ p).length+3≤_;rw [l5,sizeLine_eq];omega) fun t13=>?_)))))
   have:=hQ ((σ.set (d.L+1) (.raw (zU (some (.str p tp))))).set D (.seq false zs)) t13 (hv.set_new hD)
   rw [hkb] at this
   exact this
end spec_lawMissing
section
variable {c:Cx}{X:Str→Map→Prop}{m:Loc}{σ τ:Map}
theorem spec_lawMissing {A:Around}{n:Nat}(hY:Fly.Leaves prog w G (zg G 336)) (hA:A.frames=some c.fr) (hR:Rm A (n+1)) {BK:Addr}{NM:Addr}{nm:List Str}{p:Str}{name:Str}{tp:Tok}{tn:Tok}{Q:Value→Loc→Map→Prop}(hN:NamedAt prog w σ BK NM nm) (hnU:∀ x∈nm,x∈P6) (hnl:nm.length≤1000) (hp:p.length≤1000) (hname:name.length≤1000) (hQ:∀ σ' t,Ext σ σ'→Q (.str (zY p name (kd nm p)) t) m σ'):COK prog w G (zg G 336) c A (.ref 748) ⟨[.ref BK,.str p tp,.str name tn],[]⟩ m σ Q X:=by with_unfolding_all exact eps (fun x:Cx × Loc × Map × (Str→Map→Prop) × Around × Nat × Addr × Addr × (List Str) × Str × Str × Tok × Tok × (Value→Loc→Map→Prop)=>spec_lawMissing.S₀ x.1 x.2.1 x.2.2.1 x.2.2.2.1 x.2.2.2.2.1 x.2.2.2.2.2.1 x.2.2.2.2.2.2.1 x.2.2.2.2.2.2.2.1 x.2.2.2.2.2.2.2.2.1 x.2.2.2.2.2.2.2.2.2.1 x.2.2.2.2.2.2.2.2.2.2.1 x.2.2.2.2.2.2.2.2.2.2.2.1 x.2.2.2.2.2.2.2.2.2.2.2.2.1 x.2.2.2.2.2.2.2.2.2.2.2.2.2) spec_lawMissing.here (c,m,σ,X,A,n,BK,NM,nm,p,name,tp,tn,Q) hY hA hR hN hnU hnl hp hname hQ
end
section
variable {c:Cx}{X:Str→Map→Prop}{m:Loc}{σ τ:Map}
theorem spec_lawNames {A:Around}{n:Nat}(hY:Fly.Leaves prog w G (zg G 336)) (hA:A.frames=some c.fr) (hR:Rm A (n+1)) {Q:Value→Loc→Map→Prop}
 (hQ:∀ D t1 t2 t3 t4 t5,σ D=none→Q (.ref D) m (σ.set D (.seq false [.str "m" t1,.str "n" t2,.str "AUTOLOAD" t3,.str "DESTROY" t4,.str "\x69mport" t5]))):COK prog w G (zg G 336) c A (.ref 708) ⟨[],[]⟩ m σ Q X:=by
 walk_at "fn"
 intro d hR'
 refine ze (zO (z9 (za (zo fun t1=>za (zo fun t2=>za (zo fun t3=>za (zo fun t4=>za (zo fun t5=>zc (zF (fun D h0=>hQ D t1 t2 t3 t4 t5 h0) (lek rfl))))))))))
structure SpotAt (σ:Map) (SC SP:Addr):Prop where
 s:∃ ys ns,σ SC=some (.seq false ys)∧IntsAre ys ns∧ys.length≤60
 p:∃ (k:Nat) (t:Tok),σ SP=some (.seq false [.int k t])
theorem SpotAt.upd {F:Addr→Prop}{SC SP:Addr}{σ':Map}(h:SpotAt σ SC SP) (u:Upd F σ σ') (h1:¬ F SC) (h2:¬ F SP):SpotAt σ' SC SP:=by
 refine zk fun zz=>?_
 obtain ⟨⟨ys,ns,e1,e2,e3⟩,k,t,e4⟩:=h
 refine zz ?_;clear zz
 exact ⟨⟨ys,ns,u.get e1 h1,e2,e3⟩,k,t,u.get e4 h2⟩
theorem ints_get {ys:List Value}{ns:List Int}{i:Nat}(h:IntsAre ys ns) (hi:i < ys.length):∃ k t,ys[i]? = some (.int k t):=by
 induction h generalizing i with
 | nil=>exact absurd hi (Nat.not_lt_zero _)
 | cons n t _ ih=>
  cases i with
  | zero=>exact ⟨n,t,rfl⟩
  | succ i=>exact ih (Nat.lt_of_succ_lt_succ hi)
theorem jf {A:Around}{n:Nat}(hY:Fly.Leaves prog w G (zg G 336)) (hA:A.frames=some c.fr) (hR:Rm A (n+1)) {SC SP:Addr}{lim:Int}{tl:Tok}{Q:Value→Loc→Map→Prop}
 (hS:SpotAt σ SC SP) (hne:SC≠SP) (hl:0 < lim)
 (hQ:∀ σ' (r:Nat) t,Upd (fun b=>b=SP) σ σ'→SpotAt σ' SC SP→(r:Int) < lim→Q (.int r t) m σ'):COK prog w G (zg G 336) c A (.ref 715) ⟨[.ref SC,.ref SP,.int lim tl],[]⟩ m σ Q X:=by
 refine zk fun zz=>?_
 obtain ⟨⟨ys,ns,e1,e2,e3⟩,k,t,e4⟩:=hS
 refine zz ?_;clear zz
 walk_at "fn"
 intro d hR'
 have hlne:¬ lim=0:=by omega
 refine ze (zu (zD fun t1=>zx ?_))
 refine j8 (J:=fun m₁ σ₁=>A4 (σ₁=σ) (m₁ "spot" = some (.ref SP)) (m₁ "limit" = some (.int lim tl)) (X2 fun q tq=>m₁ "n" = some (.int q tq))) ?_ ?_
 ·refine zJ (zj (zR (zb rfl (zD fun t2=>kh e4 (by decide) (by decide) rfl (zv (zC (by k_is) (by boot_by_name) (by decide) (zt (za (zb rfl (zc (P_len e1 (by rw [sizeLine_eq];omega) fun t3=>P_ltInt (zd ⟨fun hb=>?_,fun hb=>zy ⟨rfl,rfl,rfl,rfl,0,t1,rfl⟩⟩))))))))))))
  have hk:k < ys.length:=by simpa using hb
  refine zk fun zz=>?_
  obtain ⟨q,tq,hq⟩:=ints_get e2 hk
  refine zz ?_;clear zz
  refine ze (zu (zR (zb rfl (zR (zb rfl (zD fun t4=>kh e4 (by decide) (by decide) rfl (kh e1 (by omega) (by omega) (by simpa using hq) (zx (zy ⟨rfl,rfl,rfl,rfl,q,tq,rfl⟩)))))))))
 ·rintro m₁ σ₁ ⟨rfl,h1,h2,q,tq,h3⟩
  refine ze (P_augSub (zb (by exact h1) (zD fun t5=>P_getItem e4 (by decide) (by decide) rfl (zD fun t6=>P_iaddInt fun t7=>P_setItemInt e4 (.cons _ _ .nil) (by decide) (by simp) (by decide) ?_))))
  refine ze (zO (zG (zb (by exact h3) (zb (by exact h2) (P_modInt hlne fun t8=>?_)))))
  have h0:=Int.fmod_nonneg_of_pos q hl
  have hlt:=Int.fmod_lt_of_pos q hl
  have hr:((q.fmod lim).toNat:Int)=q.fmod lim:=Int.toNat_of_nonneg h0
  have:=hQ (σ₁.set SP (.seq false [.int ((k+1:Nat):Int) t7])) (q.fmod lim).toNat t8 (Upd.refl.set_in rfl) ⟨⟨ys,ns,by rw [Map.set_ne hne];exact e1,e2,e3⟩,k+1,t7,Map.set_self⟩ (by rw [hr];exact hlt)
  rw [hr] at this
  exact this
end
section
variable {c:Cx}{X:Str→Map→Prop}{m:Loc}{σ τ:Map}
structure ToldAt (prog':Program) (w':World) (σ:Map) (BK TL:Addr) (tl:Str→Option Str) (n:Nat):Prop where
 b:∃ kvs,σ BK=some (.raw (sdP prog w BK kvs))∧valueAt kvs "told" = some (.ref TL)
 t:∃ kvs,σ TL=some (.raw (sdP prog w TL kvs))∧kvs.length≤n∧∀ p,match valueAt kvs p with
  | none=>tl p=none
  | some x=>∃ y t,x = .str y t∧tl p=some y
theorem ToldAt.upd {F:Addr→Prop}{BK TL:Addr}{tl:Str→Option Str}{n:Nat}{σ':Map}(h:ToldAt prog w σ BK TL tl n) (u:Upd F σ σ') (h1:¬ F BK) (h2:¬ F TL):ToldAt prog w σ' BK TL tl n:=by
 refine zk fun zz=>?_
 obtain ⟨⟨kb,b1,b2⟩,kt,e1,e2⟩:=h
 refine zz ?_;clear zz
 exact ⟨⟨kb,u.get b1 h1,b2⟩,kt,u.get e1 h2,e2⟩
theorem ToldAt.put {BK TL:Addr}{tl:Str→Option Str}{n:Nat}{kt:List (Str × Value)}{p y:Str}{t:Tok}(hne:BK≠TL) (b:∃ kvs,σ BK=some (.raw (sdP prog w BK kvs))∧valueAt kvs "told" = some (.ref TL))
 (h1:kt.length≤n) (h2:∀ p,match valueAt kt p with | none=>tl p=none | some x=>∃ y t,x = .str y t∧tl p=some y) :
 ToldAt prog w (σ.set TL (.raw (sdP prog w TL (stored kt p (.str y t))))) BK TL (fun q=>if q=p then some y else tl q) (n+1):=by
 refine zk fun zz=>?_
 obtain ⟨kb,b1,b2⟩:=b
 refine zz ?_;clear zz
 refine ⟨⟨kb,(Map.set_ne hne).trans b1,b2⟩,_,Map.set_self,Nat.le_trans (stored_length_le kt p (.str y t)) (by omega),fun q=>?_⟩
 rw [je]
 by_cases e:q=p
 ·rw [if_pos e]
  exact ⟨y,t,rfl,if_pos e⟩
 ·rw [if_neg e]
  have:=h2 q
  cases z:valueAt kt q with
  | none=>rw [z] at this;show (if q=p then some y else tl q)=none;rw [if_neg e];exact this
  | some x=>
   rw [z] at this
   refine zk fun zz=>?_
   obtain ⟨y',t',e1,e2⟩:=this
   refine zz ?_;clear zz
   exact ⟨y',t',e1,by show (if q=p then some y else tl q)=some y';rw [if_neg e];exact e2⟩
theorem IsaAt.turn {B B':Addr→Prop}{BK IS:Addr}{par:Str→List Str}{σ':Map}(h:IsaAt prog w σ B BK IS par) (u:Upd B σ σ') (hB:∀ b ao,σ b=some ao→¬ B b→¬ B' b):IsaAt prog w σ' B' BK IS par:=by
 refine zk fun zz=>?_
 obtain ⟨⟨kb,b1,b2⟩,⟨ki,i1,i2⟩,n1,n2⟩:=h
 refine zz ?_;clear zz
 refine ⟨⟨kb,u.get b1 n1,b2⟩,⟨ki,u.get i1 n2,fun p=>?_⟩,hB _ _ b1 n1,hB _ _ i1 n2⟩
 have:=i2 p
 cases q:valueAt ki p with
 | none=>rw [q] at this;exact this
 | some x=>
  rw [q] at this
  refine zk fun zz=>?_
  obtain ⟨l,ys,e1,e2,e3,e4⟩:=this
  refine zz ?_;clear zz
  exact ⟨l,ys,e1,u.get e2 e4,e3,hB _ _ e2 e4⟩
theorem IsaAt.free {B:Addr→Prop}{BK IS:Addr}{par:Str→List Str}(h:IsaAt prog w σ B BK IS par):IsaAt prog w σ (fun _=>False) BK IS par:=h.turn Upd.refl (fun _ _ _ _=>id)
theorem SubsAt.le' {BK SB:Addr}{sb:Str→Str→Option Int}{n:Nat}(h:SubsAt prog w σ BK SB sb n):SubsAt prog w σ BK SB sb (n+1):=by obtain ⟨b,xs,h1,h2,h3⟩:=h;exact ⟨b,xs,h1,by omega,h3⟩
theorem ToldAt.le' {BK TL:Addr}{tl:Str→Option Str}{n:Nat}(h:ToldAt prog w σ BK TL tl n):ToldAt prog w σ BK TL tl (n+1):=by obtain ⟨b,xs,h1,h2,h3⟩:=h;exact ⟨b,xs,h1,by omega,h3⟩
theorem strs_snoc {ys:List Value}{ps:List Str}{p:Str}{t:Tok}(h:StrsAre ys ps):StrsAre (ys ++ [.str p t]) (ps ++ [p]):=by
 induction h with
 | nil=>exact .cons _ _ .nil
 | cons _ _ _ ih=>exact .cons _ _ ih
structure IslAt (prog':Program) (w':World) (σ:Map) (B:Addr→Prop) (IS:Addr) (par:Str→List Str) (n:Nat):Prop where
 i:∃ kvs,σ IS=some (.raw (sdP prog w IS kvs))∧kvs.length≤n∧∀ p,match valueAt kvs p with
  | none=>par p=[]
  | some x=>∃ l ys,x = .ref l∧σ l=some (.seq false ys)∧StrsAre ys (par p)∧¬ B l
theorem IslAt.turn {B B' F:Addr→Prop}{IS:Addr}{par:Str→List Str}{n:Nat}{σ':Map}(h:IslAt prog w σ B IS par n) (u:Upd F σ σ') (hI:¬ F IS) (h3:∀ l ys,σ l=some (.seq false ys)→¬ B l→¬ F l∧¬ B' l):IslAt prog w σ' B' IS par n:=by
 refine zk fun zz=>?_
 obtain ⟨ki,i1,i0,i2⟩:=h
 refine zz ?_;clear zz
 refine ⟨ki,u.get i1 hI,i0,fun p=>?_⟩
 have:=i2 p
 cases q:valueAt ki p with
 | none=>rw [q] at this;exact this
 | some x=>
  rw [q] at this
  refine zk fun zz=>?_
  obtain ⟨l,ys,e1,e2,e3,e4⟩:=this
  refine zz ?_;clear zz
  exact ⟨l,ys,e1,u.get e2 (h3 l ys e2 e4).1,e3,(h3 l ys e2 e4).2⟩
theorem IslAt.le {B:Addr→Prop}{IS:Addr}{par:Str→List Str}{n n':Nat}(h:IslAt prog w σ B IS par n) (hn:n≤n'):IslAt prog w σ B IS par n':=by obtain ⟨ki,i1,i0,i2⟩:=h.i;exact ⟨ki,i1,by omega,i2⟩
structure BookAt (prog':Program) (w':World) (σ:Map) (F:Addr→Prop) (BK IS SB TL NM:Addr) (par:Str→List Str) (sb:Str→Str→Option Int) (tl:Str→Option Str) (nm:List Str) (n:Nat):Prop where
 bk:∃ kvs,σ BK=some (.raw (sdP prog w BK kvs))∧valueAt kvs "isa" = some (.ref IS)∧valueAt kvs "subs" = some (.ref SB)∧valueAt kvs "told" = some (.ref TL)∧valueAt kvs "named" = some (.ref NM)∧kvs.length≤100
 isl:IslAt prog w σ (fun b=>F b∨b=NM) IS par n
 nb:¬ (F BK∨BK=NM)∧¬ (F IS∨IS=NM)
 subs:SubsAt prog w σ BK SB sb n
 told:ToldAt prog w σ BK TL tl n
 named:NamedAt prog w σ BK NM nm
 nmU:∀ x∈nm,x∈P5
 nmN:nm.length≤n
 sbU:∀ p n k,sb p n=some k→p∈P5
 out:¬ F SB∧¬ F TL∧¬ F NM
 ne:BK≠IS∧BK≠SB∧BK≠TL∧IS≠SB∧IS≠TL∧SB≠TL
 dom:∀ b,F b→∃ ao,σ b=some ao∧∀ ys,ao≠.seq true ys
theorem BookAt.isa {F:Addr→Prop}{BK IS SB TL NM:Addr}{par:Str→List Str}{sb:Str→Str→Option Int}{tl:Str→Option Str}{nm:List Str}{n:Nat}(h:BookAt prog w σ F BK IS SB TL NM par sb tl nm n):IsaAt prog w σ (fun b=>F b∨b=NM) BK IS par:=by
 refine zk fun zz=>?_
 obtain ⟨kb,b1,b2,_⟩:=h.bk
 obtain ⟨ki,i1,_,i2⟩:=h.isl
 refine zz ?_;clear zz
 exact ⟨⟨kb,b1,b2⟩,⟨ki,i1,i2⟩,h.nb⟩
theorem BookAt.tup {F:Addr→Prop}{BK IS SB TL NM:Addr}{par:Str→List Str}{sb:Str→Str→Option Int}{tl:Str→Option Str}{nm:List Str}{n:Nat}(h:BookAt prog w σ F BK IS SB TL NM par sb tl nm n) :
 ∀ b ys,σ b=some (.seq true ys)→¬ F b:=fun b ys hb z=>by
 refine zk fun zz=>?_
 obtain ⟨ao,e1,e2⟩:=h.dom b z
 refine zz ?_;clear zz
 rw [e1] at hb;exact e2 ys (Option.some.inj hb)
theorem BookAt.step {F F':Addr→Prop}{BK IS SB TL NM:Addr}{par:Str→List Str}{sb:Str→Str→Option Int}{tl:Str→Option Str}{nm:List Str}{n:Nat}{σ':Map}(h:BookAt prog w σ F BK IS SB TL NM par sb tl nm n) (u:Upd F σ σ')
 (hF:∀ b ao,σ b=some ao→¬ F b→¬ F' b) (ht:∀ b,F' b→∃ ao,σ' b=some ao∧∀ ys,ao≠.seq true ys):BookAt prog w σ' F' BK IS SB TL NM par sb tl nm n:=by
 refine zk fun zz=>?_
 obtain ⟨o1,o2,o3⟩:=h.out
 have n1:¬ F BK:=fun z=>h.nb.1 (.inl z)
 obtain ⟨_,⟨ki,eI,_⟩,_⟩:=id h.isa
 refine zz ?_;clear zz
 have hB:∀ b ao,σ b=some ao→¬ (F b∨b=NM)→¬ (F' b∨b=NM):=fun b ao hb hn z=>by
  rcases z with z | z
  ·exact hF b ao hb (fun q=>hn (.inl q)) z
  ·exact hn (.inr z)
 refine zk fun zz=>?_
 obtain ⟨kb,b1,b2⟩:=id h.bk
 obtain ⟨_,xs,⟨eS,_⟩,_⟩:=id h.subs
 obtain ⟨_,kt,eT,_⟩:=id h.told
 obtain ⟨_,ys,eN,_⟩:=id h.named
 refine zz ?_;clear zz
 exact ⟨⟨kb,u.get b1 n1,b2⟩,h.isl.turn u (fun z=>h.nb.2 (.inl z)) (fun l ys hl hn=>⟨fun z=>hn (.inl z),hB l _ hl hn⟩),⟨hB _ _ b1 h.nb.1,hB _ _ eI h.nb.2⟩,h.subs.upd u n1 o1 h.tup,h.told.upd u n1 o2,h.named.upd u n1 o3,h.nmU,h.nmN,h.sbU,⟨hF _ _ eS o1,hF _ _ eT o2,hF _ _ eN o3⟩,h.ne,ht⟩
theorem BookAt.ext {F:Addr→Prop}{BK IS SB TL NM:Addr}{par:Str→List Str}{sb:Str→Str→Option Int}{tl:Str→Option Str}{nm:List Str}{n:Nat}{σ':Map}(h:BookAt prog w σ F BK IS SB TL NM par sb tl nm n) (u:Ext σ σ') :
 BookAt prog w σ' F BK IS SB TL NM par sb tl nm n:=h.step (u.mono fun _ z=>z.elim) (fun _ _ _=>id) fun b hb=>(h.dom b hb).imp fun _ k=>⟨u.get k.1,k.2⟩
theorem BookAt.le {F:Addr→Prop}{BK IS SB TL NM:Addr}{par:Str→List Str}{sb:Str→Str→Option Int}{tl:Str→Option Str}{nm:List Str}{n n':Nat}(h:BookAt prog w σ F BK IS SB TL NM par sb tl nm n) (hn:n≤n'):BookAt prog w σ F BK IS SB TL NM par sb tl nm n':=
 { h with
   isl:=h.isl.le hn
   subs:=by obtain ⟨b,xs,h1,h2,h3⟩:=h.subs;exact ⟨b,xs,h1,by omega,h3⟩
   told:=by obtain ⟨b,xs,h1,h2,h3⟩:=h.told;exact ⟨b,xs,h1,by omega,h3⟩
   nmN:=Nat.le_trans h.nmN hn }
theorem jo {P:Obj→Prop}{b:Bool}{ys:List Value}{a a':Addr}{σ:Map}(h:σ a=some (.raw P)) (h':σ a'=some (.seq b ys)):a≠a':=fun z=>by rw [z,h'] at h;cases h
theorem BookAt.tell {F:Addr→Prop}{BK IS SB TL NM:Addr}{par:Str→List Str}{sb:Str→Str→Option Int}{tl:Str→Option Str}{nm:List Str}{n:Nat}(h:BookAt prog w σ F BK IS SB TL NM par sb tl nm n) {kt:List (Str × Value)}{p y:Str}{t:Tok}
 (h0:σ TL=some (.raw (sdP prog w TL kt))) (h1:kt.length≤n) (h2:∀ p,match valueAt kt p with | none=>tl p=none | some x=>∃ y t,x = .str y t∧tl p=some y) :
 BookAt prog w (σ.set TL (.raw (sdP prog w TL (stored kt p (.str y t))))) F BK IS SB TL NM par sb (fun q=>if q=p then some y else tl q) nm (n+1):=by
 refine zk fun zz=>?_
 obtain ⟨kb,b1,b2,b3,b4,b5,b6⟩:=id h.bk
 obtain ⟨n1,n2,n3,n4,n5,n6⟩:=h.ne
 obtain ⟨_,ys,eN,hN⟩:=id h.named
 refine zz ?_;clear zz
 have u:Upd (fun b=>b=TL) σ (σ.set TL (.raw (sdP prog w TL (stored kt p (.str y t))))):=Upd.refl.set_in rfl
 exact ⟨⟨kb,u.get b1 n3,b2,b3,b4,b5,b6⟩,(h.isl.turn u n5 (fun l ys hl hn=>⟨(jo h0 hl).symm,hn⟩)).le (Nat.le_succ _),h.nb,(h.subs.upd u n3 n6 fun b ys hb=>(jo h0 hb).symm).le',ToldAt.put n3 h.told.b h1 h2,h.named.upd u n3 (jo h0 eN).symm,h.nmU,Nat.le_succ_of_le h.nmN,h.sbU,h.out,h.ne,
  fun b hb=>(h.dom b hb).imp fun _ k=>⟨u.get k.1 (fun z=>h.out.2.1 (z ▸ hb)),k.2⟩⟩
theorem BookAt.name {F:Addr→Prop}{BK IS SB TL NM:Addr}{par:Str→List Str}{sb:Str→Str→Option Int}{tl:Str→Option Str}{nm:List Str}{n:Nat}(h:BookAt prog w σ F BK IS SB TL NM par sb tl nm n) {ys:List Value}{p:Str}{t:Tok}
 (h0:σ NM=some (.seq false ys)) (h1:StrsAre ys nm) (hp:p∈P5):BookAt prog w (σ.set NM (.seq false (ys ++ [.str p t]))) F BK IS SB TL NM par sb tl (nm ++ [p]) (n+1):=by
 refine zk fun zz=>?_
 obtain ⟨kb,b1,b2,b3,b4,b5,b6⟩:=id h.bk
 obtain ⟨_,kt,eT,hT⟩:=id h.told
 obtain ⟨_,xs,⟨eS,_⟩,_⟩:=id h.subs
 obtain ⟨_,⟨ki,eI,_⟩,_⟩:=id h.isa
 refine zz ?_;clear zz
 have u:Upd (fun b=>b=NM) σ (σ.set NM (.seq false (ys ++ [.str p t]))):=Upd.refl.set_in rfl
 have nB:=jo b1 h0
 refine ⟨⟨kb,u.get b1 nB,b2,b3,b4,b5,b6⟩,(h.isl.turn u (jo eI h0) (fun l ys hl hB=>⟨fun z=>hB (.inr z),hB⟩)).le (Nat.le_succ _),h.nb,(h.subs.upd u nB (jo eS h0) fun b ys hb z=>?_).le',(h.told.upd u nB (jo eT h0)).le',⟨⟨kb,u.get b1 nB,b5⟩,_,Map.set_self,strs_snoc h1⟩,
  fun x hx=>?_,by rw [List.length_append];exact Nat.succ_le_succ h.nmN,h.sbU,h.out,h.ne,fun b hb=>(h.dom b hb).imp fun _ k=>⟨u.get k.1 (fun z=>h.out.2.2 (z ▸ hb)),k.2⟩⟩
 ·rw [z,h0] at hb;cases hb
 ·rcases List.mem_append.mp hx with hx | hx
  ·exact h.nmU x hx
  ·rw [List.mem_singleton.mp hx];exact hp
end
section
variable {c:Cx}{X:Str→Map→Prop}{m:Loc}{σ τ:Map}
inductive Out where
 | die (x:Str)
 | code (k:Int)
noncomputable def OutAt (σ:Map) (v:Value):Out→Prop
 | .die x=>∃ a t t',v = .ref a∧σ a=some (.seq true [.str "die" t,.str x t'])
 | .code k=>∃ a t t',v = .ref a∧σ a=some (.seq true [.str "code" t,.int k t'])
noncomputable def jA (p name ab:Str):Str × Str:=
 if ab≠"" then (ab,name) else if Txt.slice name none (some 6) == "C::D::" then ("C::D",Txt.slice name (some 6) none) else if Txt.slice name none (some 3) == "B::" then ("B",Txt.slice name (some 3) none) else (p,name)
noncomputable def dueIn (sb:Str→Str→Option Int) (nm:List Str) (q last:Str) (l:List Str):Out × Option (Str × Str):=
 match jv sb last l with
 | some f=>(.code ((sb f last).getD 0),none)
 | none=>match jv sb "AUTOLOAD" l with
  | some f=>if last = "DESTROY"∨last = "\x69mport" then (if last = "\x69mport" then .code 0 else .die (zY q last (kd nm q)),none) else (.code ((sb f "AUTOLOAD").getD 0),some (f,q ++ "::" ++ last))
  | none=>(if last = "\x69mport" then .code 0 else .die (zY q last (kd nm q)),none)
noncomputable def dueLine (ab:Str) (l:List Str):List Str:=if ab≠"" then l.drop 1 else l
noncomputable def jU (par:Str→List Str) (sb:Str→Str→Option Int) (nm:List Str) (pk:Option Str) (name ab:Str):Out × Option (Str × Str):=
 match pk with
 | none=>(.die (("Can't call method \"" : Str) ++ name ++ ("\" on an undefined value" : Str)),none)
 | some p=>if p = "" then (.die (("Can't call method \"" : Str) ++ name ++ ("\" without a package or object reference" : Str)),none) else
  match jn par (jA p name ab).1 with
  | none=>(.die "ring",none)
  | some l=>dueIn sb nm (jA p name ab).1 (jA p name ab).2 (dueLine ab l)
noncomputable def tlD (tl:Str→Option Str):Option (Str × Str)→Str→Option Str
 | none=>tl
 | some (f,x)=>fun q=>if q=f then some x else tl q
noncomputable def nmD (nm:List Str):Option (Str × Str)→List Str
 | none=>nm
 | some (f,_)=>nm ++ [f]
theorem lfirst_some {sb:Str→Str→Option Int}{name:Str}{l:List Str}{f:Str}(h:jv sb name l=some f):∃ k,sb f name=some k:=by
 induction l with
 | nil=>exact nn h
 | cons p ps ih=>
  rw [lfirst_c] at h
  by_cases e:(sb p name).isSome=true
  ·rw [if_pos e] at h
   exact Option.some.inj h ▸ Option.isSome_iff_exists.mp e
  ·rw [if_neg e] at h
   exact ih h
theorem P_joinR {Q:Flow→Loc→Map→Prop}{st:Stmt}{rest:List Stmt}{J:Loc→Map→Prop}(h1:POK prog w G (zg G 336) c (exec st c.env) m σ (fun f m' σ'=>match f with | .next=>J m' σ' | f=>Q f m' σ') X)
 (h2:∀ m' σ',J m' σ'→POK prog w G (zg G 336) c (execs rest c.env) m' σ' Q X):POK prog w G (zg G 336) c (execs (st :: rest) c.env) m σ Q X:=
 ze (h1.mono (fun v m' σ' h=>by
  cases v with
  | next=>exact h2 m' σ' h
  | _=>exact h) fun _ _ x=>x)
theorem P5_P6 {x:Str}(h:x∈P5):x∈P6:=(by decide:∀ p∈P5,p∈P6) x h
theorem lawLine_len {par:Str→List Str}(hp:ParOk par P6) {q:Str}(hq:q∈P6) {l:List Str}(h:jn par q=some l):l.length≤100:=by
 have h1:=jy hp hq
 cases e:zS par q with
 | error z=>rw [e] at h1;rw [h] at h1;cases h1
 | ok l'=>
  rw [e] at h1
  have h2:l'=l:=Option.some.inj (h1.symm.trans h)
  have h3:=jE hp hq e
  have h4:=jI h3.2 h3.1
  have h5:P6.length=6:=rfl
  rw [← h2];omega
end
namespace spec_lawDue
noncomputable def S₀ (c:Cx) (m:Loc) (σ:Map) (X:Str→Map→Prop) (A:Around) (n:Nat) (F:Addr→Prop) (BK:Addr) (IS:Addr) (SB:Addr) (TL:Addr) (NM:Addr) (par:Str→List Str) (sb:Str→Str→Option Int) (tl:Str→Option Str) (nm:List Str) (name:Str) (tp:Tok) (tn:Tok) (ta:Tok) (Q:Value→Loc→Map→Prop):Prop:=∀ (hY:Fly.Leaves prog w G (zg G 336)) (hA:A.frames=some c.fr) (hR:Rm A (n+11)) {N:Nat} {pk:Option Str} {ab:Str} (hB:BookAt prog w σ F BK IS SB TL NM par sb tl nm N) (hp:ParOk par P6) (hN:N≤900) (hpU:∀ p,pk=some p→p≠""→(jA p name ab).1∈P6) (hname:name.length≤900) (hlast:∀ p,(jA p name ab).2.length≤900) (hQ:∀ σ' v,BookAt prog w σ' F BK IS SB TL NM par sb (tlD tl (jU par sb nm pk name ab).2) (nmD nm (jU par sb nm pk name ab).2) (N+2)→Upd (fun b=>b=TL∨b=NM) σ σ'→OutAt σ' v (jU par sb nm pk name ab).1→Q v m σ'),COK prog w G (zg G 336) c A (.ref 755) ⟨[.ref BK,optS pk tp,.str name tn,.str ab ta],[]⟩ m σ Q X
noncomputable def e₀:Cx × Loc × Map × (Str→Map→Prop) × Around × Nat × (Addr→Prop) × Addr × Addr × Addr × Addr × Addr × (Str→List Str) × (Str→Str→Option Int) × (Str→Option Str) × (List Str) × Str × Tok × Tok × Tok × (Value→Loc→Map→Prop):=@Classical.epsilon _ ⟨(dCx,default,default,default,callerA,default,default,default,default,default,default,default,default,default,default,default,default,default,default,default,default)⟩ fun x=>¬ S₀ x.1 x.2.1 x.2.2.1 x.2.2.2.1 x.2.2.2.2.1 x.2.2.2.2.2.1 x.2.2.2.2.2.2.1 x.2.2.2.2.2.2.2.1 x.2.2.2.2.2.2.2.2.1 x.2.2.2.2.2.2.2.2.2.1 x.2.2.2.2.2.2.2.2.2.2.1 x.2.2.2.2.2.2.2.2.2.2.2.1 x.2.2.2.2.2.2.2.2.2.2.2.2.1 x.2.2.2.2.2.2.2.2.2.2.2.2.2.1 x.2.2.2.2.2.2.2.2.2.2.2.2.2.2.1 x.2.2.2.2.2.2.2.2.2.2.2.2.2.2.2.1 x.2.2.2.2.2.2.2.2.2.2.2.2.2.2.2.2.1 x.2.2.2.2.2.2.2.2.2.2.2.2.2.2.2.2.2.1 x.2.2.2.2.2.2.2.2.2.2.2.2.2.2.2.2.2.2.1 x.2.2.2.2.2.2.2.2.2.2.2.2.2.2.2.2.2.2.2.1 x.2.2.2.2.2.2.2.2.2.2.2.2.2.2.2.2.2.2.2.2
@[irreducible] noncomputable def c:Cx:=e₀.1
@[irreducible] noncomputable def m:Loc:=e₀.2.1
@[irreducible] noncomputable def σ:Map:=e₀.2.2.1
@[irreducible] noncomputable def X:Str→Map→Prop:=e₀.2.2.2.1
@[irreducible] noncomputable def A:Around:=e₀.2.2.2.2.1
@[irreducible] noncomputable def n:Nat:=e₀.2.2.2.2.2.1
@[irreducible] noncomputable def F:Addr→Prop:=e₀.2.2.2.2.2.2.1
@[irreducible] noncomputable def BK:Addr:=e₀.2.2.2.2.2.2.2.1
@[irreducible] noncomputable def IS:Addr:=e₀.2.2.2.2.2.2.2.2.1
@[irreducible] noncomputable def SB:Addr:=e₀.2.2.2.2.2.2.2.2.2.1
@[irreducible] noncomputable def TL:Addr:=e₀.2.2.2.2.2.2.2.2.2.2.1
@[irreducible] noncomputable def NM:Addr:=e₀.2.2.2.2.2.2.2.2.2.2.2.1
@[irreducible] noncomputable def par:Str→List Str:=e₀.2.2.2.2.2.2.2.2.2.2.2.2.1
@[irreducible] noncomputable def sb:Str→Str→Option Int:=e₀.2.2.2.2.2.2.2.2.2.2.2.2.2.1
@[irreducible] noncomputable def tl:Str→Option Str:=e₀.2.2.2.2.2.2.2.2.2.2.2.2.2.2.1
@[irreducible] noncomputable def nm:List Str:=e₀.2.2.2.2.2.2.2.2.2.2.2.2.2.2.2.1
@[irreducible] noncomputable def name:Str:=e₀.2.2.2.2.2.2.2.2.2.2.2.2.2.2.2.2.1
@[irreducible] noncomputable def tp:Tok:=e₀.2.2.2.2.2.2.2.2.2.2.2.2.2.2.2.2.2.1
@[irreducible] noncomputable def tn:Tok:=e₀.2.2.2.2.2.2.2.2.2.2.2.2.2.2.2.2.2.2.1
@[irreducible] noncomputable def ta:Tok:=e₀.2.2.2.2.2.2.2.2.2.2.2.2.2.2.2.2.2.2.2.1
@[irreducible] noncomputable def Q:Value→Loc→Map→Prop:=e₀.2.2.2.2.2.2.2.2.2.2.2.2.2.2.2.2.2.2.2.2
theorem here:S₀ c m σ X A n F BK IS SB TL NM par sb tl nm name tp tn ta Q:=by
 intro hY hA hR N pk ab hB hp hN hpU hname hlast hQ
 show COK prog w G (zg G 336) c A (.ref 755) ⟨[.ref BK,optS pk tp,.str name tn,.str ab ta],[]⟩ m σ Q X
 have l0:(("Can't call method \"" : Str) ++ name).length=19+name.length:=zP _ _
 walk_at "fn"
 intro d hR'
 cases pk with
 | none=>
  refine ze (zJ (zj (zb rfl (zA (zN rfl (zd ⟨fun _=>?_,fun z=>(by first | exact nb z | exact nt z | cases z)⟩))))))
  refine ze (zO (z0 (za (zo fun t1=>za (zG (zG (zo fun t2=>zb rfl (zH (by rw [sizeLine_eq];show 19+_≤_;omega) fun t3=>zo fun t4=>zH (by rw [l0,sizeLine_eq];show _+23≤_;omega) fun t5=>zc (zL (fun a h0=>?_) (lek rfl))))))))))
  exact hQ _ _ ((hB.ext (Upd.refl.set_new h0)).le (by omega)) (Upd.refl.set_new h0) ⟨a,t1,t5,rfl,Map.set_self⟩
 | some p=>
 refine ze (zJ (zj (zb rfl (zA (zN rfl (zd ⟨fun z=>(by first | exact nb z | exact nt z | cases z),fun _=>zy ?_⟩))))))
 refine ze (zJ (zj (zb rfl (zo fun t0=>jK (zd ⟨fun hb=>?_,fun hb=>zy ?_⟩)))))
 ·have hb':p = "":=by simpa using hb
  subst hb'
  refine ze (zO (z0 (za (zo fun t1=>za (zG (zG (zo fun t2=>zb rfl (zH (by rw [sizeLine_eq];show 19+_≤_;omega) fun t3=>zo fun t4=>zH (by rw [l0,sizeLine_eq];show _+39≤_;omega) fun t5=>zc (zL (fun a h0=>?_) (lek rfl))))))))))
  have hd:jU par sb nm (some "") name ab=(.die (("Can't call method \"" : Str) ++ name ++ ("\" without a package or object reference" : Str)),none):=by
   simp only [jU,if_true]
  rw [hd] at hQ
  exact hQ _ _ ((hB.ext (Upd.refl.set_new h0)).le (by omega)) (Upd.refl.set_new h0) ⟨a,t1,t5,rfl,Map.set_self⟩
 have hpe:p≠"":=by simpa using hb
 have hd:jU par sb nm (some p) name ab=match jn par (jA p name ab).1 with
  | none=>(.die "ring",none)
  | some l=>dueIn sb nm (jA p name ab).1 (jA p name ab).2 (dueLine ab l):=if_neg hpe
 have hq6:=hpU p rfl hpe
 have hl9:=hlast p
 have hq9:(jA p name ab).1.length≤100:=(by decide:∀ p∈P6,p.length≤100) _ hq6
 generalize hr:jU par sb nm (some p) name ab=r at hQ hd
 revert r
 refine idP ?_
 intro r hr hQ hd
 refine ze (zu (zb rfl (zx ?_)))
 refine j8 (J:=fun m₁ σ₁=>A5 (Ext σ σ₁) (m₁ "book" = some (.ref BK)) ((∃ t,m₁ "package" = some (.str (jA p name ab).1 t))) ((∃ t,m₁ "last" = some (.str (jA p name ab).2 t))) (m₁ "above" = some (.str ab ta))) ?_ ?_
 ·refine zJ (zj (zb rfl (zo fun t1=>P_neStr (zd ⟨fun hb1=>?_,fun hb1=>?_⟩))))
  ·have hab:ab≠"":=by simpa using hb1
   have e:jA p name ab=(ab,name):=if_pos hab
   rw [e]
   exact ze (zu (zb rfl (zx (zy ⟨rfl,Upd.refl,rfl,⟨_,rfl⟩,⟨_,rfl⟩,rfl⟩))))
  have hab:¬ ab≠"":=by simpa using hb1
  refine ze (zJ (zj (P_sliceTo (zb rfl ⟨_,_,rfl,by rw [sizeLine_eq];omega,zD fun t2=>⟨_,_,rfl,fun t3=>zo fun t4=>jK (zd ⟨fun hb2=>?_,fun hb2=>?_⟩)⟩⟩))))
  ·have e:jA p name ab=(("C::D" : Str),Txt.slice name (some 6) none):=by unfold jA;rw [if_neg hab,if_pos hb2]
   rw [e]
   refine ze (P_assign2s hR'.2.2 (z0 (za (zo fun t5=>za (P_sliceFrom (zb rfl ⟨_,_,rfl,by rw [sizeLine_eq];omega,zD fun t6=>⟨_,_,rfl,fun t7=>zc (zL (fun a h0=>⟨a,_,_,rfl,.inl Map.set_self,zy (zy ⟨rfl,Upd.refl.set_new h0,rfl,⟨_,rfl⟩,⟨_,rfl⟩,rfl⟩)⟩) (lek rfl))⟩⟩))))))
  refine ze (zJ (zj (P_sliceTo (zb rfl ⟨_,_,rfl,by rw [sizeLine_eq];omega,zD fun t2=>⟨_,_,rfl,fun t3=>zo fun t4=>jK (zd ⟨fun hb3=>?_,fun hb3=>?_⟩)⟩⟩))))
  ·have e:jA p name ab=(("B" : Str),Txt.slice name (some 3) none):=by unfold jA;rw [if_neg hab,if_neg (by rw [hb2];decide),if_pos hb3]
   rw [e]
   refine ze (P_assign2s hR'.2.2 (z0 (za (zo fun t5=>za (P_sliceFrom (zb rfl ⟨_,_,rfl,by rw [sizeLine_eq];omega,zD fun t6=>⟨_,_,rfl,fun t7=>zc (zL (fun a h0=>⟨a,_,_,rfl,.inl Map.set_self,zy (zy (zy ⟨rfl,Upd.refl.set_new h0,rfl,⟨_,rfl⟩,⟨_,rfl⟩,rfl⟩))⟩) (lek rfl))⟩⟩))))))
  have e:jA p name ab=(p,name):=by unfold jA;rw [if_neg hab,if_neg (by rw [hb2];decide),if_neg (by rw [hb3];decide)]
  rw [e]
  exact zy (zy (zy ⟨rfl,Upd.refl,rfl,⟨_,rfl⟩,⟨_,rfl⟩,rfl⟩))
 rintro m₁ σ₁ ⟨u₁,k1,⟨tq,k2⟩,⟨tl',k3⟩,k4⟩
 generalize hqe:(jA p name ab).1=q at k2 hd hq6 hq9
 revert q
 refine idP ?_
 intro q hqe k2 hd hq6 hq9
 generalize hle:(jA p name ab).2=last at k3 hd hl9
 revert last
 refine idP ?_
 intro last hle k3 hd hl9
 have hB₁:=hB.ext u₁
 refine ze (zu (zv (zh (by k_is) (zf (by kernel_rfl) (za (zb (by exact k1) (za (zb (by exact k2) (zc (COK.call (spec_lawLine (n:=n) hY rfl hR' hp hB₁.isa.free hq6 fun σ₂ lv u₂ hlv=>zx ?_)))))))))))
 have u12:=u₁.trans u₂
 have hB₂:=hB.ext u12
 cases hll:jn par q with
 | none=>
  rw [hll] at hlv hd
  subst hlv
  refine ze (zJ (zj (zb rfl (zA (zN rfl (zd ⟨fun _=>?_,fun z=>(by first | exact nb z | exact nt z | cases z)⟩))))))
  refine ze (zO (z0 (za (zo fun t1=>za (zo fun t2=>zc (zL (fun a h0=>?_) (lek rfl)))))))
  subst hd
  exact hQ _ _ ((hB₂.ext (Upd.refl.set_new h0)).le (by omega)) ((u12.set_new h0).mono fun _ z=>z.elim) ⟨a,t1,t2,rfl,Map.set_self⟩
 | some l=>
 rw [hll] at hlv hd
 have hd':r=dueIn sb nm q last (dueLine ab l):=hd
 refine zk fun zz=>?_
 obtain ⟨D,ys,rfl,hD0,hD,hys⟩:=hlv
 refine zz ?_;clear zz
 refine ze (zJ (zj (zb rfl (zA (zN rfl (zd ⟨fun z=>(by first | exact nb z | exact nt z | cases z),fun _=>zy ?_⟩))))))
 have hll5:=lawLine_len hp hq6 hll
 refine j8 (J:=fun m₂ σ₃=>A5 (Ext σ σ₃) (m₂ "book" = some (.ref BK)) ((∃ t,m₂ "package" = some (.str q t))) ((∃ t,m₂ "last" = some (.str last t))) (X2 fun D ys=>A3 (m₂ "line" = some (.ref D)) (σ₃ D=some (.seq false ys)) (StrsAre ys (dueLine ab l)))) ?_ ?_
 ·refine zJ (zj (zb (by exact k4) (zo fun t1=>P_neStr (zd ⟨fun hb1=>?_,fun hb1=>?_⟩))))
  ·have hab:ab≠"":=by simpa using hb1
   have e:dueLine ab l=l.drop 1:=if_pos hab
   rw [e]
   refine ze (zu (zR (zb rfl ?_)))
   refine P_slice (jN (zD fun t3=>jM fun sl hsl=>P_tailSliceL (lo:=some 1) (hi:=none) (.inl (Map.set_new hsl hD)) Map.set_self (.int 1 t3) .none (by rw [hys.length,sizeLine_eq];omega) fun D' hD'=>zx (zy ⟨rfl,(u12.set_new hsl).set_new hD',by exact k1,⟨_,k2⟩,⟨_,k3⟩,D',_,rfl,Map.set_self,?_⟩)))
   rw [pick_from1]
   exact StrsAre.drop1 hys
  ·have hab:¬ ab≠"":=by simpa using hb1
   have e:dueLine ab l=l:=if_neg hab
   rw [e]
   exact zy ⟨rfl,u12,k1,⟨_,k2⟩,⟨_,k3⟩,D,ys,rfl,hD,hys⟩
 rintro m₂ σ₃ ⟨u₃,j1,⟨tq2,j2⟩,⟨tl2,j3⟩,D',ys',j4,hD',hys'⟩
 generalize dueLine ab l=l' at hd' hys'
 revert l'
 refine idP ?_
 intro l' hd' hys'
 have hB₃:=hB.ext u₃
 refine ze (zu (zv (zh (by k_is) (zf (by kernel_rfl) (za (zb (by exact j1) (za (zb (by exact j4) (za (zb (by exact j3) (zc (COK.call (spec_lawFirst (n:=n) hY rfl (hR'.le (by omega)) hB₃.subs hD' hys' fun σ₄ t4 u₄=>zx ?_)))))))))))))
 have u34:=u₃.trans u₄
 have hB₄:=hB.ext u34
 have hk4:∀ {f nm':Str} {k:Int} {σ₅:Map} {F':Addr→Prop} {tl₅:Str→Option Str} {nm₅:List Str} {N₅:Nat},BookAt prog w σ₅ F' BK IS SB TL NM par sb tl₅ nm₅ N₅→sb f nm'=some k →
  ∃ xs q t,TD (jZ prog w) σ₅ SB xs∧atKey xs [f,nm']=some q∧q.2 = .int k t:=fun {f nm' k σ₅ F' tl₅ nm₅ N₅} hb hk=>by
  refine zk fun zz=>?_
  obtain ⟨_,xs,t1,_,t3⟩:=hb.subs
  refine zz ?_;clear zz
  have:=t3 f nm'
  cases z:atKey xs [f,nm'] with
  | none=>rw [z] at this;rw [hk] at this;cases this
  | some q=>
   rw [z] at this
   refine zk fun zz=>?_
   obtain ⟨k',t,e1,e2⟩:=this
   refine zz ?_;clear zz
   rw [hk] at e2
   exact ⟨xs,q,t,t1,z,by rw [e1,Option.some.inj e2]⟩
 cases hf:jv sb last l' with
 | some f=>
  refine zk fun zz=>?_
  obtain ⟨k,hk⟩:=lfirst_some hf
  obtain ⟨kb,b1,b2,b3,b4,b5,b6⟩:=id hB₄.bk
  obtain ⟨xs,qq,tk,T,hat,hqq⟩:=hk4 hB₄ hk
  refine zz ?_;clear zz
  have hr':r=(.code k,none):=by rw [hd'];unfold dueIn;rw [hf];simp only [hk,Option.getD_some]
  subst hr'
  refine ze (zJ (zj (zb rfl (zA (z7 rfl (zd ⟨fun _=>?_,fun z=>(by first | exact nb z | exact nt z | cases z)⟩))))))
  refine ze (zO (z0 (za (zo fun t5=>za (zR (zR (zb (by exact j1) (zo fun t6=>jk b1 b3 (z0 (za (zb rfl (za (zb (by exact j3) (zc (zL (fun ka hka=>?_) (lek rfl))))))))))))))))
  refine P_itemT (T.keeps (Map.set_new hka T.1) fun b zs hb=>Map.set_new hka hb) (roomT (hR'.le (by omega:1≤n+10))) (k:=[f,last]) ⟨_,Map.set_self,.cons _ _ (.cons _ _ .nil)⟩ hat ?_
  rw [hqq]
  refine zc (zL (fun a h0=>?_) (lek rfl))
  exact hQ _ _ ((hB₄.ext ((Upd.refl.set_new hka).set_new h0)).le (by omega)) (((u34.set_new hka).set_new h0).mono fun _ z=>z.elim) ⟨a,t5,tk,rfl,Map.set_self⟩
 | none=>
 refine ze (zJ (zj (zb rfl (zA (z7 rfl (zd ⟨fun z=>(by first | exact nb z | exact nt z | cases z),fun _=>zy ?_⟩))))))
 refine zk fun zz=>?_
 obtain ⟨kb,b1,b2,b3,b4,b5,b6⟩:=id hB₄.bk
 refine zz ?_;clear zz
 refine ze (zu (zv (zh (by k_is) (zf (by kernel_rfl) (za (zb (by exact j1) (za (zb (by exact j4) (za (zo fun t5=>zc (COK.call (spec_lawFirst (n:=n) hY rfl (hR'.le (by omega)) hB₄.subs (u₄.get hD') hys' fun σ₅ t6 u₅=>zx ?_))))))))))))
 have u35:=u34.trans u₅
 have hB₅:=hB.ext u35
 refine P_joinR (J:=fun m₆ σ₆=>A5 (Ext σ σ₆) (m₆ "book" = some (.ref BK)) ((∃ t,m₆ "package" = some (.str q t))) ((∃ t,m₆ "last" = some (.str last t))) (r=(if last = "\x69mport" then .code 0 else .die (zY q last (kd nm q)),none))) ?_ ?_
 ·cases hg:jv sb "AUTOLOAD" l' with
  | none=>
   refine zJ (jz (zj (zb rfl (zA (z7 rfl (zd ⟨fun z=>(by first | exact nb z | exact nt z | cases z),fun _=>⟨fun z=>(by first | exact nb z | exact nt z | cases z),fun _=>zy ⟨u35,j1,⟨_,j2⟩,⟨_,j3⟩,?_⟩⟩⟩))))))
   rw [hd'];unfold dueIn;rw [hf,hg]
  | some g=>
   obtain ⟨kg,hkg⟩:=lfirst_some hg
   have hg5:g∈P5:=hB.sbU _ _ _ hkg
   refine zJ (jz (zj (zb rfl (zA (z7 rfl (zd ⟨fun _=>?_,fun z=>(by first | exact nb z | exact nt z | cases z)⟩))))))
   refine jz (zj (zb (by exact j3) (z0 (za (zo fun t7=>za (zo fun t8=>zc (zL (fun tt htt=>P_notInTup (.inl Map.set_self) (.cons _ _ (.cons _ _ .nil)) (zd ⟨fun hb=>P_testAndNil ⟨fun _=>?_,fun z=>(by first | exact nb z | exact nt z | cases z)⟩,fun hb=>⟨fun z=>(by first | exact nb z | exact nt z | cases z),fun _=>zy ⟨u35.set_new htt,j1,⟨_,j2⟩,⟨_,j3⟩,?_⟩⟩⟩)) (lek rfl))))))))
   ·have hne:¬ (last = "DESTROY"∨last = "\x69mport"):=by
     rintro (e | e) <;> rw [e] at hb <;> exact absurd hb (by decide)
    have hr':r=(.code kg,some (g,q ++ "::" ++ last)):=by rw [hd'];unfold dueIn;rw [hf,hg];simp only [if_neg hne,hkg,Option.getD_some]
    subst hr'
    have lq:(q ++ ("::" : Str)).length=q.length+2:=zP _ _
    have lql:(q ++ ("::" : Str) ++ last).length=q.length+2+last.length:=by rw [zP,lq]
    have hB₆:=hB.ext (u35.set_new (ao:=.seq true [.str "DESTROY" t7,.str "\x69mport" t8]) htt)
    refine zk fun zz=>?_
    obtain ⟨k6,c1,c2,c3,c4,c5,c6⟩:=id hB₆.bk
    obtain ⟨_,kt,eT,hT1,hT2⟩:=id hB₆.told
    refine zz ?_;clear zz
    refine ze (jF (zG (zG (zb (by exact j2) (zo fun t9=>zH (by rw [sizeLine_eq];show _+2≤_;omega) fun t10=>zb (by exact j3) (zH (by rw [lq,sizeLine_eq];omega) fun t11=>
     zR (zb (by exact j1) (zo fun t12=>jk c1 c4 (zb rfl (P_setD eT (by rw [sizeLine_eq];omega) ?_))))))))))
    have hB₇:=hB₆.tell (p:=g) (y:=q ++ "::" ++ last) (t:=t11) eT hT1 hT2
    refine zk fun zz=>?_
    obtain ⟨k7,d1,d2,d3,d4,d5,d6⟩:=id hB₇.bk
    obtain ⟨_,yn,eN,hN7⟩:=id hB₇.named
    refine zz ?_;clear zz
    refine ze (jt (zI (zR (zb (by exact j1) (zo fun t13=>jk d1 d5 (jg eN slot_list_append (by kernel_rfl) (zt (za (zb rfl (zc (jS eN (by have:=hN7.length;have:=hB.nmN;rw [sizeLine_eq];omega) ?_)))))))))))
    have hB₈:=hB₇.name (p:=g) (t:=t6) eN hN7 hg5
    refine zk fun zz=>?_
    obtain ⟨k8,f1,f2,f3,f4,f5,f6⟩:=id hB₈.bk
    obtain ⟨xs,qq,tk,T,hat,hqq⟩:=hk4 hB₈ hkg
    refine zz ?_;clear zz
    refine ze (zO (z0 (za (zo fun t15=>za (zR (zR (zb (by exact j1) (zo fun t16=>jk f1 f3 (z0 (za (zb rfl (za (zo fun t17=>zc (zL (fun ka hka=>?_) (lek rfl)))))))))))))))
    refine P_itemT (T.keeps (Map.set_new hka T.1) fun b zs hb=>Map.set_new hka hb) (roomT (hR'.le (by omega:1≤n+10))) (k:=[g,"AUTOLOAD"]) ⟨_,Map.set_self,.cons _ _ (.cons _ _ .nil)⟩ hat ?_
    rw [hqq]
    refine zc (zL (fun a h0=>?_) (lek rfl))
    refine hQ _ _ ((hB₈.ext ((Upd.refl.set_new hka).set_new h0)).le (by omega)) ?_ ⟨a,t15,tk,rfl,Map.set_self⟩
    have v₆:Upd (fun b=>b=TL∨b=NM) σ _:=(u35.set_new (ao:=.seq true [.str "DESTROY" t7,.str "\x69mport" t8]) htt).mono fun _ z=>z.elim
    exact (((v₆.set_in (.inl rfl)).set_in (.inr rfl)).set_new hka).set_new h0
   ·rw [hd'];unfold dueIn;rw [hf,hg]
    have hor:last = "DESTROY"∨last = "\x69mport":=by
     by_cases e1:last = "DESTROY"
     ·exact .inl e1
     ·by_cases e2:last = "\x69mport"
      ·exact .inr e2
      ·exfalso
       have a1:(("DESTROY" : Str) == last)=false:=by simpa using fun z=>e1 z.symm
       have a2:(("\x69mport" : Str) == last)=false:=by simpa using fun z=>e2 z.symm
       simp [a1,a2] at hb
    simp only [if_pos hor]
 rintro m₆ σ₆ ⟨u₆,i1,⟨tq3,i2⟩,⟨tl3,i3⟩,hr'⟩
 have hB₆:=hB.ext u₆
 refine ze (zJ (zj (zb (by exact i3) (zo fun t0=>jK (zd ⟨fun hb=>?_,fun hb=>zy ?_⟩)))))
 ·have e:last = "\x69mport":=by simpa using hb
  rw [if_pos e] at hr'
  subst hr'
  refine ze (zO (z0 (za (zo fun t1=>za (zD fun t2=>zc (zL (fun a h0=>?_) (lek rfl)))))))
  exact hQ _ _ ((hB₆.ext (Upd.refl.set_new h0)).le (by omega)) ((u₆.set_new h0).mono fun _ z=>z.elim) ⟨a,t1,t2,rfl,Map.set_self⟩
 ·have e:last≠"\x69mport":=by simpa using hb
  rw [if_neg e] at hr'
  subst hr'
  refine ze (zO (z0 (za (zo fun t1=>za (zv (zh (by k_is) (zf (by kernel_rfl) (za (zb (by exact i1) (za (zb (by exact i2) (za (zb (by exact i3) (zc (COK.call (spec_lawMissing (n:=n) hY rfl (hR'.le (by omega)) hB₆.named (fun x hx=>P5_P6 (hB.nmU x hx)) (by have:=hB.nmN;omega) (by omega) (by omega) fun σ₇ t2 u₇=>zc (zL (fun a h0=>?_) (lek rfl))))))))))))))))))
  exact hQ _ _ ((hB₆.ext (u₇.set_new h0)).le (by omega)) (((u₆.trans u₇).set_new h0).mono fun _ z=>z.elim) ⟨a,t1,t2,rfl,Map.set_self⟩
end spec_lawDue
section
variable {c:Cx}{X:Str→Map→Prop}{m:Loc}{σ τ:Map}
theorem spec_lawDue {A:Around}{n:Nat}(hY:Fly.Leaves prog w G (zg G 336)) (hA:A.frames=some c.fr) (hR:Rm A (n+11)) {F:Addr→Prop}{BK:Addr}{IS:Addr}{SB:Addr}{TL:Addr}{NM:Addr}{par:Str→List Str}{sb:Str→Str→Option Int}{tl:Str→Option Str}{nm:List Str}{N:Nat}{pk:Option Str}{name:Str}{ab:Str}{tp:Tok}{tn:Tok}{ta:Tok}{Q:Value→Loc→Map→Prop}(hB:BookAt prog w σ F BK IS SB TL NM par sb tl nm N) (hp:ParOk par P6) (hN:N≤900) (hpU:∀ p,pk=some p→p≠""→(jA p name ab).1∈P6) (hname:name.length≤900) (hlast:∀ p,(jA p name ab).2.length≤900) (hQ:∀ σ' v,BookAt prog w σ' F BK IS SB TL NM par sb (tlD tl (jU par sb nm pk name ab).2) (nmD nm (jU par sb nm pk name ab).2) (N+2)→Upd (fun b=>b=TL∨b=NM) σ σ'→OutAt σ' v (jU par sb nm pk name ab).1→Q v m σ'):COK prog w G (zg G 336) c A (.ref 755) ⟨[.ref BK,optS pk tp,.str name tn,.str ab ta],[]⟩ m σ Q X:=by with_unfolding_all exact eps (fun x:Cx × Loc × Map × (Str→Map→Prop) × Around × Nat × (Addr→Prop) × Addr × Addr × Addr × Addr × Addr × (Str→List Str) × (Str→Str→Option Int) × (Str→Option Str) × (List Str) × Str × Tok × Tok × Tok × (Value→Loc→Map→Prop)=>spec_lawDue.S₀ x.1 x.2.1 x.2.2.1 x.2.2.2.1 x.2.2.2.2.1 x.2.2.2.2.2.1 x.2.2.2.2.2.2.1 x.2.2.2.2.2.2.2.1 x.2.2.2.2.2.2.2.2.1 x.2.2.2.2.2.2.2.2.2.1 x.2.2.2.2.2.2.2.2.2.2.1 x.2.2.2.2.2.2.2.2.2.2.2.1 x.2.2.2.2.2.2.2.2.2.2.2.2.1 x.2.2.2.2.2.2.2.2.2.2.2.2.2.1 x.2.2.2.2.2.2.2.2.2.2.2.2.2.2.1 x.2.2.2.2.2.2.2.2.2.2.2.2.2.2.2.1 x.2.2.2.2.2.2.2.2.2.2.2.2.2.2.2.2.1 x.2.2.2.2.2.2.2.2.2.2.2.2.2.2.2.2.2.1 x.2.2.2.2.2.2.2.2.2.2.2.2.2.2.2.2.2.2.1 x.2.2.2.2.2.2.2.2.2.2.2.2.2.2.2.2.2.2.2.1 x.2.2.2.2.2.2.2.2.2.2.2.2.2.2.2.2.2.2.2.2) spec_lawDue.here (c,m,σ,X,A,n,F,BK,IS,SB,TL,NM,par,sb,tl,nm,name,tp,tn,ta,Q) hY hA hR hB hp hN hpU hname hlast hQ
end
section
variable {c:Cx}{X:Str→Map→Prop}{m:Loc}{σ τ:Map}
structure NmOk (gl:Str→Option GI) (names:List Str):Prop where
 to:∀ j g,gl j=some g→∃ p∈names,∃ n∈N10,j=cc p n
 back:∀ p∈names,∃ n∈N10,(gl (cc p n)).isSome=true
theorem NmOk.same {v v':Sv}{names:List Str}(h:NmOk v.gl names) (s:Same v v'):NmOk v'.gl names where
 to:=fun j g hg=>by
  have:=s.has j
  rw [hg] at this
  obtain ⟨g',hg'⟩:=Option.isSome_iff_exists.mp this.symm
  exact h.to j g' hg'
 back:=fun p hp=>(h.back p hp).imp fun _ k=>⟨k.1,by rw [s.has];exact k.2⟩
theorem inPkg_cc:∀ pk∈P6,∀ p∈P5,∀ n∈N10,inPkg pk (cc p n)=j7 pk p:=by decide +kernel
theorem NmOk.known {gl:Str→Option GI}{names:List Str}(h:NmOk gl names) (hU:∀ p∈names,p∈P5) {pk:Str}(hp:pk∈P6):kd names pk=true↔∃ j g,gl j=some g∧inPkg pk j=true:=by
 unfold kd
 rw [List.any_eq_true]
 constructor
 ·rintro ⟨p,hp',hk⟩
  refine zk fun zz=>?_
  obtain ⟨n,hn,hs⟩:=h.back p hp'
  obtain ⟨g,hg⟩:=Option.isSome_iff_exists.mp hs
  refine zz ?_;clear zz
  exact ⟨cc p n,g,hg,by rw [inPkg_cc pk hp p (hU p hp') n hn];exact hk⟩
 ·rintro ⟨j,g,hg,hk⟩
  refine zk fun zz=>?_
  obtain ⟨p,hp',n,hn,rfl⟩:=h.to j g hg
  refine zz ?_;clear zz
  exact ⟨p,hp',by rw [← inPkg_cc pk hp p (hU p hp') n hn];exact hk⟩
theorem srch_lfirst {a:Ad}{v:Sv}{cnt:Nat}(h:W prog w σ a v cnt) {nm:Str}(hn:nm∈N10) {l:List Str}(hl:∀ x∈l,x∈P6):(match jv v.sb nm l with | none=>srch v.gl nm l=none | some p=>∃ x k,srch v.gl nm l=some (x,p)∧v.sb p nm=some k∧coOf v.gl (cc p nm)=some x∧CodeAt σ x k):=by
 induction l with
 | nil=>rfl
 | cons p ps ih=>
  have ih:=ih fun x hx=>hl x (.tail _ hx)
  have hs:=h.subs p (hl p (.head _)) nm hn
  rw [lfirst_c]
  cases q:v.sb p nm with
  | none=>
   rw [q] at hs
   have hs':(v.gl (cc p nm)).bind GI.co=none:=hs
   have e:srch v.gl nm (p :: ps)=srch v.gl nm ps:=by
    show (match (v.gl (cc p nm)).bind GI.co with | some a=>some (a,p) | none=>srch v.gl nm ps)=_
    rw [hs']
   rw [e]
   exact ih
  | some k=>
   rw [q] at hs
   refine zk fun zz=>?_
   obtain ⟨x,hx,hc⟩:=hs
   refine zz ?_;clear zz
   have hx':(v.gl (cc p nm)).bind GI.co=some x:=hx
   refine ⟨x,k,?_,q,hx,hc⟩
   show (match (v.gl (cc p nm)).bind GI.co with | some a=>some (a,p) | none=>srch v.gl nm ps)=_
   rw [hx']
theorem metOf_congr {gl gl':Str→Option GI}(h:∀ j,coOf gl' j=coOf gl j) (tl:Str→Option Str) (ps:List Str) (pk nm:Str):metOf gl' tl ps pk nm=metOf gl tl ps pk nm:=by
 unfold metOf kf
 rw [srch_congr h,srch_congr h]
theorem met_due {a:Ad}{v:Sv}{cnt:Nat}(h:W prog w σ a v cnt) {nm pk:Str}(hn:nm∈N10) {l names:List Str}(hl:∀ x∈l,x∈P6) {r:Option Addr}{tl tl':Str→Option Str}(e:(r,tl')=metOf v.gl tl l pk nm) :
 tl'=tlD tl (dueIn v.sb names pk nm l).2∧match r with
  | some x=>∃ k,CodeAt σ x k∧(dueIn v.sb names pk nm l).1 = .code k
  | none=>(nm = "\x69mport"→(dueIn v.sb names pk nm l).1 = .code 0)∧(nm≠"\x69mport"→(dueIn v.sb names pk nm l).1 = .die (zY pk nm (kd names pk))):=by
 have h1:=srch_lfirst h hn hl
 have h2:=srch_lfirst h (nm:="AUTOLOAD") (by decide) hl
 unfold metOf at e
 unfold dueIn
 cases q:jv v.sb nm l with
 | some f=>
  rw [q] at h1
  refine zk fun zz=>?_
  obtain ⟨x,k,e1,e2,e3,e4⟩:=h1
  rw [e1] at e
  obtain ⟨rfl,rfl⟩:=Prod.mk.inj e
  refine zz ?_;clear zz
  exact ⟨rfl,k,e4,by simp only [e2,Option.getD_some]⟩
 | none=>
  rw [q] at h1
  have h1':srch v.gl nm l=none:=h1
  rw [h1'] at e
  have e':(r,tl')=kf v.gl tl l pk nm:=e
  unfold kf at e'
  have hun:nm≠"unimport":=fun z=>by rw [z] at hn;exact absurd hn (by decide)
  have hNV:nm∈NV↔nm = "DESTROY"∨nm = "\x69mport":=by
   unfold NV
   simp [hun]
  have tail:∀ {o:Out},o=(if nm = "\x69mport" then .code 0 else .die (zY pk nm (kd names pk)))→(nm = "\x69mport"→o = .code 0)∧(nm≠"\x69mport"→o = .die (zY pk nm (kd names pk))):=fun {o} ho=>by
   subst ho
   exact ⟨fun z=>if_pos z,fun z=>if_neg z⟩
  cases q2:jv v.sb "AUTOLOAD" l with
  | some f=>
   rw [q2] at h2
   refine zk fun zz=>?_
   obtain ⟨x,k,e1,e2,e3,e4⟩:=h2
   refine zz ?_;clear zz
   by_cases hv:nm∈NV
   ·rw [if_pos hv] at e'
    obtain ⟨rfl,rfl⟩:=Prod.mk.inj e'
    simp only [if_pos (hNV.mp hv)]
    exact ⟨rfl,tail rfl⟩
   ·rw [if_neg hv,e1] at e'
    obtain ⟨rfl,rfl⟩:=Prod.mk.inj e'
    simp only [if_neg (fun z=>hv (hNV.mpr z))]
    exact ⟨rfl,k,e4,by simp only [e2,Option.getD_some]⟩
  | none=>
   rw [q2] at h2
   have h2':srch v.gl "AUTOLOAD" l=none:=h2
   rw [h2'] at e'
   have e'':(r,tl')=(none,tl):=by
    rw [e'];split <;> rfl
   obtain ⟨rfl,rfl⟩:=Prod.mk.inj e''
   exact ⟨rfl,tail rfl⟩
end
section
noncomputable def Q7:List Str:=["m","n","B::m","C::D::n","can","DESTROY","\x69mport"]
noncomputable def abOf (ab:Str):Option Str:=if ab = "" then none else some ab
noncomputable def AbOk (nm ab:Str):Prop:=ab = ""∨((zW nm).1 = ""∧(ab = "A"∨ab = "C::D"))
theorem cut7:∀ nm∈Q7,(zW nm).2∈N10∧(((zW nm).1 = ""∧(zW nm).2=nm∧(Txt.slice nm none (some 6) == "C::D::")=false∧(Txt.slice nm none (some 3) == "B::")=false) ∨
 ((zW nm).1 = "C::D"∧(Txt.slice nm none (some 6) == "C::D::")=true∧(zW nm).2=Txt.slice nm (some 6) none) ∨
 ((zW nm).1 = "B"∧(Txt.slice nm none (some 6) == "C::D::")=false∧(Txt.slice nm none (some 3) == "B::")=true∧(zW nm).2=Txt.slice nm (some 3) none)):=by decide +kernel
theorem dueTgt_cut {nm ab p:Str}(h:nm∈Q7) (ha:AbOk nm ab):jA p nm ab=(pkOf nm (abOf ab) p,(zW nm).2):=by
 have hc:=(cut7 nm h).2
 unfold jA
 rcases ha with ha | ⟨h1,ha⟩
 ·subst ha
  rw [if_neg (fun z=>z rfl)]
  have e0:abOf "" = none:=if_pos rfl
  rw [e0]
  show _=((if (zW nm).1 = "" then p else (zW nm).1),(zW nm).2)
  rcases hc with ⟨c1,c2,c3,c4⟩ | ⟨c1,c2,c3⟩ | ⟨c1,c2,c3,c4⟩
  ·rw [if_neg (by rw [c3];decide),if_neg (by rw [c4];decide),if_pos c1,c2]
  ·rw [if_pos c2,if_neg (by rw [c1];decide),c1,c3]
  ·rw [if_neg (by rw [c2];decide),if_pos c3,if_neg (by rw [c1];decide),c1,c4]
 ·have hne:ab≠"":=by rcases ha with ha | ha <;> rw [ha] <;> decide
  have e0:abOf ab=some ab:=if_neg hne
  rw [if_pos hne,e0]
  show _=(ab,(zW nm).2)
  rcases hc with ⟨c1,c2,c3,c4⟩ | ⟨c1,c2,c3⟩ | ⟨c1,c2,c3,c4⟩
  ·rw [c2]
  ·rw [h1] at c1;exact absurd c1 (by decide)
  ·rw [h1] at c1;exact absurd c1 (by decide)
theorem lnOf_due (ab:Str) (l:List Str):lnOf (abOf ab) l=dueLine ab l:=by
 unfold abOf dueLine
 by_cases e:ab = ""
 ·rw [if_pos e,if_neg (fun z=>z e)];rfl
 ·rw [if_neg e,if_pos e];rfl
noncomputable def jY (e:Str):Str:=if Txt.slice e none (some 9) == "Recursive" then "ring" else e
theorem idx9 {n:Nat}(h:9≤n):Builtin.Str.strSliceIndices none (some 9) 1 n=[0,1,2,3,4,5,6,7,8]:=by
 unfold Builtin.Str.strSliceIndices sliceRange
 have e1:max (0:Int) (min 9 (n:Int))=9:=by omega
 simp only [show ((1:Int) > 0)=True by simp,if_true,show ¬ ((9:Int) < 0) by decide,if_false,e1]
 decide
theorem heard_C {x:Str}(h:9≤x.length) (h0:x.cps[0]? = some 67):jY x=x:=by
 unfold jY
 have hne:(Txt.slice x none (some 9) == "Recursive")=false:=by
  rw [beq_eq_false_iff_ne]
  intro e
  have e0:(Txt.slice x none (some 9)).cps[0]? = some 67:=by
   unfold Txt.slice
   split
   ·exact h0
   ·rw [idx9 h]
    simp [h0]
  rw [e] at e0
  exact absurd e0 (by decide)
 rw [hne];rfl
theorem cps_app {x y:Str}(h:0 < x.length):(x ++ y).cps[0]? = x.cps[0]?:=by
 show (x.cps ++ y.cps)[0]? = _
 rw [Array.getElem?_append_left h]
noncomputable def Cant (x:Str):Prop:=9≤x.length∧x.cps[0]? = some 67
theorem Cant.app {x y:Str}(h:Cant x):Cant (x ++ y):=⟨by rw [zP];have:=h.1;omega,by rw [cps_app (by have:=h.1;omega)];exact h.2⟩
theorem heard_miss (q n:Str) (b:Bool):jY (zY q n b)=zY q n b:=by
 have h0:Cant (zZ q n):=by
  unfold zZ
  exact Cant.app (Cant.app (Cant.app (Cant.app ⟨by decide,by decide⟩)))
 have h1:Cant (zY q n b):=by
  unfold zY
  split
  ·exact h0
  ·exact h0.app.app.app
 exact heard_C h1.1 h1.2
theorem ok_ne {x e:Str}(h:(Except.ok x:Except Str Str) = .error e):False:=by cases h
theorem cls_cant {nm e:Str}{inv:Inv}(h:kj nm inv = .error e):∃ y,e=("Can't call method \"" : Str) ++ nm ++ y:=by
 cases inv with
 | txt x=>
  by_cases hx:x = ""
  ·subst hx
   rw [cls_empty] at h
   exact ⟨_,(Except.error.inj h).symm⟩
  ·rw [cls_text nm hx] at h
   exact (ok_ne h).elim
 | nil=>exact ⟨_,(Except.error.inj h).symm⟩
 | obj p=>exact (ok_ne h).elim
theorem heard_cls {nm e:Str}{inv:Inv}(h:kj nm inv = .error e):jY e=e:=by
 obtain ⟨y,rfl⟩:=cls_cant h
 have hc:Cant (("Can't call method \"" : Str) ++ nm ++ y):=Cant.app (Cant.app ⟨by decide,by decide⟩)
 exact heard_C hc.1 hc.2
end
section
variable {c:Cx}{X:Str→Map→Prop}{m:Loc}{σ τ:Map}
noncomputable def jH:Inv→Option Str
 | .txt x=>some x
 | .nil=>none
 | .obj p=>some p
theorem cls_ok {nm p:Str}{inv:Inv}(h:kj nm inv = .ok p) (hobj:∀ p,inv = .obj p→p≠""):jH inv=some p∧p≠"":=by
 cases inv with
 | txt x=>
  by_cases hx:x = ""
  ·subst hx
   rw [cls_empty] at h
   exact (ok_ne h.symm).elim
  ·rw [cls_text nm hx] at h
   have:=Except.ok.inj h
   exact ⟨by rw [← this];rfl,by rw [← this];exact hx⟩
 | nil=>exact (ok_ne h.symm).elim
 | obj q=>
  have:=Except.ok.inj h
  exact ⟨by rw [← this];rfl,by rw [← this];exact hobj q rfl⟩
theorem due_err {par:Str→List Str}{sb:Str→Str→Option Int}{names:List Str}{nm ab e:Str}{inv:Inv}(h:kj nm inv = .error e):jU par sb names (jH inv) nm ab=(.die e,none):=by
 cases inv with
 | txt x=>
  by_cases hx:x = ""
  ·subst hx
   rw [cls_empty] at h
   rw [← Except.error.inj h]
   simp only [jH,jU,if_true]
  ·rw [cls_text nm hx] at h
   exact (ok_ne h).elim
 | nil=>
  rw [← Except.error.inj h]
  rfl
 | obj q=>exact (ok_ne h).elim
theorem pkOf_in {nm ab p:Str}(h:nm∈Q7) (ha:AbOk nm ab) (hp:p∈P6):pkOf nm (abOf ab) p∈P6:=by
 rcases ha with ha | ⟨_,ha⟩
 ·subst ha
  have e0:abOf "" = none:=if_pos rfl
  rw [e0]
  show (if (zW nm).1 = "" then p else (zW nm).1)∈P6
  rcases (cut7 nm h).2 with ⟨c1,_⟩ | ⟨c1,_⟩ | ⟨c1,_⟩
  ·rw [if_pos c1];exact hp
  ·rw [c1,if_neg (by decide)];decide
  ·rw [c1,if_neg (by decide)];decide
 ·have hne:ab≠"":=by rcases ha with ha | ha <;> rw [ha] <;> decide
  have e0:abOf ab=some ab:=if_neg hne
  rw [e0]
  show ab∈P6
  rcases ha with ha | ha <;> rw [ha] <;> decide
theorem due_ok {par:Str→List Str}(hP:ParOk par P6) {sb:Str→Str→Option Int}{names l:List Str}{nm ab p:Str}{inv:Inv}(h:jH inv=some p∧p≠"") (hn:nm∈Q7) (ha:AbOk nm ab) (hp:p∈P6)
 (hl:zS par (pkOf nm (abOf ab) p) = .ok l):jU par sb names (jH inv) nm ab=dueIn sb names (pkOf nm (abOf ab) p) (zW nm).2 (lnOf (abOf ab) l):=by
 have h1:=jy hP (pkOf_in hn ha hp)
 rw [hl] at h1
 have h1':jn par (pkOf nm (abOf ab) p)=some l:=h1
 rw [h.1]
 unfold jU
 simp only [if_neg h.2,dueTgt_cut hn ha,h1',lnOf_due]
theorem due_ring {par:Str→List Str}(hP:ParOk par P6) {sb:Str→Str→Option Int}{names:List Str}{nm ab p q:Str}{inv:Inv}(h:jH inv=some p∧p≠"") (hn:nm∈Q7) (ha:AbOk nm ab) (hp:p∈P6)
 (hl:zS par (pkOf nm (abOf ab) p) = .error q):jU par sb names (jH inv) nm ab=(.die "ring",none):=by
 have h1:=jy hP (pkOf_in hn ha hp)
 rw [hl] at h1
 have h1':jn par (pkOf nm (abOf ab) p)=none:=h1
 rw [h.1]
 unfold jU
 simp only [if_neg h.2,dueTgt_cut hn ha,h1']
theorem jR (q:Str) {i:Nat}(hi:i < 43):(jd q).cps[i]? = ("Recursive inheritance detected in package '" : Str).cps[i]?:=by
 have e:jd q=("Recursive inheritance detected in package '" : Str) ++ (q ++ ("'" : Str)):=by unfold jd;rw [app_assoc]
 rw [e]
 show (("Recursive inheritance detected in package '" : Str).cps ++ (q ++ ("'" : Str)).cps)[i]? = _
 rw [Array.getElem?_append_left (Nat.lt_of_lt_of_eq hi (by decide))]
theorem heard_ring' (q:Str):jY (jd q) = "ring":=by
 have hl:(jd q).length=43+q.length+1:=by unfold jd;rw [zP,zP];rfl
 have e:Txt.slice (jd q) none (some 9) = "Recursive":=by
  unfold Txt.slice
  rw [idx9 (by omega),if_neg (by simp only [hl];simp;omega)]
  simp only [List.filterMap_cons,List.filterMap_nil,jR q (by decide:0 < 43),jR q (by decide:1 < 43),jR q (by decide:2 < 43),jR q (by decide:3 < 43),jR q (by decide:4 < 43),jR q (by decide:5 < 43),jR q (by decide:6 < 43),jR q (by decide:7 < 43),jR q (by decide:8 < 43)]
  decide
 unfold jY
 rw [e]
 rfl
theorem foldlM_err {α β ε:Type}{f:β→α→Except ε β}{e:ε}{xs:List α}{b:β}(h:xs.foldlM f b = .error e):∃ x∈xs,∃ b',f b' x = .error e:=by
 induction xs generalizing b with
 | nil=>exact nomatch h
 | cons x xs ih=>
  rw [List.foldlM_cons] at h
  cases q:f b x with
  | error z=>
   rw [q] at h
   exact ⟨x,.head _,b,q.trans h⟩
  | ok b'=>
   rw [q] at h
   exact (ih (b:=b') h).elim fun y k=>⟨y,.tail _ k.1,k.2⟩
theorem dgo_err {par:Str→List Str}{U:List Str}(hU:∀ x q,q∈par x→q∈U) {e:Str}(n:Nat) (path:List Str) (q:Str) (line:List Str) (hq:q∈U) (h:dgo par n path q line = .error e):e∈U:=by
 induction n generalizing path q line with
 | zero=>
  rw [dgo_0] at h
  by_cases h1:q∈path
  ·rw [if_pos h1] at h;rw [← Except.error.inj h];exact hq
  ·rw [if_neg h1] at h
   by_cases h2:q∈line
   ·rw [if_pos h2] at h;cases h
   ·rw [if_neg h2] at h;cases h
 | succ n ih=>
  rw [dgo_s] at h
  by_cases h1:q∈path
  ·rw [if_pos h1] at h;rw [← Except.error.inj h];exact hq
  ·rw [if_neg h1] at h
   by_cases h2:q∈line
   ·rw [if_pos h2] at h;cases h
   ·rw [if_neg h2] at h
    refine zk fun zz=>?_
    obtain ⟨x,hx,l,e1⟩:=foldlM_err h
    refine zz ?_;clear zz
    exact ih _ x l (hU _ _ hx) e1
theorem whole_err {par:Str→List Str}(hp:ParOk par P6) {p q:Str}(h:p∈P6) (e:zS par p = .error q):q∈P6:=by
 unfold zS at e
 cases q1:jX par 7 p with
 | error z=>
  rw [q1] at e
  have e':(Except.error z:Except Str (List Str)) = .error q:=e
  rw [Except.error.inj e'] at q1
  exact dgo_err hp.hU 7 _ _ _ h q1
 | ok l=>
  rw [q1] at e
  cases q2:jX par 7 "UNIVERSAL" with
  | error z=>
   rw [q2] at e
   have e':(Except.error z:Except Str (List Str)) = .error q:=e
   rw [Except.error.inj e'] at q2
   exact dgo_err hp.hU 7 _ _ _ hp.huni q2
  | ok l2=>rw [q2] at e;cases e
theorem ring_len {par:Str→List Str}(hp:ParOk par P6) {p q:Str}(h:p∈P6) (e:zS par p = .error q):(jd q).length≤5000:=by
 have:=(by decide:∀ x∈P6,x.length≤100) _ (whole_err hp h e)
 have hl:(jd q).length=43+q.length+1:=by unfold jd;rw [zP,zP];rfl
 omega
theorem cls_len {nm e:Str}{inv:Inv}(h:kj nm inv = .error e) (hn:nm.length≤900):e.length≤5000:=by
 cases inv with
 | txt x=>
  by_cases hx:x = ""
  ·subst hx
   rw [cls_empty] at h
   rw [← Except.error.inj h,zP,zP]
   show 19+nm.length+39≤_
   omega
  ·rw [cls_text nm hx] at h
   exact (ok_ne h).elim
 | nil=>
  rw [← Except.error.inj h,zP,zP]
  show 19+nm.length+23≤_
  omega
 | obj p=>exact (ok_ne h).elim
theorem miss_len {q n:Str}{b:Bool}(h1:q.length≤1000) (h2:n.length≤1000):(zY q n b).length≤5000:=by
 have l0:(zZ q n).length=28+n.length+15+q.length+1:=by unfold zZ;rw [zP,zP,zP,zP];rfl
 unfold zY
 split
 ·omega
 ·rw [zP,zP,zP,l0]
  show _+30+_+3≤_
  omega
end
section
variable {c:Cx}{X:Str→Map→Prop}{m:Loc}{σ τ:Map}
end
namespace spec_lawHeard
noncomputable def S₀ (c:Cx) (m:Loc) (σ:Map) (X:Str→Map→Prop) (A:Around) (n:Nat) (a:Ad) (v:Sv) (cnt:Nat) (nm:Str) (tn:Tok) (ta:Tok) (names:List Str) (Q:Value→Loc→Map→Prop):Prop:=∀ (hA:A.frames=some c.fr) (hR:Rm A (n+10)) {val:Value} {inv:Inv} {ab:Str} (h:W prog w σ a v cnt) (hc:cnt≤880) (hi:InvAt σ val inv) (hnm:nm∈Q7) (hab:AbOk nm ab) (hpk:∀ p,jH inv=some p→p≠""→p∈P6) (hobj:∀ p,inv = .obj p→p≠"") (hN:NmOk v.gl names) (hNU:∀ p∈names,p∈P5) (hQ:∀ σ' v' val',W prog w σ' a v' (cnt+3)→Step a v σ v' σ'→Same v v'→v'.tl=tlD v.tl (jU v.par v.sb names (jH inv) nm ab).2→OutAt σ' val' (jU v.par v.sb names (jH inv) nm ab).1→Q val' m σ'),COK prog w G (zg G 336) c A (.ref 762) ⟨[.ref a.R,val,.str nm tn,.str ab ta],[]⟩ m σ Q X
noncomputable def e₀:Cx × Loc × Map × (Str→Map→Prop) × Around × Nat × Ad × Sv × Nat × Str × Tok × Tok × (List Str) × (Value→Loc→Map→Prop):=@Classical.epsilon _ ⟨(dCx,default,default,default,callerA,default,⟨0,0,0,0,0,0,0,0⟩,dSv,default,default,default,default,default,default)⟩ fun x=>¬ S₀ x.1 x.2.1 x.2.2.1 x.2.2.2.1 x.2.2.2.2.1 x.2.2.2.2.2.1 x.2.2.2.2.2.2.1 x.2.2.2.2.2.2.2.1 x.2.2.2.2.2.2.2.2.1 x.2.2.2.2.2.2.2.2.2.1 x.2.2.2.2.2.2.2.2.2.2.1 x.2.2.2.2.2.2.2.2.2.2.2.1 x.2.2.2.2.2.2.2.2.2.2.2.2.1 x.2.2.2.2.2.2.2.2.2.2.2.2.2
@[irreducible] noncomputable def c:Cx:=e₀.1
@[irreducible] noncomputable def m:Loc:=e₀.2.1
@[irreducible] noncomputable def σ:Map:=e₀.2.2.1
@[irreducible] noncomputable def X:Str→Map→Prop:=e₀.2.2.2.1
@[irreducible] noncomputable def A:Around:=e₀.2.2.2.2.1
@[irreducible] noncomputable def n:Nat:=e₀.2.2.2.2.2.1
@[irreducible] noncomputable def a:Ad:=e₀.2.2.2.2.2.2.1
@[irreducible] noncomputable def v:Sv:=e₀.2.2.2.2.2.2.2.1
@[irreducible] noncomputable def cnt:Nat:=e₀.2.2.2.2.2.2.2.2.1
@[irreducible] noncomputable def nm:Str:=e₀.2.2.2.2.2.2.2.2.2.1
@[irreducible] noncomputable def tn:Tok:=e₀.2.2.2.2.2.2.2.2.2.2.1
@[irreducible] noncomputable def ta:Tok:=e₀.2.2.2.2.2.2.2.2.2.2.2.1
@[irreducible] noncomputable def names:List Str:=e₀.2.2.2.2.2.2.2.2.2.2.2.2.1
@[irreducible] noncomputable def Q:Value→Loc→Map→Prop:=e₀.2.2.2.2.2.2.2.2.2.2.2.2.2
theorem here:S₀ c m σ X A n a v cnt nm tn ta names Q:=by
 intro hA hR val inv ab h hc hi hnm hab hpk hobj hN hNU hQ
 show COK prog w G (zg G 336) c A (.ref 762) ⟨[.ref a.R,val,.str nm tn,.str ab ta],[]⟩ m σ Q X
 have hY:Fly.Leaves prog w G (zg G 336):=jc
 have hP:=h.parOk (by omega:cnt≤900)
 have h900:nm.length≤900:=Nat.le_trans ((by decide:∀ x∈Q7,x.length≤100) nm hnm) (by decide)
 have hN10:=(cut7 nm hnm).1
 have h2900:(zW nm).2.length≤900:=Nat.le_trans ((by decide:∀ x∈N10,x.length≤100) _ hN10) (by decide)
 walk_at "fn"
 intro d hR'
 refine ze (P_try (C:=336) (X₁:=fun e σ'=>∃ v',W prog w σ' a v' (cnt+3)∧Step a v σ v' σ'∧Same v v'∧v'.tl=tlD v.tl (jU v.par v.sb names (jH inv) nm ab).2∧(jU v.par v.sb names (jH inv) nm ab).1 = .die (jY e)∧e.length≤5000) rfl (by kernel_rfl) (by kernel_rfl) ?_ ?_ (by k_is))
 ·refine ze (zu (zv (zh (by k_is) (zf (by kernel_rfl) (za (zb rfl (za (zb rfl (za (zb rfl (za (POK.mono (Q:=fun v m' σ'=>v=aboveV (abOf ab) ta∧σ'=σ) ?_ ?_ fun _ _ x=>x))))))))))))
  ·refine jb (zj (zb rfl (zo fun t0=>jK (zd ⟨fun hb=>?_,fun hb=>?_⟩))))
   ·have e:ab = "":=by simpa using hb
    have e0:abOf ab=none:=by rw [e];exact if_pos rfl
    exact zA ⟨by rw [e0];rfl,rfl⟩
   ·have e:ab≠"":=by simpa using hb
    have e0:abOf ab=some ab:=if_neg e
    exact zb rfl ⟨by rw [e0];rfl,rfl⟩
  rintro v₁ m₁ σ₁ ⟨rfl,rfl⟩
  refine zc (COK.call (spec_method (n:=n) rfl hR' h hc hi h900 h2900 (fun p hp=>?_) ?_ ?_ ?_ ?_))
  ·have h1:=cls_ok hp hobj
   exact pkOf_in hnm hab (hpk p h1.1 h1.2)
  ·intro p l σ' v' r hcl hl h' s' sm e hr
   have h1:=cls_ok hcl hobj
   have h6:=pkOf_in hnm hab (hpk p h1.1 h1.2)
   have hlU:=jE hP h6 hl
   have hd:=due_ok hP (sb:=v.sb) (names:=names) h1 hnm hab (hpk p h1.1 h1.2) hl
   have hlU':∀ x∈lnOf (abOf ab) l,x∈P6:=fun x hx=>by
    unfold lnOf at hx
    split at hx
    ·exact hlU.1 x (List.mem_of_mem_drop hx)
    ·exact hlU.1 x hx
   have hm:=met_due (names:=names) h' hN10 hlU' (e.trans (metOf_congr sm.co _ _ _ _).symm)
   rw [sm.sb] at hm
   refine zx (zy (zy ?_))
   cases r with
   | none=>
    have himp:(zW nm).2 = "\x69mport":=by
     rcases hr with z | z
     ·exact absurd rfl z
     ·have h2:∀ x∈N10,x∈NV.drop 1→x = "\x69mport":=by decide
      exact h2 _ hN10 z
    refine ze (zO (z0 (za (zo fun t1=>za (jb (zj (zb rfl (zA (zN rfl (zd ⟨fun _=>zD fun t2=>zc (zL (fun x h0=>?_) (lek rfl)),fun z=>(by first | exact nb z | exact nt z | cases z)⟩))))))))))
    refine hQ _ v' _ (h'.ext (Upd.refl.set_new h0)) (s'.trans (Step.ext (Upd.refl.set_new h0))) sm (by rw [hd];exact hm.1) ?_
    rw [hd,hm.2.1 himp]
    exact ⟨x,t1,t2,rfl,Map.set_self⟩
   | some x=>
    refine zk fun zz=>?_
    obtain ⟨k,hk,hk2⟩:=hm.2
    obtain ⟨t1,kk,t2,wk,sx,cp,b,t3,ex⟩:=id hk
    refine zz ?_;clear zz
    refine ze (zO (z0 (za (zo fun t4=>za (jb (zj (zb rfl (zA (zN rfl (zd ⟨fun z=>(by first | exact nb z | exact nt z | cases z),fun _=>zB (zb rfl (zw ex (by kernel_rfl) rfl rfl (zc (zL (fun xx h0=>?_) (lek rfl)))))⟩))))))))))
    refine hQ _ v' _ (h'.ext (Upd.refl.set_new h0)) (s'.trans (Step.ext (Upd.refl.set_new h0))) sm (by rw [hd];exact hm.1) ?_
    rw [hd,hk2]
    exact ⟨xx,t4,t1,rfl,Map.set_self⟩
  ·intro e hcl σ' u
   have hd:=due_err (par:=v.par) (sb:=v.sb) (names:=names) (ab:=ab) hcl
   exact ⟨v,(h.ext u).le (by omega),Step.ext u,Same.refl,by rw [hd];rfl,by rw [hd,heard_cls hcl],cls_len hcl h900⟩
  ·intro p q hcl hl σ' u
   have h1:=cls_ok hcl hobj
   have hd:=due_ring hP (sb:=v.sb) (names:=names) h1 hnm hab (hpk p h1.1 h1.2) hl
   exact ⟨v,(h.ext u).le (by omega),Step.ext u,Same.refl,by rw [hd];rfl,by rw [hd,heard_ring'],ring_len hP (pkOf_in hnm hab (hpk p h1.1 h1.2)) hl⟩
  ·intro p l σ' v' b hcl hl h' s' sm e hno hb
   have h1:=cls_ok hcl hobj
   have h6:=pkOf_in hnm hab (hpk p h1.1 h1.2)
   have hlU:=jE hP h6 hl
   have hd:=due_ok hP (sb:=v.sb) (names:=names) h1 hnm hab (hpk p h1.1 h1.2) hl
   have hlU':∀ x∈lnOf (abOf ab) l,x∈P6:=fun x hx=>by
    unfold lnOf at hx
    split at hx
    ·exact hlU.1 x (List.mem_of_mem_drop hx)
    ·exact hlU.1 x hx
   have hm:=met_due (names:=names) h' hN10 hlU' (e.trans (metOf_congr sm.co _ _ _ _).symm)
   rw [sm.sb] at hm
   have hl6:=(by decide:∀ x∈P6,x.length≤100) _ h6
   refine ⟨v',h',s',sm,by rw [hd];exact hm.1,?_,miss_len (by omega) (by omega)⟩
   have hne:(zW nm).2≠"\x69mport":=fun z=>hno (by rw [z];decide)
   have hbk:b=kd names (pkOf nm (abOf ab) p):=by
    have k1:=(hN.same sm).known hNU h6
    rw [Bool.eq_iff_iff,hb,k1]
   rw [hd,heard_miss,hbk]
   exact hm.2.2 hne
 ·rintro e σ' x m' fs t tb ⟨v',h',s',sm,e1,e2,e5⟩ hx hv
  refine ze (zO (z0 (za (zo fun t1=>za (jb (zj (zR (zB (zb rfl (P_getExc Map.set_self (by kernel_rfl) hv rfl (P_slice (jM (jN (zD fun t2 sl hsl=>P_tailSliceTo Map.set_self (by rw [sizeLine_eq];omega) fun t3=>zo fun t4=>jK (zd ⟨fun hb=>?_,fun hb=>?_⟩)))))))))))))))
  ·refine zo fun t5=>zc (zL (fun y h0 m₃=>?_) (lek rfl))
   have u:∀ ao,Ext σ' (((σ'.set x (.exc 336 fs tb)).set sl (.raw (jO .none (.int 9 t2)))).set y ao):=fun ao=>((Upd.refl.set_new hx).set_new hsl).set_new h0
   refine hQ _ v' _ (h'.ext (u _)) (s'.trans (Step.ext (u _))) sm e1 ?_
   have e3:jY e = "ring":=by unfold jY;rw [hb];rfl
   rw [e2,e3]
   exact ⟨y,t1,t5,rfl,Map.set_self⟩
  ·refine zB (zb rfl (P_getExc (Map.set_new hsl Map.set_self) (by kernel_rfl) hv rfl (zc (zL (fun y h0 m₃=>?_) (lek rfl)))))
   have u:∀ ao,Ext σ' (((σ'.set x (.exc 336 fs tb)).set sl (.raw (jO .none (.int 9 t2)))).set y ao):=fun ao=>((Upd.refl.set_new hx).set_new hsl).set_new h0
   refine hQ _ v' _ (h'.ext (u _)) (s'.trans (Step.ext (u _))) sm e1 ?_
   have e3:jY e=e:=by unfold jY;rw [hb];rfl
   rw [e2,e3]
   exact ⟨y,t1,t,rfl,Map.set_self⟩
end spec_lawHeard
section
variable {c:Cx}{X:Str→Map→Prop}{m:Loc}{σ τ:Map}
theorem spec_lawHeard {A:Around}{n:Nat}(hA:A.frames=some c.fr) (hR:Rm A (n+10)) {a:Ad}{v:Sv}{cnt:Nat}{val:Value}{inv:Inv}{nm:Str}{ab:Str}{tn:Tok}{ta:Tok}{names:List Str}{Q:Value→Loc→Map→Prop}(h:W prog w σ a v cnt) (hc:cnt≤880) (hi:InvAt σ val inv) (hnm:nm∈Q7) (hab:AbOk nm ab) (hpk:∀ p,jH inv=some p→p≠""→p∈P6) (hobj:∀ p,inv = .obj p→p≠"") (hN:NmOk v.gl names) (hNU:∀ p∈names,p∈P5) (hQ:∀ σ' v' val',W prog w σ' a v' (cnt+3)→Step a v σ v' σ'→Same v v'→v'.tl=tlD v.tl (jU v.par v.sb names (jH inv) nm ab).2→OutAt σ' val' (jU v.par v.sb names (jH inv) nm ab).1→Q val' m σ'):COK prog w G (zg G 336) c A (.ref 762) ⟨[.ref a.R,val,.str nm tn,.str ab ta],[]⟩ m σ Q X:=by with_unfolding_all exact eps (fun x:Cx × Loc × Map × (Str→Map→Prop) × Around × Nat × Ad × Sv × Nat × Str × Tok × Tok × (List Str) × (Value→Loc→Map→Prop)=>spec_lawHeard.S₀ x.1 x.2.1 x.2.2.1 x.2.2.2.1 x.2.2.2.2.1 x.2.2.2.2.2.1 x.2.2.2.2.2.2.1 x.2.2.2.2.2.2.2.1 x.2.2.2.2.2.2.2.2.1 x.2.2.2.2.2.2.2.2.2.1 x.2.2.2.2.2.2.2.2.2.2.1 x.2.2.2.2.2.2.2.2.2.2.2.1 x.2.2.2.2.2.2.2.2.2.2.2.2.1 x.2.2.2.2.2.2.2.2.2.2.2.2.2) spec_lawHeard.here (c,m,σ,X,A,n,a,v,cnt,nm,tn,ta,names,Q) hA hR h hc hi hnm hab hpk hobj hN hNU hQ
end
section
variable {c:Cx}{X:Str→Map→Prop}{m:Loc}{σ τ:Map}
inductive AskV where
 | ring
 | nil
 | num (k:Int)
 | empty
noncomputable def AskAt (v:Value):AskV→Prop
 | .ring=>∃ t,v = .str "ring" t
 | .nil=>v = .none
 | .num k=>∃ t,v = .int k t
 | .empty=>∃ t,v = .str "" t
noncomputable def jq (par:Str→List Str) (pk:Str):Option (List Str):=if pk = "" then some [] else jn par pk
noncomputable def canDue (par:Str→List Str) (sb:Str→Str→Option Int) (pk nm:Str):AskV:=match jq par pk with
 | none=>.ring
 | some l=>match jv sb nm l with
  | none=>.nil
  | some f=>.num ((sb f nm).getD 0)
noncomputable def isaDue (par:Str→List Str) (pk:Str):AskV:=match jq par pk with
 | none=>.ring
 | some l=>if ("B" : Str)∈l then .num 1 else .empty
theorem spec_lawCan {A:Around}{n:Nat}(hA:A.frames=some c.fr) (hR:Rm A (n+9)) {a:Ad}{v:Sv}{cnt:Nat}{val:Value}{inv:Inv}{nm:Str}{tn:Tok}{vl:Addr}{Q:Value→Loc→Map→Prop}
 (h:W prog w σ a v cnt) (hc:cnt≤880) (hi:InvAt σ val inv) (hvl:σ vl=some (.seq false [val,.str nm tn])) (hpk:zT inv≠""→zT inv∈P6) (hobj:∀ p,inv = .obj p→p≠"") (hnm:nm∈N10)
 (hQ:∀ σ' v' val',W prog w σ' a v' (cnt+1)→Step a v σ v' σ'→Same v v'→v'.tl=v.tl→AskAt val' (canDue v.par v.sb (zT inv) nm)→Q val' m σ') :
 COK prog w G (zg G 336) c A (.ref 769) ⟨[.ref a.R,.ref vl,.bool true],[]⟩ m σ Q X:=by
 have hY:Fly.Leaves prog w G (zg G 336):=jc
 have hP:=h.parOk (by omega:cnt≤900)
 have h900:nm.length≤900:=Nat.le_trans ((by decide:∀ x∈N10,x.length≤100) nm hnm) (by decide)
 walk_at "fn"
 intro d hR'
 refine ze (P_try (C:=336) (X₁:=fun e σ'=>Ext σ σ'∧canDue v.par v.sb (zT inv) nm = .ring∧e.length≤5000∧jY e = "ring") rfl (by kernel_rfl) (by kernel_rfl) ?_ ?_ (by k_is))
 ·refine ze (zu (jb (ja (zb rfl (zd ⟨fun _=>?_,fun z=>(by first | exact nb z | exact nt z | cases z)⟩)))))
  refine zv (zh (by k_is) (zf (by kernel_rfl) (za (zb rfl (za (zb rfl (za (zD fun t1=>zc (COK.call (spec_can (n:=n) rfl hR' h hc hi hvl hpk hobj h900 (fun h0=>?_) (fun l σ' TB' hne hl h' s'=>⟨fun hn=>?_,fun x p r σ'' hs u hr=>?_⟩) fun q hne hl σ' u=>?_))))))))))
  ·have hd:canDue v.par v.sb (zT inv) nm = .nil:=by unfold canDue jq;rw [if_pos h0];rfl
   refine zx (zy (zy (ze (zO (jb (ja (zv (zC (by k_is) (by boot_by_name) (by decide) (zt (za (zb rfl (za (zh (by k_is) (zc (P_isiNone (by kernel_rfl) (zd ⟨fun z=>(by first | exact nb z | exact nt z | cases z),fun _=>zb rfl ?_⟩))))))))))))))))
   exact hQ _ v _ (h.le (by omega)) Step.refl Same.refl rfl (by rw [hd];rfl)
  ·have h1:=jy hP (hpk hne)
   rw [hl] at h1
   have h1':jn v.par (zT inv)=some l:=h1
   have hlU:=jE hP (hpk hne) hl
   have hs:=srch_lfirst h hnm hlU.1
   have hf:jv v.sb nm l=none:=by
    cases q:jv v.sb nm l with
    | none=>rfl
    | some p=>rw [q] at hs;obtain ⟨x,k,e,_⟩:=hs;rw [hn] at e;cases e
   have hd:canDue v.par v.sb (zT inv) nm = .nil:=by unfold canDue jq;rw [if_neg hne,h1'];simp only [hf]
   refine zx (zy (zy (ze (zO (jb (ja (zv (zC (by k_is) (by boot_by_name) (by decide) (zt (za (zb rfl (za (zh (by k_is) (zc (P_isiNone (by kernel_rfl) (zd ⟨fun z=>(by first | exact nb z | exact nt z | cases z),fun _=>zb rfl ?_⟩))))))))))))))))
   exact hQ _ _ _ h' s' Same.find rfl (by rw [hd];rfl)
  ·have h1:=jy hP (hpk hne)
   rw [hl] at h1
   have h1':jn v.par (zT inv)=some l:=h1
   have hlU:=jE hP (hpk hne) hl
   have hss:=srch_lfirst h' hnm hlU.1
   obtain ⟨k,hf,hk,hco⟩:∃ k,jv v.sb nm l=some p∧v.sb p nm=some k∧CodeAt σ' x k:=by
    cases q:jv v.sb nm l with
    | none=>
     have q':jv ({ v with TB:=TB' }:Sv).sb nm l=none:=q
     rw [q'] at hss
     have e:srch v.gl nm l=none:=hss
     rw [hs] at e;cases e
    | some p'=>
     have q':jv ({ v with TB:=TB' }:Sv).sb nm l=some p':=q
     rw [q'] at hss
     refine zk fun zz=>?_
     obtain ⟨x',k,e,e2,e3,e4⟩:=hss
     have e':srch v.gl nm l=some (x',p'):=e
     rw [hs] at e'
     obtain ⟨rfl,rfl⟩:=Prod.mk.inj (Option.some.inj e')
     refine zz ?_;clear zz
     exact ⟨k,rfl,e2,e4⟩
   have hd:canDue v.par v.sb (zT inv) nm = .num k:=by unfold canDue jq;rw [if_neg hne,h1'];simp only [hf,hk,Option.getD_some]
   refine zk fun zz=>?_
   obtain ⟨t2,kk,t3,wk,sx,cp,b,t4,ex⟩:=hco.upd u id
   refine zz ?_;clear zz
   refine zx (zy (zy (ze (zO (jb (ja (zv (zC (by k_is) (by boot_by_name) (by decide) (zt (za (zb rfl (za (zh (by k_is) (zc (P_isiYes hr (by kernel_rfl) (zd ⟨fun _=>?_,fun z=>(by first | exact nb z | exact nt z | cases z)⟩))))))))))))))))
   refine zB (zB (zb rfl (zw hr (by kernel_rfl) rfl rfl (zw ex (by kernel_rfl) rfl rfl ?_))))
   exact hQ _ _ _ (h'.ext u) (s'.trans (Step.ext u)) Same.find rfl (by rw [hd];exact ⟨t2,rfl⟩)
  ·have h1:=jy hP (hpk hne)
   rw [hl] at h1
   have h1':jn v.par (zT inv)=none:=h1
   exact ⟨u,by unfold canDue jq;rw [if_neg hne,h1'],ring_len hP (hpk hne) hl,heard_ring' q⟩
 ·rintro e σ' x m' fs t tb ⟨u,hd,e5,e6⟩ hx hv
  refine ze (zO (jb (zj (zR (zB (zb rfl (P_getExc Map.set_self (by kernel_rfl) hv rfl (P_slice (jM (jN (zD fun t2 sl hsl=>P_tailSliceTo Map.set_self (by rw [sizeLine_eq];omega) fun t3=>zo fun t4=>jK (zd ⟨fun hb=>?_,fun hb=>?_⟩))))))))))))
  ·refine zo fun t5 m₃=>?_
   have u₂:=(u.set_new (ao:=.exc 336 fs tb) hx).set_new (ao:=.raw (jO .none (.int 9 t2))) hsl
   exact hQ _ v _ ((h.ext u₂).le (by omega)) (Step.ext u₂) Same.refl rfl (by rw [hd];exact ⟨t5,rfl⟩)
  ·have e3:jY e=e:=by unfold jY;rw [hb];rfl
   refine zB (zb rfl (P_getExc (Map.set_new hsl Map.set_self) (by kernel_rfl) hv rfl fun m₃=>?_))
   have u₂:=(u.set_new (ao:=.exc 336 fs tb) hx).set_new (ao:=.raw (jO .none (.int 9 t2))) hsl
   exact hQ _ v _ ((h.ext u₂).le (by omega)) (Step.ext u₂) Same.refl rfl (by rw [hd];exact ⟨t,by rw [← e6,e3]⟩)
theorem spec_lawIsa {A:Around}{n:Nat}(hA:A.frames=some c.fr) (hR:Rm A (n+8)) {a:Ad}{v:Sv}{cnt:Nat}{val:Value}{inv:Inv}{tk:Tok}{vl:Addr}{Q:Value→Loc→Map→Prop}
 (h:W prog w σ a v cnt) (hc:cnt≤880) (hi:InvAt σ val inv) (hvl:σ vl=some (.seq false [val,.str "B" tk])) (hpk:zT inv≠""→zT inv∈P6) (hobj:∀ p,inv = .obj p→p≠"")
 (hQ:∀ σ' val',Ext σ σ'→AskAt val' (isaDue v.par (zT inv))→Q val' m σ') :
 COK prog w G (zg G 336) c A (.ref 769) ⟨[.ref a.R,.ref vl,.bool false],[]⟩ m σ Q X:=by
 have hY:Fly.Leaves prog w G (zg G 336):=jc
 have hP:=h.parOk (by omega:cnt≤900)
 walk_at "fn"
 intro d hR'
 refine ze (P_try (C:=336) (X₁:=fun e σ'=>Ext σ σ'∧isaDue v.par (zT inv) = .ring∧e.length≤5000∧jY e = "ring") rfl (by kernel_rfl) (by kernel_rfl) ?_ ?_ (by k_is))
 ·refine ze (zu (jb (ja (zb rfl (zd ⟨fun z=>(by first | exact nb z | exact nt z | cases z),fun _=>?_⟩)))))
  refine zv (zh (by k_is) (zf (by kernel_rfl) (za (zb rfl (za (zb rfl (za (zD fun t1=>zc (COK.call (spec_isa (n:=n) rfl hR' h hc hi hvl hpk hobj (by decide) (fun h0 σ' t u=>?_) (fun l σ' hne hl u=>⟨fun hin t=>?_,fun hin t=>?_⟩) fun q hne hl σ' u=>?_))))))))))
  ·have hd:isaDue v.par (zT inv) = .empty:=by unfold isaDue jq;rw [if_pos h0];rfl
   refine zx (zy (zy (ze (zO (jb (ja (zv (zC (by k_is) (by boot_by_name) (by decide) (zt (za (zb rfl (za (zh (by k_is) (zc (jT (by kernel_rfl) (zd ⟨fun z=>(by first | exact nb z | exact nt z | cases z),fun _=>zb rfl ?_⟩))))))))))))))))
   exact hQ _ _ u (by rw [hd];exact ⟨t,rfl⟩)
  ·have h1:=jy hP (hpk hne)
   rw [hl] at h1
   have h1':jn v.par (zT inv)=some l:=h1
   have hd:isaDue v.par (zT inv) = .num 1:=by unfold isaDue jq;rw [if_neg hne,h1'];simp only [if_pos hin]
   refine zx (zy (zy (ze (zO (jb (ja (zv (zC (by k_is) (by boot_by_name) (by decide) (zt (za (zb rfl (za (zh (by k_is) (zc (P_isiInt (by kernel_rfl) (zd ⟨fun z=>(by first | exact nb z | exact nt z | cases z),fun _=>zb rfl ?_⟩))))))))))))))))
   exact hQ _ _ u (by rw [hd];exact ⟨t,rfl⟩)
  ·have h1:=jy hP (hpk hne)
   rw [hl] at h1
   have h1':jn v.par (zT inv)=some l:=h1
   have hd:isaDue v.par (zT inv) = .empty:=by unfold isaDue jq;rw [if_neg hne,h1'];simp only [if_neg hin]
   refine zx (zy (zy (ze (zO (jb (ja (zv (zC (by k_is) (by boot_by_name) (by decide) (zt (za (zb rfl (za (zh (by k_is) (zc (jT (by kernel_rfl) (zd ⟨fun z=>(by first | exact nb z | exact nt z | cases z),fun _=>zb rfl ?_⟩))))))))))))))))
   exact hQ _ _ u (by rw [hd];exact ⟨t,rfl⟩)
  ·have h1:=jy hP (hpk hne)
   rw [hl] at h1
   have h1':jn v.par (zT inv)=none:=h1
   exact ⟨u,by unfold isaDue jq;rw [if_neg hne,h1'],ring_len hP (hpk hne) hl,heard_ring' q⟩
 ·rintro e σ' x m' fs t tb ⟨u,hd,e5,e6⟩ hx hv
  refine ze (zO (jb (zj (zR (zB (zb rfl (P_getExc Map.set_self (by kernel_rfl) hv rfl (P_slice (jM (jN (zD fun t2 sl hsl=>P_tailSliceTo Map.set_self (by rw [sizeLine_eq];omega) fun t3=>zo fun t4=>jK (zd ⟨fun hb=>?_,fun hb=>?_⟩))))))))))))
  ·refine zo fun t5 m₃=>?_
   have u₂:=(u.set_new (ao:=.exc 336 fs tb) hx).set_new (ao:=.raw (jO .none (.int 9 t2))) hsl
   exact hQ _ _ u₂ (by rw [hd];exact ⟨t5,rfl⟩)
  ·have e3:jY e=e:=by unfold jY;rw [hb];rfl
   refine zB (zb rfl (P_getExc (Map.set_new hsl Map.set_self) (by kernel_rfl) hv rfl fun m₃=>?_))
   have u₂:=(u.set_new (ao:=.exc 336 fs tb) hx).set_new (ao:=.raw (jO .none (.int 9 t2))) hsl
   exact hQ _ _ u₂ (by rw [hd];exact ⟨t,by rw [← e6,e3]⟩)
end
section
variable {c:Cx}{X:Str→Map→Prop}{m:Loc}{σ τ:Map}
theorem app_inj_left {x y z:Str}(h:x ++ y=x ++ z):y=z:=by
 have h':(x.cps ++ y.cps)=(x.cps ++ z.cps):=congrArg Str.cps h
 have:=Array.append_right_inj x.cps |>.mp h'
 cases y;cases z;simp_all
theorem first6:∀ p∈P6,∀ q∈P6,p.cps[0]? = q.cps[0]?→p=q:=by decide
theorem pos6:∀ p∈P6,0 < p.length:=by decide
theorem cc_inj {p q n k:Str}(hp:p∈P6) (hq:q∈P6) (h:cc p n=cc q k):p=q∧n=k:=by
 have e:p=q:=by
  refine first6 p hp q hq ?_
  have h1:(cc p n).cps[0]? = p.cps[0]?:=by unfold cc;rw [app_assoc];exact cps_app (pos6 p hp)
  have h2:(cc q k).cps[0]? = q.cps[0]?:=by unfold cc;rw [app_assoc];exact cps_app (pos6 q hq)
  rw [← h1,← h2,h]
 subst e
 exact ⟨rfl,app_inj_left h⟩
theorem jm {gl:Str→Option GI}{nm j:Str}{g g':GI}(h:zM gl nm g j=some g'):(j=nm∧g'=g)∨(j≠nm∧gl j=some g'):=by
 unfold zM at h
 by_cases e:j=nm
 ·rw [if_pos e] at h;exact .inl ⟨e,(Option.some.inj h).symm⟩
 ·rw [if_neg e] at h;exact .inr ⟨e,h⟩
theorem W.heapUp {σ':Map}{a:Ad}{v:Sv}{cnt:Nat}{last':Int}(h:W prog w σ a v cnt) (u:Upd (fun b=>b=a.H) σ σ') (hH:HeapAt σ' a.H a.Z last'):W prog w σ' a { v with last:=last' } cnt:=by
 refine zk fun zz=>?_
 obtain ⟨kvs,eD,hl,hv⟩:=h.stash.hD
 obtain ⟨t1,eS⟩:=h.stash.hS
 obtain ⟨lm,tl,eH⟩:=id h.heap
 obtain ⟨g0,tg0,xs0,eM,⟨eT,_⟩,_⟩:=id h.cache.go
 obtain ⟨zs,eZ,hz⟩:=h.zero
 obtain ⟨_,_,_,_,_,_,_,_,_,_,_,_,_,eR⟩:=id h.run
 refine zz ?_;clear zz
 have nF:∀ {b:Addr} {ao:AO},σ b=some ao→(∀ fs,ao≠.inst 246 fs)→¬ b=a.H:=fun {b ao} hb h1 z=>by
  rw [z,eH] at hb;exact h1 _ (Option.some.inj hb).symm
 have nI:∀ {b:Addr} {C:Addr} {fs:List (Str × Value)},σ b=some (.inst C fs)→C≠246→¬ b=a.H:=fun {b C fs} hb h1=>nF hb (fun _ z=>h1 (AO.inst.inj z).1)
 have cd:∀ {x:Addr} {k:Int},CodeAt σ x k→CodeAt σ' x k:=fun {x k} hx=>by
  refine zk fun zz=>?_
  obtain ⟨_,_,_,_,_,_,_,_,e⟩:=id hx
  refine zz ?_;clear zz
  exact hx.upd u (nI e (by decide))
 have sc:∀ {x:Addr} {y:Value},ScalarAt σ x y→ScalarAt σ' x y:=fun {x y} hx=>by
  refine zk fun zz=>?_
  obtain ⟨_,_,_,_,_,e⟩:=id hx
  refine zz ?_;clear zz
  exact hx.upd u (nI e (by decide))
 have ar:∀ {x l:Addr} {y:Value},ArrAt σ x y l→ArrAt σ' x y l:=fun {x l y} hx=>by
  refine zk fun zz=>?_
  obtain ⟨_,_,_,_,_,e⟩:=id hx
  refine zz ?_;clear zz
  exact hx.upd u (nI e (by decide))
 have sq:∀ {x:Addr} {ys:List Value},σ x=some (.seq false ys)→σ' x=some (.seq false ys):=fun {x ys} hx=>u.get hx (nF hx (fun _ z=>by cases z))
 refine { h with
  run:=h.run.upd u (nI eR (by decide)),stash:=⟨⟨t1,u.get eS (nI eS (by decide))⟩,⟨kvs,u.get eD (nF eD fun _ z=>by cases z),hl,hv⟩,fun j g hg=>?_⟩,ctr:=u.get h.ctr (nI h.ctr (by decide)),pl:=u.get h.pl (nF h.pl fun _ z=>by cases z),
  heap:=hH,zero:=⟨zs,sq eZ,hz⟩,cache:=h.cache.upd u (nI eM (by decide)) (nF eT fun _ z=>by cases z) (fun b ys hb=>nF hb fun _ z=>by cases z),
  par:=h.par.turn (fun _=>rfl) (fun _ _ _=>ar) (fun _ _=>sq) fun q x' bl l vs h1 h2 h3 y' z hy' hs=>sc hs,
  subs:=fun p hp n hn=>?_,codes:=fun j g x h1 h2=>(h.codes j g x h1 h2).imp fun _ k=>cd k,arrs:=fun j g x h1 h2=>have k:=h.arrs j g x h1 h2;⟨k.1.imp fun _ z=>ar z,sq k.2.1,k.2.2⟩,
  itS:=fun j g x y h1 h2 h3=>(h.itS j g x y h1 h2 h3).imp fun _ k=>sc k,scs:=fun j g x h1 h2=>(h.scs j g x h1 h2).imp fun _ k=>⟨sc k.1,k.2⟩,told:=fun p y hy=>(h.told p y hy).imp fun _ k=>k.imp fun _ k=>k.imp fun _ k=>⟨k.1,k.2.1,sc k.2.2⟩ }
 ·refine zk fun zz=>?_
  obtain ⟨_,_,_,_,e⟩:=h.stash.hG j g hg
  refine zz ?_;clear zz
  exact (h.stash.hG j g hg).upd u (nI e (by decide))
 ·have:=h.subs p hp n hn
  show match v.sb p n with | none=>_ | some k=>_
  cases q:v.sb p n with
  | none=>rw [q] at this;exact this
  | some k=>rw [q] at this;obtain ⟨x,h1,h2⟩:=this;exact ⟨x,h1,cd h2⟩
end
section
variable {c:Cx}{X:Str→Map→Prop}{m:Loc}{σ τ:Map}
noncomputable def codeF' (a:Ad) (gl:Str→Option GI) (code:Option Addr) (b:Addr):Prop:=b=a.H∨b=a.D∨b=a.S∨b=a.Z∨(∃ j g,gl j=some g∧b=g.ga)∨code=some b∨(∃ j g,gl j=some g∧g.co=some b)
noncomputable def sbPut (sb:Str→Str→Option Int) (p n:Str) (k:Option Int):Str→Str→Option Int:=fun p' n'=>if p'=p∧n'=n then k else sb p' n'
end
namespace W.setCode
noncomputable def S₀ (σ:Map) (σ':Map) (a:Ad) (v:Sv) (cnt:Nat) (g:GI) (last':Int):Prop:=∀ {p:Str} {n:Str} {code:Option Addr} {k:Option Int} (h:W prog w σ a v cnt) (hp:p∈P5) (hn:n∈N10) (hg:v.gl (cc p n)=some g∨(v.gl (cc p n)=none∧σ g.ga=none∧g.sc=none∧g.ar=none∧g.co=none)) (hk:match code with | none=>k=none | some x=>∃ i,k=some i∧CodeAt σ x i) (u:Upd (codeF' a v.gl code) σ σ') (hH:HeapAt σ' a.H a.Z last') (hZ:∃ zs,σ' a.Z=some (.seq false zs)∧zs.length≤cnt+1) (hS:Stash prog w σ' a.S a.H a.D (v.gen+1) (cnt+1) (zM v.gl (cc p n) { g with co:=code })) (cd:∀ a n,CodeAt σ a n→CodeAt σ' a n),W prog w σ' a { v with last:=last',gen:=v.gen+1,gl:=zM v.gl (cc p n) { g with co:=code },sb:=sbPut v.sb p n k } (cnt+1)
noncomputable def e₀:Map × Map × Ad × Sv × Nat × GI × Int:=@Classical.epsilon _ ⟨(default,default,⟨0,0,0,0,0,0,0,0⟩,dSv,default,⟨0,none,none,none⟩,default)⟩ fun x=>¬ S₀ x.1 x.2.1 x.2.2.1 x.2.2.2.1 x.2.2.2.2.1 x.2.2.2.2.2.1 x.2.2.2.2.2.2
@[irreducible] noncomputable def σ:Map:=e₀.1
@[irreducible] noncomputable def σ':Map:=e₀.2.1
@[irreducible] noncomputable def a:Ad:=e₀.2.2.1
@[irreducible] noncomputable def v:Sv:=e₀.2.2.2.1
@[irreducible] noncomputable def cnt:Nat:=e₀.2.2.2.2.1
@[irreducible] noncomputable def g:GI:=e₀.2.2.2.2.2.1
@[irreducible] noncomputable def last':Int:=e₀.2.2.2.2.2.2
theorem here:S₀ σ σ' a v cnt g last':=by
 intro p n code k h hp hn hg hk u hH hZ hS cd
 show W prog w σ' a { v with last:=last',gen:=v.gen+1,gl:=zM v.gl (cc p n) { g with co:=code },sb:=sbPut v.sb p n k } (cnt+1)
 refine zk fun zz=>?_
 obtain ⟨kvs,eD,hl,hv⟩:=h.stash.hD
 obtain ⟨t1,eS⟩:=h.stash.hS
 obtain ⟨lm,tl,eH⟩:=id h.heap
 obtain ⟨g0,tg0,xs0,eM,⟨eT,eT2⟩,c3,c4,c5⟩:=id h.cache.go
 obtain ⟨zs,eZ,hz⟩:=h.zero
 obtain ⟨_,_,_,_,_,_,_,_,_,_,_,_,_,eR⟩:=id h.run
 refine zz ?_;clear zz
 have hcode:∀ x,code=some x→∃ i,CodeAt σ x i:=fun x e=>by subst e;obtain ⟨i,_,hi⟩:=hk;exact ⟨i,hi⟩
 have nF:∀ {b:Addr} {ao:AO},σ b=some ao→(∀ fs,ao≠.inst 246 fs)→(∀ fs,ao≠.inst 163 fs)→(∀ fs,ao≠.inst 144 fs)→(∀ fs,ao≠.inst 397 fs)→b≠a.D→b≠a.Z→¬ codeF' a v.gl code b:=fun {b ao} hb h1 h2 h3 h4 h5 h6 z=>by
  rcases z with z | z | z | z | ⟨j,g',z1,z2⟩ | z | ⟨j,g',z1,z2⟩
  ·rw [z,eH] at hb;exact h1 _ (Option.some.inj hb).symm
  ·exact h5 z
  ·rw [z,eS] at hb;exact h4 _ (Option.some.inj hb).symm
  ·exact h6 z
  ·refine zk fun zz=>?_
   obtain ⟨_,_,_,_,e⟩:=h.stash.hG j g' z1
   refine zz ?_;clear zz
   rw [z2,e] at hb;exact h2 _ (Option.some.inj hb).symm
  ·refine zk fun zz=>?_
   obtain ⟨_,_,_,_,_,_,_,_,_,e⟩:=hcode _ z
   refine zz ?_;clear zz
   rw [e] at hb;exact h3 _ (Option.some.inj hb).symm
  ·refine zk fun zz=>?_
   obtain ⟨_,_,_,_,_,_,_,_,_,e⟩:=h.codes j g' b z1 z2
   refine zz ?_;clear zz
   rw [e] at hb;exact h3 _ (Option.some.inj hb).symm
 have nD:∀ {b:Addr} {ao:AO},σ b=some ao→(∀ P,ao≠.raw P)→b≠a.D:=fun {b ao} hb h1 z=>by rw [z,eD] at hb;exact h1 _ (Option.some.inj hb).symm
 have nZ:∀ {b:Addr} {ao:AO},σ b=some ao→(∀ ys,ao≠.seq false ys)→b≠a.Z:=fun {b ao} hb h1 z=>by rw [z,eZ] at hb;exact h1 _ (Option.some.inj hb).symm
 have nI:∀ {b:Addr} {C:Addr} {fs:List (Str × Value)},σ b=some (.inst C fs)→C≠246→C≠163→C≠144→C≠397→¬ codeF' a v.gl code b:=fun {b C fs} hb h1 h2 h3 h4=>nF hb (fun _ z=>h1 (AO.inst.inj z).1) (fun _ z=>h2 (AO.inst.inj z).1) (fun _ z=>h3 (AO.inst.inj z).1) (fun _ z=>h4 (AO.inst.inj z).1) (nD hb fun _ z=>by cases z) (nZ hb fun _ z=>by cases z)
 have sc:∀ {x:Addr} {y:Value},ScalarAt σ x y→ScalarAt σ' x y:=fun {x y} hx=>by
  refine zk fun zz=>?_
  obtain ⟨_,_,_,_,_,e⟩:=id hx
  refine zz ?_;clear zz
  exact hx.upd u (nI e (by decide) (by decide) (by decide) (by decide))
 have ar:∀ {x l:Addr} {y:Value},ArrAt σ x y l→ArrAt σ' x y l:=fun {x l y} hx=>by
  refine zk fun zz=>?_
  obtain ⟨_,_,_,_,_,e⟩:=id hx
  refine zz ?_;clear zz
  exact hx.upd u (nI e (by decide) (by decide) (by decide) (by decide))
 have sq:∀ {x:Addr} {ys:List Value},x≠a.Z→σ x=some (.seq false ys)→σ' x=some (.seq false ys):=fun {x ys} hne hx=>u.get hx (nF hx (fun _ z=>by cases z) (fun _ z=>by cases z) (fun _ z=>by cases z) (fun _ z=>by cases z) (nD hx fun _ z=>by cases z) hne)
 have old:∀ {j:Str} {g':GI},zM v.gl (cc p n) { g with co:=code } j=some g'→(∃ g0,v.gl j=some g0∧g0.ga=g'.ga∧g0.sc=g'.sc∧g0.ar=g'.ar)∨(σ g'.ga=none∧g'.sc=none∧g'.ar=none∧v.gl j=none):=fun {j g'} hj=>by
  rcases jm hj with ⟨e1,e2⟩ | ⟨e1,e2⟩
  ·subst e2 e1
   rcases hg with hg | ⟨q1,q2,q3,q4,q5⟩
   ·exact .inl ⟨g,hg,rfl,rfl,rfl⟩
   ·exact .inr ⟨q2,q3,q4,q1⟩
  ·exact .inl ⟨g',e2,rfl,rfl,rfl⟩
 have back:∀ {j:Str} {g0:GI},v.gl j=some g0→∃ g',zM v.gl (cc p n) { g with co:=code } j=some g'∧g'.ga=g0.ga∧g'.sc=g0.sc∧g'.ar=g0.ar:=fun {j g0} hj=>by
  by_cases e:j=cc p n
  ·subst e
   rcases hg with hg | ⟨q1,_⟩
   ·rw [hj] at hg;cases hg
    exact ⟨_,if_pos rfl,rfl,rfl,rfl⟩
   ·rw [hj] at q1;cases q1
  ·exact ⟨g0,(if_neg e).trans hj,rfl,rfl,rfl⟩
 have arE:∀ j,(zM v.gl (cc p n) { g with co:=code } j).bind GI.ar=(v.gl j).bind GI.ar:=fun j=>by
  cases q:zM v.gl (cc p n) { g with co:=code } j with
  | none=>
   cases q2:v.gl j with
   | none=>rfl
   | some g0=>obtain ⟨g',q3,_⟩:=back q2;rw [q] at q3;cases q3
  | some g'=>
   rcases old q with ⟨g0,q1,_,_,q4⟩ | ⟨_,_,q3,q4⟩
   ·rw [q1];exact q4.symm
   ·rw [q4];exact q3
 have gaM:∀ {j:Str} {g0:GI},v.gl j=some g0→σ g0.ga≠none:=fun {j g0} hj e0=>by
  refine zk fun zz=>?_
  obtain ⟨_,_,_,_,e⟩:=h.stash.hG j g0 hj
  refine zz ?_;clear zz
  rw [e0] at e;cases e
 refine ⟨h.run.upd u (nI eR (by decide) (by decide) (by decide) (by decide)),hS,u.get h.ctr (nI h.ctr (by decide) (by decide) (by decide) (by decide)),u.get h.pl (nF h.pl (fun _ z=>by cases z) (fun _ z=>by cases z) (fun _ z=>by cases z) (fun _ z=>by cases z) h.neT.2.2.symm (nZ h.pl fun _ z=>by cases z)),hH,
  hZ,?_,fun q=>?_,h.parU,fun p=>Nat.le_succ_of_le (h.parL p),fun j g' hj=>?_,fun j j' g1 g2 h1 h2 h3=>?_,fun p' hp' n' hn'=>?_,fun j g' x' h1 h2=>?_,fun j g' x' h1 h2=>?_,fun j g' x' y' h1 h2 h3=>?_,fun j j' g1 g2 x1 x2 h1 h2 h3 h4 h5=>?_,
  fun j g' x' h1 h2=>?_,fun j j' g1 g2 x' h1 h2 h3 h4=>?_,fun j g1 x1 y1 h1 h2 h3 j' g2 h4 h5=>?_,fun q z hz=>?_,h.neT⟩
 ·refine ⟨g0,tg0,xs0,u.get eM (nI eM (by decide) (by decide) (by decide) (by decide)),(show TD _ σ _ _ from ⟨eT,eT2⟩).keeps (u.get eT (nF eT (fun _ z=>by cases z) (fun _ z=>by cases z) (fun _ z=>by cases z) (fun _ z=>by cases z) h.neT.1 (nZ eT fun _ z=>by cases z))) (fun b ys hb=>u.get hb (nF hb (fun _ z=>by cases z) (fun _ z=>by cases z) (fun _ z=>by cases z) (fun _ z=>by cases z) (nD hb fun _ z=>by cases z) (nZ hb fun _ z=>by cases z))),Nat.le_succ_of_le c3,?_,fun e=>?_⟩
  ·show g0≤v.gen+1
   omega
  ·have e':g0=v.gen+1:=e
   omega
 ·have:=h.par q
  show match (zM v.gl (cc p n) { g with co:=code } (zX q)).bind GI.ar with | none=>v.par q=[] | some x=>_
  rw [arE]
  cases q2:(v.gl (zX q)).bind GI.ar with
  | none=>rw [q2] at this;exact this
  | some x=>
   rw [q2] at this
   refine zk fun zz=>?_
   obtain ⟨bl,l,vs,k1,k2,k3⟩:=this
   obtain ⟨g2,hg2,hx2⟩:=Option.bind_eq_some_iff.mp q2
   obtain ⟨⟨bl',m1⟩,m2,m3⟩:=h.arrs _ g2 x hg2 hx2
   refine zz ?_;clear zz
   have el:l=v.ld (zX q):=k1.inj m1
   exact ⟨bl,l,vs,ar k1,sq (by rw [el];exact m3) k2,k3.map fun x y _=>sc⟩
 ·rcases jm hj with ⟨e1,_⟩ | ⟨_,e2⟩
  ·exact ⟨p,n,hp,hn,e1⟩
  ·exact h.nm j g' e2
 ·rcases old h1 with ⟨a1,q1,q2,_⟩ | ⟨q2,_,_,q4⟩ <;> rcases old h2 with ⟨b1,r1,r2,_⟩ | ⟨r2,_,_,r4⟩
  ·exact h.inj j j' a1 b1 q1 r1 (by rw [q2,r2,h3])
  ·exact absurd (by rw [q2,h3];exact r2) (gaM q1)
  ·exact absurd (by rw [r2,← h3];exact q2) (gaM r1)
  ·rcases jm h1 with ⟨e1,_⟩ | ⟨_,e1⟩
   ·rcases jm h2 with ⟨e2,_⟩ | ⟨_,e2⟩
    ·rw [e1,e2]
    ·rw [r4] at e2;cases e2
   ·rw [q4] at e1;cases e1
 ·show match sbPut v.sb p n k p' n' with | none=>coOf (zM v.gl (cc p n) { g with co:=code }) (cc p' n')=none | some k=>∃ x,coOf (zM v.gl (cc p n) { g with co:=code }) (cc p' n')=some x∧CodeAt σ' x k
  by_cases e:p'=p∧n'=n
  ·obtain ⟨rfl,rfl⟩:=e
   have e1:sbPut v.sb p' n' k p' n'=k:=if_pos ⟨rfl,rfl⟩
   have e2:coOf (zM v.gl (cc p' n') { g with co:=code }) (cc p' n')=code:=by unfold coOf zM;rw [if_pos rfl];rfl
   rw [e1,e2]
   cases code with
   | none=>rw [show k=none from hk]
   | some x=>obtain ⟨i,rfl,hi⟩:=hk;exact ⟨x,rfl,cd _ _ hi⟩
  ·have e1:sbPut v.sb p n k p' n'=v.sb p' n':=if_neg e
   have ne:cc p' n'≠cc p n:=fun z=>e (cc_inj hp' (P5_P6 hp) z)
   have e2:coOf (zM v.gl (cc p n) { g with co:=code }) (cc p' n')=coOf v.gl (cc p' n'):=by unfold coOf zM;rw [if_neg ne]
   rw [e1,e2]
   have:=h.subs p' hp' n' hn'
   cases q:v.sb p' n' with
   | none=>rw [q] at this;exact this
   | some k=>rw [q] at this;obtain ⟨x,k1,k2⟩:=this;exact ⟨x,k1,cd _ _ k2⟩
 ·rcases jm h1 with ⟨_,e2⟩ | ⟨_,e2⟩
  ·subst e2
   obtain ⟨i,hi⟩:=hcode x' h2
   exact ⟨i,cd _ _ hi⟩
  ·obtain ⟨i,hi⟩:=h.codes j g' x' e2 h2;exact ⟨i,cd _ _ hi⟩
 ·rcases old h1 with ⟨a1,q1,q2,q3,q4⟩ | ⟨_,_,q4,_⟩
  ·obtain ⟨⟨bl,k3⟩,k4,k5⟩:=h.arrs j a1 x' q1 (by rw [q4];exact h2);exact ⟨⟨bl,ar k3⟩,sq k5 k4,k5⟩
  ·rw [q4] at h2;cases h2
 ·rcases old h1 with ⟨a1,q1,q2,q3,q4⟩ | ⟨_,_,q4,_⟩
  ·obtain ⟨z,k4⟩:=h.itS j a1 x' y' q1 (by rw [q4];exact h2) h3;exact ⟨z,sc k4⟩
  ·rw [q4] at h2;cases h2
 ·rcases old h1 with ⟨a1,q1,q2,q3,q4⟩ | ⟨_,_,q4,_⟩
  ·rcases old h2 with ⟨b1,r1,r2,r3,r4⟩ | ⟨_,_,r4,_⟩
   ·exact h.arD j j' a1 b1 x1 x2 q1 r1 (by rw [q4];exact h3) (by rw [r4];exact h4) h5
   ·rw [r4] at h4;cases h4
  ·rw [q4] at h3;cases h3
 ·rcases old h1 with ⟨a1,q1,q2,q3,q4⟩ | ⟨_,q3,_,_⟩
  ·obtain ⟨y,k3,k4⟩:=h.scs j a1 x' q1 (by rw [q3];exact h2);exact ⟨y,sc k3,k4⟩
  ·rw [q3] at h2;cases h2
 ·rcases old h1 with ⟨a1,q1,q2,q3,q4⟩ | ⟨_,q3,_,_⟩
  ·rcases old h2 with ⟨b1,r1,r2,r3,r4⟩ | ⟨_,r3,_,_⟩
   ·exact h.scD j j' a1 b1 x' q1 r1 (by rw [q3];exact h3) (by rw [r3];exact h4)
   ·rw [r3] at h4;cases h4
  ·rw [q3] at h3;cases h3
 ·rcases old h1 with ⟨a1,q1,q2,q3,q4⟩ | ⟨_,_,q4,_⟩
  ·rcases old h4 with ⟨b1,r1,r2,r3,r4⟩ | ⟨_,r3,_,_⟩
   ·exact h.scI j a1 x1 y1 q1 (by rw [q4];exact h2) h3 j' b1 r1 (by rw [r3];exact h5)
   ·rw [r3] at h5;cases h5
  ·rw [q4] at h2;cases h2
 ·refine zk fun zz=>?_
  obtain ⟨g1,x1,t,k1,k2,k3⟩:=h.told q z hz
  obtain ⟨g',r1,r2,r3,r4⟩:=back k1
  refine zz ?_;clear zz
  exact ⟨g',x1,t,r1,by rw [r3];exact k2,sc k3⟩
end W.setCode
section
variable {c:Cx}{X:Str→Map→Prop}{m:Loc}{σ τ:Map}
theorem W.setCode {σ':Map}{a:Ad}{v:Sv}{cnt:Nat}{p:Str}{n:Str}{g:GI}{code:Option Addr}{k:Option Int}{last':Int}(h:W prog w σ a v cnt) (hp:p∈P5) (hn:n∈N10) (hg:v.gl (cc p n)=some g∨(v.gl (cc p n)=none∧σ g.ga=none∧g.sc=none∧g.ar=none∧g.co=none)) (hk:match code with | none=>k=none | some x=>∃ i,k=some i∧CodeAt σ x i) (u:Upd (codeF' a v.gl code) σ σ') (hH:HeapAt σ' a.H a.Z last') (hZ:∃ zs,σ' a.Z=some (.seq false zs)∧zs.length≤cnt+1) (hS:Stash prog w σ' a.S a.H a.D (v.gen+1) (cnt+1) (zM v.gl (cc p n) { g with co:=code })) (cd:∀ a n,CodeAt σ a n→CodeAt σ' a n):W prog w σ' a { v with last:=last',gen:=v.gen+1,gl:=zM v.gl (cc p n) { g with co:=code },sb:=sbPut v.sb p n k } (cnt+1):=by with_unfolding_all exact eps (fun x:Map × Map × Ad × Sv × Nat × GI × Int=>W.setCode.S₀ x.1 x.2.1 x.2.2.1 x.2.2.2.1 x.2.2.2.2.1 x.2.2.2.2.2.1 x.2.2.2.2.2.2) W.setCode.here (σ,σ',a,v,cnt,g,last') h hp hn hg hk u hH hZ hS cd
end
section
variable {c:Cx}{X:Str→Map→Prop}{m:Loc}{σ τ:Map}
end
namespace W.arrayOf
noncomputable def S₀ (σ:Map) (σ':Map) (a:Ad) (v:Sv) (cnt:Nat) (p:Str) (g:GI) (x:Addr) (last':Int) (ld':Str→Addr) (it':Str→List Addr):Prop:=∀ (h:W prog w σ a v cnt) (hp:p∈P5) (hg:v.gl (cc p "ISA")=some g∨(v.gl (cc p "ISA")=none∧σ g.ga=none∧g.sc=none∧g.ar=none∧g.co=none)) (u:Upd (jB a.H a.D v.gl) σ σ') (hH:HeapAt σ' a.H a.Z last') (hS:Stash prog w σ' a.S a.H a.D v.gen (cnt+1) (zM v.gl (cc p "ISA") { g with ar:=some x })) (hld:∀ j,j≠cc p "ISA"∨g.ar≠none→ld' j=v.ld j∧it' j=v.it j) (hx:g.ar=some x∨(g.ar=none∧σ x=none∧ArrAt σ' x .none (ld' (cc p "ISA"))∧σ (ld' (cc p "ISA"))=none∧σ' (ld' (cc p "ISA"))=some (.seq false [])∧it' (cc p "ISA")=[])),W prog w σ' a { v with last:=last',gl:=zM v.gl (cc p "ISA") { g with ar:=some x },ld:=ld',it:=it' } (cnt+1)
noncomputable def e₀:Map × Map × Ad × Sv × Nat × Str × GI × Addr × Int × (Str→Addr) × (Str→List Addr):=@Classical.epsilon _ ⟨(default,default,⟨0,0,0,0,0,0,0,0⟩,dSv,default,default,⟨0,none,none,none⟩,default,default,default,default)⟩ fun x=>¬ S₀ x.1 x.2.1 x.2.2.1 x.2.2.2.1 x.2.2.2.2.1 x.2.2.2.2.2.1 x.2.2.2.2.2.2.1 x.2.2.2.2.2.2.2.1 x.2.2.2.2.2.2.2.2.1 x.2.2.2.2.2.2.2.2.2.1 x.2.2.2.2.2.2.2.2.2.2
@[irreducible] noncomputable def σ:Map:=e₀.1
@[irreducible] noncomputable def σ':Map:=e₀.2.1
@[irreducible] noncomputable def a:Ad:=e₀.2.2.1
@[irreducible] noncomputable def v:Sv:=e₀.2.2.2.1
@[irreducible] noncomputable def cnt:Nat:=e₀.2.2.2.2.1
@[irreducible] noncomputable def p:Str:=e₀.2.2.2.2.2.1
@[irreducible] noncomputable def g:GI:=e₀.2.2.2.2.2.2.1
@[irreducible] noncomputable def x:Addr:=e₀.2.2.2.2.2.2.2.1
@[irreducible] noncomputable def last':Int:=e₀.2.2.2.2.2.2.2.2.1
@[irreducible] noncomputable def ld':Str→Addr:=e₀.2.2.2.2.2.2.2.2.2.1
@[irreducible] noncomputable def it':Str→List Addr:=e₀.2.2.2.2.2.2.2.2.2.2
theorem here:S₀ σ σ' a v cnt p g x last' ld' it':=by
 intro h hp hg u hH hS hld hx
 show W prog w σ' a { v with last:=last',gl:=zM v.gl (cc p "ISA") { g with ar:=some x },ld:=ld',it:=it' } (cnt+1)
 refine zk fun zz=>?_
 obtain ⟨kvs,eD,hl,hv⟩:=h.stash.hD
 obtain ⟨lm,tl,eH⟩:=id h.heap
 obtain ⟨g0,tg0,xs0,eM,⟨eT,eT2⟩,c3,c4,c5⟩:=id h.cache.go
 obtain ⟨zs,eZ,hz⟩:=h.zero
 obtain ⟨_,_,_,_,_,_,_,_,_,_,_,_,_,eR⟩:=id h.run
 refine zz ?_;clear zz
 have nF:∀ {b:Addr} {ao:AO},σ b=some ao→(∀ fs,ao≠.inst 246 fs)→(∀ fs,ao≠.inst 163 fs)→b≠a.D→¬ jB a.H a.D v.gl b:=fun {b ao} hb h1 h2 h3 z=>by
  rcases z with z | z | ⟨j,g',z1,z2⟩
  ·rw [z,eH] at hb;exact h1 _ (Option.some.inj hb).symm
  ·exact h3 z
  ·refine zk fun zz=>?_
   obtain ⟨_,_,_,_,e⟩:=h.stash.hG j g' z1
   refine zz ?_;clear zz
   rw [z2,e] at hb;exact h2 _ (Option.some.inj hb).symm
 have nD:∀ {b:Addr} {ao:AO},σ b=some ao→(∀ P,ao≠.raw P)→b≠a.D:=fun {b ao} hb h1 z=>by rw [z,eD] at hb;exact h1 _ (Option.some.inj hb).symm
 have cd:∀ {x:Addr} {k:Int},CodeAt σ x k→CodeAt σ' x k:=fun {x k} hx=>by
  refine zk fun zz=>?_
  obtain ⟨_,_,_,_,_,_,_,_,e⟩:=id hx
  refine zz ?_;clear zz
  exact hx.upd u (nF e (fun _ z=>by cases z) (fun _ z=>by cases z) (nD e fun _ z=>by cases z))
 have sc:∀ {x:Addr} {y:Value},ScalarAt σ x y→ScalarAt σ' x y:=fun {x y} hx=>by
  refine zk fun zz=>?_
  obtain ⟨_,_,_,_,_,e⟩:=id hx
  refine zz ?_;clear zz
  exact hx.upd u (nF e (fun _ z=>by cases z) (fun _ z=>by cases z) (nD e fun _ z=>by cases z))
 have ar:∀ {x l:Addr} {y:Value},ArrAt σ x y l→ArrAt σ' x y l:=fun {x l y} hx=>by
  refine zk fun zz=>?_
  obtain ⟨_,_,_,_,_,e⟩:=id hx
  refine zz ?_;clear zz
  exact hx.upd u (nF e (fun _ z=>by cases z) (fun _ z=>by cases z) (nD e fun _ z=>by cases z))
 have sq:∀ {x:Addr} {ys:List Value},σ x=some (.seq false ys)→σ' x=some (.seq false ys):=fun {x ys} hx=>u.get hx (nF hx (fun _ z=>by cases z) (fun _ z=>by cases z) (nD hx fun _ z=>by cases z))
 have nI:∀ {b:Addr} {C:Addr} {fs:List (Str × Value)},σ b=some (.inst C fs)→C≠246→C≠163→¬ jB a.H a.D v.gl b:=fun {b C fs} hb h1 h2=>nF hb (fun _ z=>h1 (AO.inst.inj z).1) (fun _ z=>h2 (AO.inst.inj z).1) (nD hb fun _ z=>by cases z)
 have old:∀ {j:Str} {g':GI},zM v.gl (cc p "ISA") { g with ar:=some x } j=some g'→(∃ g0,v.gl j=some g0∧g0.ga=g'.ga∧g0.sc=g'.sc∧g0.co=g'.co∧((j≠cc p "ISA"∧g0.ar=g'.ar)∨(j=cc p "ISA"∧g0=g∧g'.ar=some x))) ∨
  (j=cc p "ISA"∧σ g'.ga=none∧g'.sc=none∧g'.co=none∧v.gl j=none∧g'.ar=some x∧g.ar=none):=fun {j g'} hj=>by
  rcases jm hj with ⟨e1,e2⟩ | ⟨e1,e2⟩
  ·subst e2
   rcases hg with hg | ⟨q1,q2,q3,q4,q5⟩
   ·exact .inl ⟨g,by rw [e1];exact hg,rfl,rfl,rfl,.inr ⟨e1,rfl,rfl⟩⟩
   ·exact .inr ⟨e1,q2,q3,q5,by rw [e1];exact q1,rfl,q4⟩
  ·exact .inl ⟨g',e2,rfl,rfl,rfl,.inl ⟨e1,rfl⟩⟩
 have back:∀ {j:Str} {g0:GI},v.gl j=some g0→∃ g',zM v.gl (cc p "ISA") { g with ar:=some x } j=some g'∧g'.ga=g0.ga∧g'.sc=g0.sc∧g'.co=g0.co:=fun {j g0} hj=>by
  by_cases e:j=cc p "ISA"
  ·subst e
   rcases hg with hg | ⟨q1,_⟩
   ·rw [hj] at hg;cases hg
    exact ⟨_,if_pos rfl,rfl,rfl,rfl⟩
   ·rw [hj] at q1;cases q1
  ·exact ⟨g0,(if_neg e).trans hj,rfl,rfl,rfl⟩
 have coE:∀ j,coOf (zM v.gl (cc p "ISA") { g with ar:=some x }) j=coOf v.gl j:=fun j=>by
  unfold coOf
  cases q:zM v.gl (cc p "ISA") { g with ar:=some x } j with
  | none=>
   cases q2:v.gl j with
   | none=>rfl
   | some g0=>obtain ⟨g',q3,_⟩:=back q2;rw [q] at q3;cases q3
  | some g'=>
   rcases old q with ⟨g0,q1,_,_,q4,_⟩ | ⟨_,_,_,q3,q4,_⟩
   ·rw [q1];exact q4.symm
   ·rw [q4];exact q3
 have arC:∀ {j:Str} {g':GI} {x':Addr},zM v.gl (cc p "ISA") { g with ar:=some x } j=some g'→g'.ar=some x'→(∃ g0,v.gl j=some g0∧g0.ar=some x'∧ld' j=v.ld j∧it' j=v.it j) ∨
  (j=cc p "ISA"∧x'=x∧g.ar=none∧σ x=none∧ArrAt σ' x .none (ld' j)∧σ (ld' j)=none∧σ' (ld' j)=some (.seq false [])∧it' j=[]):=fun {j g' x'} hj hx'=>by
  rcases old hj with ⟨g0,q1,_,_,_,q5⟩ | ⟨e1,_,_,_,_,e5,e6⟩
  ·rcases q5 with ⟨e1,e2⟩ | ⟨e1,e2,e3⟩
   ·obtain ⟨r1,r2⟩:=hld j (.inl e1)
    exact .inl ⟨g0,q1,by rw [e2];exact hx',r1,r2⟩
   ·rw [hx'] at e3
    cases e3
    rcases hx with hx | ⟨k1,k2,k3,k4,k5,k6⟩
    ·obtain ⟨r1,r2⟩:=hld j (.inr (by rw [hx];exact fun z=>by cases z))
     exact .inl ⟨g0,q1,by rw [e2];exact hx,r1,r2⟩
    ·subst e1;exact .inr ⟨rfl,rfl,k1,k2,k3,k4,k5,k6⟩
  ·rw [hx'] at e5
   cases e5
   rcases hx with hx | ⟨k1,k2,k3,k4,k5,k6⟩
   ·rw [hx] at e6;cases e6
   ·subst e1;exact .inr ⟨rfl,rfl,k1,k2,k3,k4,k5,k6⟩
 have gaM:∀ {j:Str} {g0:GI},v.gl j=some g0→σ g0.ga≠none:=fun {j g0} hj e0=>by
  refine zk fun zz=>?_
  obtain ⟨_,_,_,_,e⟩:=h.stash.hG j g0 hj
  refine zz ?_;clear zz
  rw [e0] at e;cases e
 refine ⟨h.run.upd u (nI eR (by decide) (by decide)),hS,u.get h.ctr (nI h.ctr (by decide) (by decide)),u.get h.pl (nF h.pl (fun _ z=>by cases z) (fun _ z=>by cases z) h.neT.2.2.symm),hH,
  ⟨zs,sq eZ,by omega⟩,?_,fun q=>?_,h.parU,fun p=>Nat.le_succ_of_le (h.parL p),fun j g' hj=>?_,fun j j' g1 g2 h1 h2 h3=>?_,fun p' hp' n' hn'=>?_,fun j g' x' h1 h2=>?_,fun j g' x' h1 h2=>?_,fun j g' x' y' h1 h2 h3=>?_,fun j j' g1 g2 x1 x2 h1 h2 h3 h4 h5=>?_,
  fun j g' x' h1 h2=>?_,fun j j' g1 g2 x' h1 h2 h3 h4=>?_,fun j g1 x1 y1 h1 h2 h3 j' g2 h4 h5=>?_,fun q z hz=>?_,h.neT⟩
 ·have hc:=h.cache.upd u (nI eM (by decide) (by decide)) (nF eT (fun _ z=>by cases z) (fun _ z=>by cases z) h.neT.1) (fun b ys hb=>nF hb (fun _ z=>by cases z) (fun _ z=>by cases z) (nD hb fun _ z=>by cases z))
  refine zk fun zz=>?_
  obtain ⟨g1,tg1,xs1,c1,c2,c3,c4,c5⟩:=(hc.congr coE).go
  refine zz ?_;clear zz
  exact ⟨g1,tg1,xs1,c1,c2,Nat.le_succ_of_le c3,c4,c5⟩
 ·have:=h.par q
  show match (zM v.gl (cc p "ISA") { g with ar:=some x } (zX q)).bind GI.ar with | none=>v.par q=[] | some x=>_
  cases q2:(zM v.gl (cc p "ISA") { g with ar:=some x } (zX q)).bind GI.ar with
  | none=>
   cases q3:(v.gl (zX q)).bind GI.ar with
   | none=>rw [q3] at this;exact this
   | some x0=>
    exfalso
    refine zk fun zz=>?_
    obtain ⟨g0,r1,r2⟩:=Option.bind_eq_some_iff.mp q3
    refine zz ?_;clear zz
    by_cases e:zX q=cc p "ISA"
    ·rw [e] at q2
     have:(zM v.gl (cc p "ISA") { g with ar:=some x } (cc p "ISA")).bind GI.ar=some x:=by unfold zM;rw [if_pos rfl];rfl
     rw [this] at q2;cases q2
    ·have:(zM v.gl (cc p "ISA") { g with ar:=some x } (zX q)).bind GI.ar=some x0:=by unfold zM;rw [if_neg e,r1];exact r2
     rw [this] at q2;cases q2
  | some x'=>
   refine zk fun zz=>?_
   obtain ⟨g',r1,r2⟩:=Option.bind_eq_some_iff.mp q2
   refine zz ?_;clear zz
   rcases arC r1 r2 with ⟨g1,s1,s2,s3,s4⟩ | ⟨s1,s2,s3,s4,s5,s6,s7,s8⟩
   ·have e3:(v.gl (zX q)).bind GI.ar=some x':=by rw [s1];exact s2
    rw [e3] at this
    refine zk fun zz=>?_
    obtain ⟨bl,l,vs,k1,k2,k3⟩:=this
    refine zz ?_;clear zz
    exact ⟨bl,l,vs,ar k1,sq k2,k3.map fun x y _=>sc⟩
   ·have e3:(v.gl (zX q)).bind GI.ar=none:=by
     rw [s1]
     rcases hg with hg | ⟨hg,_⟩
     ·rw [hg];exact s3
     ·rw [hg];rfl
    rw [e3] at this
    have this':v.par q=[]:=this
    rw [s2,this']
    exact ⟨.none,_,[],s5,s7,trivial⟩
 ·rcases jm hj with ⟨e1,_⟩ | ⟨_,e2⟩
  ·exact ⟨p,_,hp,by decide,e1⟩
  ·exact h.nm j g' e2
 ·rcases old h1 with ⟨a1,q1,q2,_⟩ | ⟨q1,q2,_⟩ <;> rcases old h2 with ⟨b1,r1,r2,_⟩ | ⟨r1,r2,_⟩
  ·exact h.inj j j' a1 b1 q1 r1 (by rw [q2,r2,h3])
  ·exact absurd (by rw [q2,h3];exact r2) (gaM q1)
  ·exact absurd (by rw [r2,← h3];exact q2) (gaM r1)
  ·rw [q1,r1]
 ·have:=h.subs p' hp' n' hn'
  show match v.sb p' n' with | none=>coOf (zM v.gl (cc p "ISA") { g with ar:=some x }) _=none | some k=>∃ x',coOf (zM v.gl (cc p "ISA") { g with ar:=some x }) _=some x'∧_
  rw [coE]
  cases q:v.sb p' n' with
  | none=>rw [q] at this;exact this
  | some k=>rw [q] at this;obtain ⟨x,k1,k2⟩:=this;exact ⟨x,k1,cd k2⟩
 ·rcases old h1 with ⟨a1,q1,q2,q3,q4,_⟩ | ⟨_,_,_,q4,_⟩
  ·obtain ⟨i,hi⟩:=h.codes j a1 x' q1 (by rw [q4];exact h2);exact ⟨i,cd hi⟩
  ·rw [q4] at h2;cases h2
 ·rcases arC h1 h2 with ⟨a1,s1,s2,s3,s4⟩ | ⟨s1,s2,s3,s4,s5,s6,s7,s8⟩
  ·refine zk fun zz=>?_
   obtain ⟨⟨bl,k3⟩,k4,k5⟩:=h.arrs j a1 x' s1 s2
   refine zz ?_;clear zz
   show (∃ bl,ArrAt σ' x' bl (ld' j))∧σ' (ld' j)=some (.seq false ((it' j).map .ref))∧ld' j≠a.Z
   rw [s3,s4]
   exact ⟨⟨bl,ar k3⟩,sq k4,k5⟩
  ·show (∃ bl,ArrAt σ' x' bl (ld' j))∧σ' (ld' j)=some (.seq false ((it' j).map .ref))∧ld' j≠a.Z
   rw [s2,s8]
   exact ⟨⟨_,s5⟩,s7,fun z=>by rw [z,eZ] at s6;cases s6⟩
 ·rcases arC h1 h2 with ⟨a1,s1,s2,s3,s4⟩ | ⟨s1,s2,s3,s4,s5,s6,s7,s8⟩
  ·have h3':y'∈it' j:=h3
   rw [s4] at h3'
   obtain ⟨z,k4⟩:=h.itS j a1 x' y' s1 s2 h3';exact ⟨z,sc k4⟩
  ·have h3':y'∈it' j:=h3
   rw [s8] at h3';cases h3'
 ·have h5':x1=x2∨ld' j=ld' j':=h5
  rcases arC h1 h3 with ⟨a1,s1,s2,s3,s4⟩ | ⟨s1,s2,s3,s4,s5,s6,s7,s8⟩ <;> rcases arC h2 h4 with ⟨b1,t1,t2,t3,t4⟩ | ⟨t1,t2,t3,t4,t5,t6,t7,t8⟩
  ·exact h.arD j j' a1 b1 x1 x2 s1 t1 s2 t2 (by rw [← s3,← t3];exact h5')
  ·exfalso
   refine zk fun zz=>?_
   obtain ⟨⟨bl,_,_,_,_,_,k3⟩,k4,k5⟩:=h.arrs j a1 x1 s1 s2
   refine zz ?_;clear zz
   rcases h5' with e | e
   ·rw [e,t2,t4] at k3;cases k3
   ·rw [← s3,e,t6] at k4;cases k4
  ·exfalso
   refine zk fun zz=>?_
   obtain ⟨⟨bl,_,_,_,_,_,k3⟩,k4,k5⟩:=h.arrs j' b1 x2 t1 t2
   refine zz ?_;clear zz
   rcases h5' with e | e
   ·rw [← e,s2,s4] at k3;cases k3
   ·rw [← t3,← e,s6] at k4;cases k4
  ·rw [s1,t1]
 ·rcases old h1 with ⟨a1,q1,q2,q3,_⟩ | ⟨_,_,q3,_⟩
  ·obtain ⟨y,k3,k4⟩:=h.scs j a1 x' q1 (by rw [q3];exact h2);exact ⟨y,sc k3,k4⟩
  ·rw [q3] at h2;cases h2
 ·rcases old h1 with ⟨a1,q1,q2,q3,_⟩ | ⟨_,_,q3,_⟩
  ·rcases old h2 with ⟨b1,r1,r2,r3,_⟩ | ⟨_,_,r3,_⟩
   ·exact h.scD j j' a1 b1 x' q1 r1 (by rw [q3];exact h3) (by rw [r3];exact h4)
   ·rw [r3] at h4;cases h4
  ·rw [q3] at h3;cases h3
 ·rcases arC h1 h2 with ⟨a1,s1,s2,s3,s4⟩ | ⟨s1,s2,s3,s4,s5,s6,s7,s8⟩
  ·have h3':y1∈it' j:=h3
   rw [s4] at h3'
   rcases old h4 with ⟨b1,r1,r2,r3,_⟩ | ⟨_,_,r3,_⟩
   ·exact h.scI j a1 x1 y1 s1 s2 h3' j' b1 r1 (by rw [r3];exact h5)
   ·rw [r3] at h5;cases h5
  ·have h3':y1∈it' j:=h3
   rw [s8] at h3';cases h3'
 ·refine zk fun zz=>?_
  obtain ⟨g1,x1,t,k1,k2,k3⟩:=h.told q z hz
  obtain ⟨g',r1,r2,r3,r4⟩:=back k1
  refine zz ?_;clear zz
  exact ⟨g',x1,t,r1,by rw [r3];exact k2,sc k3⟩
end W.arrayOf
section
variable {c:Cx}{X:Str→Map→Prop}{m:Loc}{σ τ:Map}
theorem W.arrayOf {σ':Map}{a:Ad}{v:Sv}{cnt:Nat}{p:Str}{g:GI}{x:Addr}{last':Int}{ld':Str→Addr}{it':Str→List Addr}(h:W prog w σ a v cnt) (hp:p∈P5) (hg:v.gl (cc p "ISA")=some g∨(v.gl (cc p "ISA")=none∧σ g.ga=none∧g.sc=none∧g.ar=none∧g.co=none)) (u:Upd (jB a.H a.D v.gl) σ σ') (hH:HeapAt σ' a.H a.Z last') (hS:Stash prog w σ' a.S a.H a.D v.gen (cnt+1) (zM v.gl (cc p "ISA") { g with ar:=some x })) (hld:∀ j,j≠cc p "ISA"∨g.ar≠none→ld' j=v.ld j∧it' j=v.it j) (hx:g.ar=some x∨(g.ar=none∧σ x=none∧ArrAt σ' x .none (ld' (cc p "ISA"))∧σ (ld' (cc p "ISA"))=none∧σ' (ld' (cc p "ISA"))=some (.seq false [])∧it' (cc p "ISA")=[])):W prog w σ' a { v with last:=last',gl:=zM v.gl (cc p "ISA") { g with ar:=some x },ld:=ld',it:=it' } (cnt+1):=by with_unfolding_all exact eps (fun x:Map × Map × Ad × Sv × Nat × Str × GI × Addr × Int × (Str→Addr) × (Str→List Addr)=>W.arrayOf.S₀ x.1 x.2.1 x.2.2.1 x.2.2.2.1 x.2.2.2.2.1 x.2.2.2.2.2.1 x.2.2.2.2.2.2.1 x.2.2.2.2.2.2.2.1 x.2.2.2.2.2.2.2.2.1 x.2.2.2.2.2.2.2.2.2.1 x.2.2.2.2.2.2.2.2.2.2) W.arrayOf.here (σ,σ',a,v,cnt,p,g,x,last',ld',it') h hp hg u hH hS hld hx
end
section
variable {c:Cx}{X:Str→Map→Prop}{m:Loc}{σ τ:Map}
noncomputable def updF {β:Type}(f:Str→β) (j:Str) (b:β):Str→β:=fun i=>if i=j then b else f i
theorem jp {β:Type}{f:Str→β}{j:Str}{b:β}:updF f j b j=b:=if_pos rfl
theorem jV {β:Type}{f:Str→β}{i j:Str}{b:β}(h:i≠j):updF f j b i=f i:=if_neg h
theorem W.arrPut {σ':Map}{a:Ad}{v:Sv}{cnt:Nat}{p:Str}{g:GI}{x l':Addr}{its:List Addr}{qs:List Str}(h:W prog w σ a v cnt) (hp:p∈P5) (hg:v.gl (cc p "ISA")=some g) (hx:g.ar=some x)
 (u:Upd (fun b=>b=x∨b=v.ld (cc p "ISA")) σ σ') (hA:∃ bl,ArrAt σ' x bl l') (hL:σ' l'=some (.seq false (its.map .ref))) (hl:l'=v.ld (cc p "ISA")∨σ l'=none)
 (hit:∀ y∈its,(y∈v.it (cc p "ISA")∨∀ j' g',v.gl j'=some g'→g'.sc≠some y)∧∃ z,ScalarAt σ' y z) (hI:ItemsAt σ' (its.map .ref) qs) (hq:∀ q∈qs,q∈P6) (hql:qs.length≤cnt+1) :
 W prog w σ' a { v with ld:=updF v.ld (cc p "ISA") l',it:=updF v.it (cc p "ISA") its,par:=updF v.par p qs } (cnt+1):=by
 refine zk fun zz=>?_
 obtain ⟨kvs,eD,hkl,hv⟩:=h.stash.hD
 obtain ⟨t1,eS⟩:=h.stash.hS
 obtain ⟨lm,tl,eH⟩:=id h.heap
 obtain ⟨g0,tg0,xs0,eM,⟨eT,eT2⟩,c3,c4,c5⟩:=id h.cache.go
 obtain ⟨zs,eZ,hz⟩:=h.zero
 obtain ⟨_,_,_,_,_,_,_,_,_,_,_,_,_,eR⟩:=id h.run
 obtain ⟨⟨blx,nx,tx,kx,tx',wkx,ex⟩,elx,nZ⟩:=h.arrs _ g x hg hx
 refine zz ?_;clear zz
 have nF:∀ {b:Addr} {ao:AO},σ b=some ao→(∀ fs,ao≠.inst 106 fs)→b≠v.ld (cc p "ISA")→¬ (b=x∨b=v.ld (cc p "ISA")):=fun {b ao} hb h1 h2 z=>by
  rcases z with z | z
  ·rw [z,ex] at hb;exact h1 _ (Option.some.inj hb).symm
  ·exact h2 z
 have nL:∀ {b:Addr} {ao:AO},σ b=some ao→(∀ ys,ao≠.seq false ys)→b≠v.ld (cc p "ISA"):=fun {b ao} hb h1 z=>by rw [z,elx] at hb;exact h1 _ (Option.some.inj hb).symm
 have nI:∀ {b:Addr} {C:Addr} {fs:List (Str × Value)},σ b=some (.inst C fs)→C≠106→¬ (b=x∨b=v.ld (cc p "ISA")):=fun {b C fs} hb h1=>nF hb (fun _ z=>h1 (AO.inst.inj z).1) (nL hb fun _ z=>by cases z)
 have cd:∀ {x:Addr} {k:Int},CodeAt σ x k→CodeAt σ' x k:=fun {x k} hx=>by
  refine zk fun zz=>?_
  obtain ⟨_,_,_,_,_,_,_,_,e⟩:=id hx
  refine zz ?_;clear zz
  exact hx.upd u (nI e (by decide))
 have sc:∀ {x:Addr} {y:Value},ScalarAt σ x y→ScalarAt σ' x y:=fun {x y} hx=>by
  refine zk fun zz=>?_
  obtain ⟨_,_,_,_,_,e⟩:=id hx
  refine zz ?_;clear zz
  exact hx.upd u (nI e (by decide))
 have oth:∀ {j:Str} {g1:GI} {x1:Addr},j≠cc p "ISA"→v.gl j=some g1→g1.ar=some x1→x1≠x∧v.ld j≠v.ld (cc p "ISA"):=fun {j g1 x1} hne h1 h2=>
  ⟨fun z=>hne (h.arD j _ g1 g x1 x h1 hg h2 hx (.inl z)),fun z=>hne (h.arD j _ g1 g x1 x h1 hg h2 hx (.inr z))⟩
 have ar:∀ {x1 l:Addr} {y:Value},x1≠x→ArrAt σ x1 y l→ArrAt σ' x1 y l:=fun {x1 l y} hne hx1=>by
  refine zk fun zz=>?_
  obtain ⟨_,_,_,_,_,e⟩:=id hx1
  refine zz ?_;clear zz
  exact hx1.upd u (fun z=>by
   rcases z with z | z
   ·exact hne z
   ·exact nL e (fun _ z=>by cases z) z)
 have sq:∀ {b:Addr} {ys:List Value},b≠v.ld (cc p "ISA")→σ b=some (.seq false ys)→σ' b=some (.seq false ys):=fun {b ys} hne hb=>u.get hb (nF hb (fun _ z=>by cases z) hne)
 have lN:∀ {b:Addr},σ b≠none→b≠v.ld (cc p "ISA")→b≠l':=fun {b} hb hne z=>by
  rcases hl with e | e
  ·exact hne (z.trans e)
  ·rw [z] at hb;exact hb e
 refine ⟨h.run.upd u (nI eR (by decide)),⟨⟨t1,u.get eS (nI eS (by decide))⟩,⟨kvs,u.get eD (nF eD (fun _ z=>by cases z) (nL eD fun _ z=>by cases z)),by omega,hv⟩,fun j g1 hg1=>?_⟩,u.get h.ctr (nI h.ctr (by decide)),u.get h.pl (nF h.pl (fun _ z=>by cases z) (nL h.pl fun _ z=>by cases z)),
  h.heap.upd u (nI eH (by decide)),⟨zs,sq nZ.symm eZ,by omega⟩,?_,fun q=>?_,fun q r hr=>?_,fun q=>?_,h.nm,h.inj,fun p' hp' n' hn'=>?_,fun j g' x' h1 h2=>?_,fun j g' x' h1 h2=>?_,fun j g' x' y' h1 h2 h3=>?_,fun j j' g1 g2 x1 x2 h1 h2 h3 h4 h5=>?_,
  fun j g' x' h1 h2=>?_,h.scD,fun j g1 x1 y1 h1 h2 h3 j' g2 h4 h5=>?_,fun q z hz=>?_,h.neT⟩
 ·refine zk fun zz=>?_
  obtain ⟨_,_,_,_,e⟩:=h.stash.hG j g1 hg1
  refine zz ?_;clear zz
  exact (h.stash.hG j g1 hg1).upd u (nI e (by decide))
 ·have hc:=h.cache.upd u (nI eM (by decide)) (nF eT (fun _ z=>by cases z) (nL eT fun _ z=>by cases z)) (fun b ys hb=>nF hb (fun _ z=>by cases z) (nL hb fun _ z=>by cases z))
  refine zk fun zz=>?_
  obtain ⟨g1,tg1,xs1,c1,c2,c3,c4,c5⟩:=hc.go
  refine zz ?_;clear zz
  exact ⟨g1,tg1,xs1,c1,c2,Nat.le_succ_of_le c3,c4,c5⟩
 ·have:=h.par q
  show match (v.gl (zX q)).bind GI.ar with | none=>updF v.par p qs q=[] | some x=>_
  by_cases e:q=p
  ·subst e
   have e3:(v.gl (zX q)).bind GI.ar=some x:=by rw [cc_isa,hg];exact hx
   rw [e3]
   obtain ⟨bl,hA⟩:=hA
   exact ⟨bl,l',_,hA,hL,by show ItemsAt σ' _ (updF v.par q qs q);rw [jp];exact hI⟩
  ·rw [jV e]
   cases q2:(v.gl (zX q)).bind GI.ar with
   | none=>rw [q2] at this;exact this
   | some x2=>
    rw [q2] at this
    refine zk fun zz=>?_
    obtain ⟨bl,l,vs,k1,k2,k3⟩:=this
    obtain ⟨g2,r1,r2⟩:=Option.bind_eq_some_iff.mp q2
    refine zz ?_;clear zz
    have hne:zX q≠cc p "ISA":=fun z=>e (cc_inj_left (by rw [← cc_isa];exact z))
    refine zk fun zz=>?_
    obtain ⟨o1,o2⟩:=oth hne r1 r2
    obtain ⟨⟨bl',m1⟩,_,_⟩:=h.arrs _ g2 x2 r1 r2
    refine zz ?_;clear zz
    have el:l=v.ld (zX q):=k1.inj m1
    exact ⟨bl,l,vs,ar o1 k1,sq (by rw [el];exact o2) k2,by show ItemsAt σ' _ (updF v.par p qs q);rw [jV e];exact k3.map fun x y _=>sc⟩
 ·have hr':r∈updF v.par p qs q:=hr
  unfold updF at hr'
  split at hr'
  ·exact hq r hr'
  ·exact h.parU q r hr'
 ·show (updF v.par p qs q).length≤_
  unfold updF
  split
  ·exact hql
  ·exact Nat.le_succ_of_le (h.parL q)
 ·have:=h.subs p' hp' n' hn'
  show match v.sb p' n' with | none=>_ | some k=>_
  cases q:v.sb p' n' with
  | none=>rw [q] at this;exact this
  | some k=>rw [q] at this;obtain ⟨x,k1,k2⟩:=this;exact ⟨x,k1,cd k2⟩
 ·obtain ⟨i,hi⟩:=h.codes j g' x' h1 h2;exact ⟨i,cd hi⟩
 ·show (∃ bl,ArrAt σ' x' bl (updF v.ld (cc p "ISA") l' j))∧σ' (updF v.ld (cc p "ISA") l' j)=some (.seq false ((updF v.it (cc p "ISA") its j).map .ref))∧updF v.ld (cc p "ISA") l' j≠a.Z
  by_cases e:j=cc p "ISA"
  ·subst e
   have:g'=g:=by have h1':v.gl (cc p "ISA")=some g':=h1;rw [hg] at h1';exact (Option.some.inj h1').symm
   subst this
   rw [hx] at h2;cases h2
   rw [jp,jp]
   exact ⟨hA,hL,(lN (by rw [eZ];exact fun z=>by cases z) nZ.symm).symm⟩
  ·rw [jV e,jV e]
   refine zk fun zz=>?_
   obtain ⟨o1,o2⟩:=oth e h1 h2
   obtain ⟨⟨bl,k3⟩,k4,k5⟩:=h.arrs j g' x' h1 h2
   refine zz ?_;clear zz
   exact ⟨⟨bl,ar o1 k3⟩,sq o2 k4,k5⟩
 ·have h3':y'∈updF v.it (cc p "ISA") its j:=h3
  unfold updF at h3'
  split at h3'
  ·exact (hit y' h3').2
  ·obtain ⟨z,k4⟩:=h.itS j g' x' y' h1 h2 h3';exact ⟨z,sc k4⟩
 ·have h5':x1=x2∨updF v.ld (cc p "ISA") l' j=updF v.ld (cc p "ISA") l' j':=h5
  by_cases e:j=cc p "ISA" <;> by_cases e2:j'=cc p "ISA"
  ·rw [e,e2]
  ·rw [e,jp,jV e2] at h5'
   obtain ⟨o1,o2⟩:=oth e2 h2 h4
   have hxx:x1=x:=by
    have h1':v.gl j=some g1:=h1
    rw [e,hg] at h1';cases h1';rw [hx] at h3;exact (Option.some.inj h3).symm
   rcases h5' with z | z
   ·exact absurd (z.symm.trans hxx) o1
   ·refine zk fun zz=>?_
    obtain ⟨_,k4,_⟩:=h.arrs j' g2 x2 h2 h4
    refine zz ?_;clear zz
    exact absurd z.symm (lN (by rw [k4];exact fun z=>by cases z) o2)
  ·rw [e2,jp,jV e] at h5'
   obtain ⟨o1,o2⟩:=oth e h1 h3
   have hxx:x2=x:=by
    have h2':v.gl j'=some g2:=h2
    rw [e2,hg] at h2';cases h2';rw [hx] at h4;exact (Option.some.inj h4).symm
   rcases h5' with z | z
   ·exact absurd (z.trans hxx) o1
   ·refine zk fun zz=>?_
    obtain ⟨_,k4,_⟩:=h.arrs j g1 x1 h1 h3
    refine zz ?_;clear zz
    exact absurd z (lN (by rw [k4];exact fun z=>by cases z) o2)
  ·rw [jV e,jV e2] at h5'
   exact h.arD j j' g1 g2 x1 x2 h1 h2 h3 h4 h5'
 ·obtain ⟨y,k3,k4⟩:=h.scs j g' x' h1 h2;exact ⟨y,sc k3,k4⟩
 ·have h3':y1∈updF v.it (cc p "ISA") its j:=h3
  unfold updF at h3'
  split at h3'
  ·rename_i e
   rcases (hit y1 h3').1 with q | q
   ·exact h.scI _ g x y1 hg hx q j' g2 h4 h5
   ·exact q j' g2 h4 h5
  ·exact h.scI j g1 x1 y1 h1 h2 h3' j' g2 h4 h5
 ·refine zk fun zz=>?_
  obtain ⟨g1,x1,t,k1,k2,k3⟩:=h.told q z hz
  refine zz ?_;clear zz
  exact ⟨g1,x1,t,k1,k2,sc k3⟩
end
section
variable {c:Cx}{X:Str→Map→Prop}{m:Loc}{σ τ:Map}
theorem Foot.base {a:Ad}{v v':Sv}{b:Addr}(h:Foot a v b) (hT:v.TB=v'.TB):Foot a v' b∨∃ j g,v.gl j=some g∧(b=g.ga∨g.sc=some b∨g.ar=some b∨g.co=some b∨(g.ar.isSome=true∧(b=v.ld j∨b∈v.it j))):=by
 rcases h with h | h | h | h | h | h | h | h | h | h
 ·exact .inl (.inl h)
 ·exact .inl (.inr (.inl h))
 ·exact .inl (.inr (.inr (.inl h)))
 ·exact .inl (.inr (.inr (.inr (.inl h))))
 ·exact .inl (.inr (.inr (.inr (.inr (.inl h)))))
 ·exact .inl (.inr (.inr (.inr (.inr (.inr (.inl h))))))
 ·exact .inl (.inr (.inr (.inr (.inr (.inr (.inr (.inl h)))))))
 ·exact .inl (.inr (.inr (.inr (.inr (.inr (.inr (.inr (.inl h))))))))
 ·exact .inl (.inr (.inr (.inr (.inr (.inr (.inr (.inr (.inr (.inl (by rw [h,hT]))))))))))
 ·exact .inr h
theorem Foot.S {a:Ad}{v:Sv}:Foot a v a.S:=.inr (.inl rfl)
theorem Foot.H {a:Ad}{v:Sv}:Foot a v a.H:=.inr (.inr (.inl rfl))
theorem Foot.D {a:Ad}{v:Sv}:Foot a v a.D:=.inr (.inr (.inr (.inl rfl)))
theorem Foot.Z {a:Ad}{v:Sv}:Foot a v a.Z:=.inr (.inr (.inr (.inr (.inr (.inl rfl)))))
theorem W.dom {a:Ad}{v:Sv}{cnt:Nat}(h:W prog w σ a v cnt):∀ b,Foot a v b→∃ ao,σ b=some ao∧∀ ys,ao≠.seq true ys:=fun b hb=>by
 refine zk fun zz=>?_
 obtain ⟨kvs,eD,hkl,hv⟩:=h.stash.hD
 obtain ⟨t1,eS⟩:=h.stash.hS
 obtain ⟨lm,tl,eH⟩:=id h.heap
 obtain ⟨g0,tg0,xs0,eM,⟨eT,eT2⟩,c3,c4,c5⟩:=id h.cache.go
 obtain ⟨zs,eZ,hz⟩:=h.zero
 obtain ⟨_,_,_,_,_,_,_,_,_,_,_,_,_,eR⟩:=id h.run
 refine zz ?_;clear zz
 rcases hb with e | e | e | e | e | e | e | e | e | ⟨j,g,h1,h2⟩
 ·exact ⟨_,by rw [e];exact eR,fun ys z=>by cases z⟩
 ·exact ⟨_,by rw [e];exact eS,fun ys z=>by cases z⟩
 ·exact ⟨_,by rw [e];exact eH,fun ys z=>by cases z⟩
 ·exact ⟨_,by rw [e];exact eD,fun ys z=>by cases z⟩
 ·exact ⟨_,by rw [e];exact h.ctr,fun ys z=>by cases z⟩
 ·exact ⟨_,by rw [e];exact eZ,fun ys z=>by cases z⟩
 ·exact ⟨_,by rw [e];exact h.pl,fun ys z=>by cases z⟩
 ·exact ⟨_,by rw [e];exact eM,fun ys z=>by cases z⟩
 ·exact ⟨_,by rw [e];exact eT,fun ys z=>by cases z⟩
 ·rcases h2 with h2 | h2 | h2 | h2 | ⟨h2,h3⟩
  ·refine zk fun zz=>?_
   obtain ⟨_,_,_,_,e⟩:=h.stash.hG j g h1
   refine zz ?_;clear zz
   exact ⟨_,by rw [h2];exact e,fun ys z=>by cases z⟩
  ·refine zk fun zz=>?_
   obtain ⟨y,⟨_,_,_,_,_,e⟩,_⟩:=h.scs j g b h1 h2
   refine zz ?_;clear zz
   exact ⟨_,e,fun ys z=>by cases z⟩
  ·refine zk fun zz=>?_
   obtain ⟨⟨bl,_,_,_,_,_,e⟩,_⟩:=h.arrs j g b h1 h2
   refine zz ?_;clear zz
   exact ⟨_,e,fun ys z=>by cases z⟩
  ·refine zk fun zz=>?_
   obtain ⟨i,_,_,_,_,_,_,_,_,e⟩:=h.codes j g b h1 h2
   refine zz ?_;clear zz
   exact ⟨_,e,fun ys z=>by cases z⟩
  ·refine zk fun zz=>?_
   obtain ⟨x,hx⟩:=Option.isSome_iff_exists.mp h2
   obtain ⟨_,e2,_⟩:=h.arrs j g x h1 hx
   refine zz ?_;clear zz
   rcases h3 with h3 | h3
   ·exact ⟨_,by rw [h3];exact e2,fun ys z=>by cases z⟩
   ·refine zk fun zz=>?_
    obtain ⟨z,_,_,_,_,_,e⟩:=h.itS j g x b h1 hx h3
    refine zz ?_;clear zz
    exact ⟨_,e,fun ys z=>by cases z⟩
theorem Step.heapUp {a:Ad}{v:Sv}{σ σ':Map}{last':Int}(u:Upd (fun b=>b=a.H) σ σ'):Step a v σ { v with last:=last' } σ':=⟨u.mono fun b e=>by rw [e];exact Foot.H,fun b h=>.inl h⟩
theorem Step.setCode {a:Ad}{v:Sv}{σ σ':Map}{nm:Str}{g:GI}{code:Option Addr}{last' gen':Int}{sb':Str→Str→Option Int}(hg:v.gl nm=some g∨(v.gl nm=none∧σ g.ga=none∧g.sc=none∧g.ar=none∧g.co=none))
 (hc:∀ x,code=some x→σ x=none) (u:Upd (Foot a v) σ σ'):Step a v σ { v with last:=last',gen:=gen',gl:=zM v.gl nm { g with co:=code },sb:=sb' } σ':=by
 refine ⟨u,fun b h=>?_⟩
 rcases h.base (v':=v) rfl with h | ⟨j,g',h1,h2⟩
 ·exact .inl h
 ·rcases jm h1 with ⟨e1,e2⟩ | ⟨_,e2⟩
  ·subst e2 e1
   rcases hg with hg | ⟨q1,q2,q3,q4,q5⟩
   ·rcases h2 with h2 | h2 | h2 | h2 | h2
    ·exact .inl (Foot.gl hg (.inl h2))
    ·exact .inl (Foot.gl hg (.inr (.inl h2)))
    ·exact .inl (Foot.gl hg (.inr (.inr (.inl h2))))
    ·exact .inr (hc b h2)
    ·exact .inl (Foot.gl hg (.inr (.inr (.inr (.inr h2)))))
   ·rcases h2 with h2 | h2 | h2 | h2 | h2
    ·exact .inr (by rw [h2];exact q2)
    ·have h2':g.sc=some b:=h2
     rw [q3] at h2';cases h2'
    ·have h2':g.ar=some b:=h2
     rw [q4] at h2';cases h2'
    ·exact .inr (hc b h2)
    ·have h2':g.ar.isSome=true:=h2.1
     rw [q4] at h2';cases h2'
  ·exact .inl (Foot.gl e2 h2)
theorem Step.arrayOf {a:Ad}{v:Sv}{σ σ':Map}{nm:Str}{g:GI}{x:Addr}{last':Int}{ld':Str→Addr}{it':Str→List Addr}(hg:v.gl nm=some g∨(v.gl nm=none∧σ g.ga=none∧g.sc=none∧g.ar=none∧g.co=none))
 (hld:∀ j,j≠nm∨g.ar≠none→ld' j=v.ld j∧it' j=v.it j) (hx:g.ar=some x∨(g.ar=none∧σ x=none∧σ (ld' nm)=none∧it' nm=[])) (u:Upd (jB a.H a.D v.gl) σ σ') :
 Step a v σ { v with last:=last',gl:=zM v.gl nm { g with ar:=some x },ld:=ld',it:=it' } σ':=by
 refine ⟨u.mono fun b h=>?_,fun b h=>?_⟩
 ·rcases h with h | h | ⟨j,g',h1,h2⟩
  ·rw [h];exact Foot.H
  ·rw [h];exact Foot.D
  ·exact Foot.gl h1 (.inl h2)
 rcases h.base (v':=v) rfl with h | ⟨j,g',h1,h2⟩
 ·exact .inl h
 ·have hll:∀ {z:Addr},g.ar=some x→b=ld' nm∨b∈it' nm→b=v.ld nm∨b∈v.it nm:=fun {z} hz hb=>by
   obtain ⟨r1,r2⟩:=hld nm (.inr (by rw [hz];exact fun z=>by cases z))
   rw [r1,r2] at hb;exact hb
  rcases jm h1 with ⟨e1,e2⟩ | ⟨e0,e2⟩
  ·subst e2 e1
   rcases hx with hx | ⟨hx,x0,x1,x2⟩
   ·rcases hg with hg | ⟨q1,q2,q3,q4,q5⟩
    ·rcases h2 with h2 | h2 | h2 | h2 | ⟨h2,h3⟩
     ·exact .inl (Foot.gl hg (.inl h2))
     ·exact .inl (Foot.gl hg (.inr (.inl h2)))
     ·have h2':some x=some b:=h2
      exact .inl (Foot.gl hg (.inr (.inr (.inl (by rw [hx];exact h2')))))
     ·exact .inl (Foot.gl hg (.inr (.inr (.inr (.inl h2)))))
     ·exact .inl (Foot.gl hg (.inr (.inr (.inr (.inr ⟨by rw [hx];rfl,hll (z:=b) hx h3⟩)))))
    ·rw [hx] at q4;cases q4
   ·rcases h2 with h2 | h2 | h2 | h2 | ⟨h2,h3⟩
    ·rcases hg with hg | ⟨q1,q2,q3,q4,q5⟩
     ·exact .inl (Foot.gl hg (.inl h2))
     ·exact .inr (by rw [h2];exact q2)
    ·rcases hg with hg | ⟨q1,q2,q3,q4,q5⟩
     ·exact .inl (Foot.gl hg (.inr (.inl h2)))
     ·have h2':g.sc=some b:=h2
      rw [q3] at h2';cases h2'
    ·have h2':some x=some b:=h2
     cases h2'
     exact .inr x0
    ·rcases hg with hg | ⟨q1,q2,q3,q4,q5⟩
     ·exact .inl (Foot.gl hg (.inr (.inr (.inr (.inl h2)))))
     ·have h2':g.co=some b:=h2
      rw [q5] at h2';cases h2'
    ·rcases h3 with h3 | h3
     ·exact .inr (by rw [h3];exact x1)
     ·have h3':b∈it' j:=h3
      rw [x2] at h3';cases h3'
  ·rcases h2 with h2 | h2 | h2 | h2 | ⟨h2,h3⟩
   ·exact .inl (Foot.gl e2 (.inl h2))
   ·exact .inl (Foot.gl e2 (.inr (.inl h2)))
   ·exact .inl (Foot.gl e2 (.inr (.inr (.inl h2))))
   ·exact .inl (Foot.gl e2 (.inr (.inr (.inr (.inl h2)))))
   ·obtain ⟨r1,r2⟩:=hld j (.inl e0)
    have h3':b=ld' j∨b∈it' j:=h3
    rw [r1,r2] at h3'
    exact .inl (Foot.gl e2 (.inr (.inr (.inr (.inr ⟨h2,h3'⟩)))))
theorem Step.arrPut {a:Ad}{v:Sv}{σ σ':Map}{j:Str}{g:GI}{x l':Addr}{its:List Addr}{par':Str→List Str}{last':Int}(hg:v.gl j=some g) (hx:g.ar=some x) (hl:l'=v.ld j∨σ l'=none) (hi:∀ y∈its,y∈v.it j∨σ y=none)
 (u:Upd (Foot a v) σ σ'):Step a v σ { v with last:=last',ld:=updF v.ld j l',it:=updF v.it j its,par:=par' } σ':=by
 refine ⟨u,fun b h=>?_⟩
 rcases h.base (v':=v) rfl with h | ⟨i,g',h1,h2⟩
 ·exact .inl h
 ·rcases h2 with h2 | h2 | h2 | h2 | ⟨h2,h3⟩
  ·exact .inl (Foot.gl h1 (.inl h2))
  ·exact .inl (Foot.gl h1 (.inr (.inl h2)))
  ·exact .inl (Foot.gl h1 (.inr (.inr (.inl h2))))
  ·exact .inl (Foot.gl h1 (.inr (.inr (.inr (.inl h2)))))
  ·have h3':b=updF v.ld j l' i∨b∈updF v.it j its i:=h3
   have hs:g.ar.isSome=true:=by rw [hx];rfl
   by_cases e:i=j
   ·subst e
    rw [jp,jp] at h3'
    rcases h3' with h3' | h3'
    ·rcases hl with hl | hl
     ·exact .inl (Foot.gl hg (.inr (.inr (.inr (.inr ⟨hs,.inl (h3'.trans hl)⟩)))))
     ·exact .inr (by rw [h3'];exact hl)
    ·rcases hi b h3' with hi | hi
     ·exact .inl (Foot.gl hg (.inr (.inr (.inr (.inr ⟨hs,.inr hi⟩)))))
     ·exact .inr hi
   ·rw [jV e,jV e] at h3'
    exact .inl (Foot.gl h1 (.inr (.inr (.inr (.inr ⟨h2,h3'⟩)))))
end
section
variable {c:Cx}{X:Str→Map→Prop}{m:Loc}{σ τ:Map}
theorem W.frame {σ':Map}{a:Ad}{v:Sv}{cnt:Nat}{F:Addr→Prop}(h:W prog w σ a v cnt) (u:Upd F σ σ') (hF:∀ b,Foot a v b→¬ F b) (ht:∀ b ys,σ b=some (.seq true ys)→¬ F b):W prog w σ' a v cnt:=by
 refine zk fun zz=>?_
 obtain ⟨kvs,eD,hkl,hv⟩:=h.stash.hD
 obtain ⟨t1,eS⟩:=h.stash.hS
 obtain ⟨lm,tl,eH⟩:=id h.heap
 obtain ⟨g0,tg0,xs0,eM,⟨eT,eT2⟩,c3,c4,c5⟩:=id h.cache.go
 obtain ⟨zs,eZ,hz⟩:=h.zero
 refine zz ?_;clear zz
 have arA:∀ {j:Str} {g:GI} {x:Addr},v.gl j=some g→g.ar=some x→¬ F x:=fun h1 h2=>hF _ (Foot.gl h1 (.inr (.inr (.inl h2))))
 have arL:∀ {j:Str} {g:GI} {x:Addr},v.gl j=some g→g.ar=some x→¬ F (v.ld j):=fun h1 h2=>hF _ (Foot.gl h1 (.inr (.inr (.inr (.inr ⟨by rw [h2];rfl,.inl rfl⟩)))))
 have arI:∀ {j:Str} {g:GI} {x y:Addr},v.gl j=some g→g.ar=some x→y∈v.it j→¬ F y:=fun h1 h2 h3=>hF _ (Foot.gl h1 (.inr (.inr (.inr (.inr ⟨by rw [h2];rfl,.inr h3⟩)))))
 refine { h with
  run:=h.run.upd u (hF _ (.inl rfl)),stash:=⟨⟨t1,u.get eS (hF _ Foot.S)⟩,⟨kvs,u.get eD (hF _ Foot.D),hkl,hv⟩,fun j g hg=>(h.stash.hG j g hg).upd u (hF _ (Foot.gl hg (.inl rfl)))⟩,ctr:=u.get h.ctr (hF _ (.inr (.inr (.inr (.inr (.inl rfl)))))),
  pl:=u.get h.pl (hF _ (.inr (.inr (.inr (.inr (.inr (.inr (.inl rfl)))))))),heap:=h.heap.upd u (hF _ Foot.H),zero:=⟨zs,u.get eZ (hF _ Foot.Z),hz⟩,cache:=h.cache.upd u (hF _ Foot.MC) (hF _ Foot.TB) ht,
  par:=fun q=>?_,subs:=fun p hp n hn=>?_,codes:=fun j g x h1 h2=>(h.codes j g x h1 h2).imp fun _ k=>k.upd u (hF _ (Foot.gl h1 (.inr (.inr (.inr (.inl h2)))))),
  arrs:=fun j g x h1 h2=>have k:=h.arrs j g x h1 h2;⟨k.1.imp fun _ z=>z.upd u (arA h1 h2),u.get k.2.1 (arL h1 h2),k.2.2⟩,itS:=fun j g x y h1 h2 h3=>(h.itS j g x y h1 h2 h3).imp fun _ k=>k.upd u (arI h1 h2 h3),
  scs:=fun j g x h1 h2=>(h.scs j g x h1 h2).imp fun _ k=>⟨k.1.upd u (hF _ (Foot.gl h1 (.inr (.inl h2)))),k.2⟩,told:=fun p y hy=>(h.told p y hy).imp fun _ k=>k.imp fun _ k=>k.imp fun _ k=>⟨k.1,k.2.1,k.2.2.upd u (hF _ (Foot.gl k.1 (.inr (.inl k.2.1))))⟩ }
 ·have:=h.par q
  cases q2:(v.gl (zX q)).bind GI.ar with
  | none=>rw [q2] at this;exact this
  | some x=>
   rw [q2] at this
   refine zk fun zz=>?_
   obtain ⟨bl,l,vs,k1,k2,k3⟩:=this
   obtain ⟨g2,r1,r2⟩:=Option.bind_eq_some_iff.mp q2
   obtain ⟨⟨bl',m1⟩,m2,_⟩:=h.arrs _ g2 x r1 r2
   refine zz ?_;clear zz
   have el:l=v.ld (zX q):=k1.inj m1
   refine ⟨bl,l,vs,k1.upd u (arA r1 r2),u.get k2 (by rw [el];exact arL r1 r2),k3.map fun y z hy hs=>hs.upd u ?_⟩
   rw [el,m2] at k2
   have e:(v.it (zX q)).map Value.ref=vs:=by cases k2;rfl
   rw [← e] at hy
   refine zk fun zz=>?_
   obtain ⟨y',hy',hy2⟩:=List.mem_map.mp hy
   refine zz ?_;clear zz
   first | exact nb hy2 | exact nt hy2 | cases hy2
   exact arI r1 r2 hy'
 ·have:=h.subs p hp n hn
  cases q:v.sb p n with
  | none=>rw [q] at this;exact this
  | some k=>
   rw [q] at this
   refine zk fun zz=>?_
   obtain ⟨x,k1,k2⟩:=this
   obtain ⟨g,r1,r2⟩:=Option.bind_eq_some_iff.mp k1
   refine zz ?_;clear zz
   exact ⟨x,k1,k2.upd u (hF _ (Foot.gl r1 (.inr (.inr (.inr (.inl r2))))))⟩
structure LawAt (prog':Program) (w':World) (σ:Map) (a:Ad) (v:Sv) (cnt:Nat) (BK IS SB TL NM SC SP:Addr) (tl:Str→Option Str) (names:List Str):Prop where
 hw:W prog w σ a v cnt
 hb:BookAt prog w σ (fun b=>Foot a v b∨b=SP) BK IS SB TL NM v.par v.sb tl names cnt
 hs:SpotAt σ SC SP
 hn:NmOk v.gl names
 ho:¬ Foot a v SC∧¬ Foot a v SP∧SC≠SP∧SC≠NM
variable {a:Ad}{v:Sv}{cnt:Nat}{BK IS SB TL NM SC SP:Addr}{tl:Str→Option Str}{names:List Str}
theorem LawAt.le {cnt':Nat}(h:LawAt prog w σ a v cnt BK IS SB TL NM SC SP tl names) (hc:cnt≤cnt'):LawAt prog w σ a v cnt' BK IS SB TL NM SC SP tl names:=⟨h.hw.le hc,h.hb.le hc,h.hs,h.hn,h.ho⟩
theorem LawAt.step {σ':Map}{v':Sv}{cnt':Nat}(h:LawAt prog w σ a v cnt BK IS SB TL NM SC SP tl names) (h':W prog w σ' a v' cnt') (s:Step a v σ v' σ') (sm:Same v v') (hc:cnt≤cnt'):LawAt prog w σ' a v' cnt' BK IS SB TL NM SC SP tl names:=by
 refine zk fun zz=>?_
 obtain ⟨o1,o2,o3,o4⟩:=h.ho
 obtain ⟨⟨ys,ns,e1,e2,e3⟩,k,t,e4⟩:=id h.hs
 refine zz ?_;clear zz
 have p1:¬ Foot a v' SC:=s.out e1 o1
 have p2:¬ Foot a v' SP:=s.out e4 o2
 refine ⟨h',?_,h.hs.upd s.u o1 o2,h.hn.same sm,p1,p2,o3,o4⟩
 rw [sm.par,sm.sb]
 refine (h.hb.step (F':=fun b=>Foot a v' b∨b=SP) (s.u.mono fun b=>.inl) (fun b ao hb hn z=>?_) fun b hb=>?_).le hc
 ·rcases z with z | z
  ·exact s.out hb (fun q=>hn (.inl q)) z
  ·exact hn (.inr z)
 ·rcases hb with hb | hb
  ·exact h'.dom b hb
  ·exact ⟨_,by rw [hb];exact s.get e4 o2,fun ys z=>by cases z⟩
theorem LawAt.ext {σ':Map}(h:LawAt prog w σ a v cnt BK IS SB TL NM SC SP tl names) (u:Ext σ σ'):LawAt prog w σ' a v cnt BK IS SB TL NM SC SP tl names:=h.step (h.hw.ext u) (Step.ext u) Same.refl (Nat.le_refl _)
theorem LawAt.spot {σ':Map}(h:LawAt prog w σ a v cnt BK IS SB TL NM SC SP tl names) (u:Upd (fun b=>b=SP) σ σ') (hs:SpotAt σ' SC SP):LawAt prog w σ' a v cnt BK IS SB TL NM SC SP tl names:=by
 refine zk fun zz=>?_
 obtain ⟨o1,o2,o3,o4⟩:=h.ho
 obtain ⟨⟨ys,ns,e1,e2,e3⟩,k,t,e4⟩:=id h.hs
 obtain ⟨_,k2,t2,e5⟩:=id hs
 refine zz ?_;clear zz
 have h':=h.hw.frame u (fun b hb z=>o2 (z ▸ hb)) (fun b ys hb z=>by rw [z,e4] at hb;cases hb)
 refine ⟨h',h.hb.step (u.mono fun b=>.inr) (fun b ao hb hn=>hn) fun b hb=>?_,hs,h.hn,h.ho⟩
 rcases hb with hb | hb
 ·exact h'.dom b hb
 ·exact ⟨_,by rw [hb];exact e5,fun ys z=>by cases z⟩
theorem LawAt.told {σ':Map}{tl':Str→Option Str}{names':List Str}{cnt':Nat}(h:LawAt prog w σ a v cnt BK IS SB TL NM SC SP tl names) (u:Upd (fun b=>b=TL∨b=NM) σ σ') (hc:cnt≤cnt')
 (hb:BookAt prog w σ' (fun b=>Foot a v b∨b=SP) BK IS SB TL NM v.par v.sb tl' names' cnt') (hn:NmOk v.gl names'):LawAt prog w σ' a v cnt' BK IS SB TL NM SC SP tl' names':=by
 refine zk fun zz=>?_
 obtain ⟨o1,o2,o3,o4⟩:=h.ho
 obtain ⟨⟨ys,ns,e1,e2,e3⟩,k,t,e4⟩:=id h.hs
 obtain ⟨q1,q2,q3⟩:=h.hb.out
 obtain ⟨_,kt,eT,_⟩:=id h.hb.told
 obtain ⟨_,yn,eN,_⟩:=id h.hb.named
 refine zz ?_;clear zz
 refine ⟨(h.hw.frame u (fun b hb z=>?_) (fun b ys hb z=>?_)).le hc,hb,h.hs.upd u (fun z=>?_) (fun z=>?_),hn,h.ho⟩
 ·rcases z with z | z
  ·exact q2 (.inl (z ▸ hb))
  ·exact q3 (.inl (z ▸ hb))
 ·rcases z with z | z
  ·rw [z,eT] at hb;cases hb
  ·rw [z,eN] at hb;cases hb
 ·rcases z with z | z
  ·rw [z,eT] at e1;cases e1
  ·exact o4 z
 ·rcases z with z | z
  ·exact q2 (.inr z.symm)
  ·exact q3 (.inr z.symm)
end
section
variable {c:Cx}{X:Str→Map→Prop}{m:Loc}{σ τ:Map}
theorem P_neTupS {a b:Addr}{xs ys:List Value}{ks qs:List Str}{Q:Value→Loc→Map→Prop}(hx:σ a=some (.seq true xs)) (hy:σ b=some (.seq true ys)) (hk:StrsAre xs ks) (hq:StrsAre ys qs) (hu:c.A.units < cLine)
 (h:Q (.bool (decide (ks≠qs))) m σ):POK prog w G (zg G 336) c (compareOp .NotEq (.ref a) (.ref b)) m σ Q X:=
 P_neTup (e:=fun j=>decide (ks[j]? = qs[j]?)) hx hy hu (fun s j h1 h2=>by
  have h1':j < ks.length:=by rw [← hk.length];exact h1
  have h2':j < qs.length:=by rw [← hq.length];exact h2
  refine zk fun zz=>?_
  obtain ⟨t,ht⟩:=hk.get j ks[j] (by simp [h1'])
  obtain ⟨u,hu⟩:=hq.get j qs[j] (by simp [h2'])
  refine zz ?_;clear zz
  have e1:xs[j] = .str ks[j] t:=by have:=List.getElem?_eq_getElem h1;rw [ht] at this;exact (Option.some.inj this).symm
  have e2:ys[j] = .str qs[j] u:=by have:=List.getElem?_eq_getElem h2;rw [hu] at this;exact (Option.some.inj this).symm
  rw [e1,e2]
  have e3:decide (ks[j]? = qs[j]?)=(ks[j] == qs[j]):=by
   rw [List.getElem?_eq_getElem h1',List.getElem?_eq_getElem h2']
   by_cases z:ks[j]=qs[j]
   ·simp [z]
   ·simp [z]
  rw [e3]
  exact SeqAt.EqAt.str_str _ _ _ _) (by
 have e4:(!((List.range (min xs.length ys.length)).all (fun j=>decide (ks[j]? = qs[j]?)) && xs.length == ys.length))=decide (ks≠qs):=by
  rw [hk.length,hq.length]
  by_cases z:ks=qs
  ·subst z;simp
  ·simp only [ne_eq,z,not_false_eq_true,decide_true,Bool.not_eq_true',Bool.and_eq_false_iff]
   by_cases l:ks.length=qs.length
   ·left
    rw [← Bool.not_eq_true,List.all_eq_true]
    intro hall
    refine z (List.ext_getElem? fun i=>?_)
    by_cases hi:i < ks.length
    ·have:=hall i (by rw [List.mem_range,← l,Nat.min_self];exact hi)
     exact of_decide_eq_true this
    ·rw [List.getElem?_eq_none (Nat.le_of_not_lt hi),List.getElem?_eq_none (by omega)]
   ·right;simpa using l
 rw [e4];exact h)
theorem POK.nodupT {α Kt:Type} [DecidableEq Kt] {knd:HeapKind prog w Kt}{d:Addr}{xs:List (Kt × Addr × Value)}{t:Sem α}{Q:α→Loc→Map→Prop}(hx:σ d=some (.raw (hdP knd d xs))) (h:(xs.map (·.1)).Nodup→POK prog w G (zg G 336) c t m σ Q X):POK prog w G (zg G 336) c t m σ Q X:=
 POK.reraw hx fun o ho=>⟨_,ho,by
  have e:σ.set d (.raw (hdP knd d xs))=σ:=by funext b;unfold Map.set;by_cases z:b=d <;> simp [z,hx]
  rw [e];exact h ho.2.2.2⟩
section
variable {Kt:Type} [DecidableEq Kt]
theorem jG (x:Kt × Addr × Value) (xs:List (Kt × Addr × Value)) (k:Kt):atKey (x :: xs) k=if x.1=k then some x.2 else atKey xs k:=by
 unfold atKey
 rw [List.find?_cons]
 by_cases e:x.1=k
 ·simp [e]
 ·simp [e]
theorem atKey_snoc (x:Kt × Addr × Value) (xs:List (Kt × Addr × Value)) (k:Kt):atKey (xs ++ [x]) k=match atKey xs k with | some p=>some p | none=>if x.1=k then some x.2 else none:=by
 induction xs with
 | nil=>rw [List.nil_append,jG];rfl
 | cons y ys ih=>
  rw [List.cons_append,jG,jG,ih]
  by_cases e:y.1=k
  ·rw [if_pos e,if_pos e]
  ·rw [if_neg e,if_neg e]
theorem atKey_put {k:Kt}{v:Value}(xs:List (Kt × Addr × Value)) (j:Kt):atKey (xs.map (putAt k v)) j=(atKey xs j).map fun p=>if j=k then (p.1,v) else p:=by
 induction xs with
 | nil=>rfl
 | cons y ys ih=>
  rw [List.map_cons,jG,jG,ih]
  by_cases e2:y.1=k
  ·rw [show putAt k v y=(y.1,y.2.1,v) from if_pos e2]
   by_cases e:y.1=j
   ·rw [if_pos e,if_pos e,Option.map_some,if_pos (e.symm.trans e2)]
   ·rw [if_neg e,if_neg e]
  ·rw [show putAt k v y=y from if_neg e2]
   by_cases e:y.1=j
   ·rw [if_pos e,if_pos e,Option.map_some,if_neg (fun z=>e2 (e.trans z))]
   ·rw [if_neg e,if_neg e]
theorem atKey_stored (xs:List (Kt × Addr × Value)) (k:Kt) (a:Addr) (v:Value) (j:Kt):(∃ b,atKey (storedH xs k a v) k=some (b,v))∧(j≠k→atKey (storedH xs k a v) j=atKey xs j):=by
 unfold storedH
 split
 ·rename_i h
  refine ⟨?_,fun hj=>?_⟩
  ·rw [atKey_put]
   cases q:atKey xs k with
   | none=>simp [q] at h
   | some p=>exact ⟨p.1,by rw [Option.map_some,if_pos rfl]⟩
  ·rw [atKey_put]
   cases q:atKey xs j with
   | none=>rfl
   | some p=>rw [Option.map_some,if_neg hj]
 ·rename_i h
  refine ⟨?_,fun hj=>?_⟩
  ·rw [atKey_snoc]
   cases q:atKey xs k with
   | none=>exact ⟨a,by simp⟩
   | some p=>simp [q] at h
  ·rw [atKey_snoc]
   cases q:atKey xs j with
   | none=>simp;exact fun z=>hj z.symm
   | some p=>rfl
end
end
section
variable {c:Cx}{X:Str→Map→Prop}{m:Loc}{σ τ:Map}
section
variable {F:Addr→Prop}{BK IS SB TL NM:Addr}{par:Str→List Str}{sb:Str→Str→Option Int}{tl:Str→Option Str}{nm:List Str}{n:Nat}
theorem sbPut_self {p k:Str}{i:Option Int}:sbPut sb p k i p k=i:=if_pos ⟨rfl,rfl⟩
theorem sbPut_ne {p k p' k':Str}{i:Option Int}(h:¬ (p'=p∧k'=k)):sbPut sb p k i p' k'=sb p' k':=if_neg h
theorem BookAt.sub (h:BookAt prog w σ F BK IS SB TL NM par sb tl nm n) {xs:List (List Str × Addr × Value)}{p k:Str}{ka:Addr}{i:Int}{t:Tok}(hp:p∈P5) (T:TD (jZ prog w) σ SB xs) (hl:xs.length≤n)
 (hxs:∀ p n,match atKey xs [p,n] with | none=>sb p n=none | some q=>∃ k t,q.2 = .int k t∧sb p n=some k)
 (T':TD (jZ prog w) (σ.set SB (.raw (hdP (tupleKind (strKind prog w)) SB (storedH xs [p,k] ka (.int i t))))) SB (storedH xs [p,k] ka (.int i t))) :
 BookAt prog w (σ.set SB (.raw (hdP (tupleKind (strKind prog w)) SB (storedH xs [p,k] ka (.int i t))))) F BK IS SB TL NM par (sbPut sb p k (some i)) tl nm (n+1):=by
 refine zk fun zz=>?_
 obtain ⟨kb,b1,b2,b3,b4,b5,b6⟩:=id h.bk
 obtain ⟨n1,n2,n3,n4,n5,n6⟩:=h.ne
 obtain ⟨_,ys,eN,hN⟩:=id h.named
 refine zz ?_;clear zz
 have u:Upd (fun b=>b=SB) σ (σ.set SB (.raw (hdP (tupleKind (strKind prog w)) SB (storedH xs [p,k] ka (.int i t))))):=Upd.refl.set_in rfl
 refine ⟨⟨kb,u.get b1 n2,b2,b3,b4,b5,b6⟩,(h.isl.turn u n4 (fun l ys hl hn=>⟨(jo T.1 hl).symm,hn⟩)).le (Nat.le_succ _),h.nb,⟨⟨kb,u.get b1 n2,b3⟩,_,T',Nat.le_trans (storedH_len _ _ _ _) (by omega),fun p' k'=>?_⟩,(h.told.upd u n2 (fun z=>n6 z.symm)).le',h.named.upd u n2 (jo T.1 eN).symm,h.nmU,
  Nat.le_succ_of_le h.nmN,fun p' k' j hj=>?_,h.out,h.ne,fun b hb=>(h.dom b hb).imp fun _ k=>⟨u.get k.1 (fun z=>h.out.1 (z ▸ hb)),k.2⟩⟩
 ·refine zk fun zz=>?_
  obtain ⟨⟨b,s1⟩,s2⟩:=atKey_stored xs [p,k] ka (.int i t) [p',k']
  refine zz ?_;clear zz
  by_cases e:p'=p∧k'=k
  ·obtain ⟨rfl,rfl⟩:=e
   rw [s1,sbPut_self]
   exact ⟨i,t,rfl,rfl⟩
  ·rw [s2 (fun z=>e ⟨by injection z,by injection z with _ z;injection z⟩),sbPut_ne e]
   exact hxs p' k'
 ·by_cases e:p'=p∧k'=k
  ·rw [e.1];exact hp
  ·rw [sbPut_ne e] at hj;exact h.sbU p' k' j hj
theorem stored_len {kvs:List (Str × Value)}{k:Str}{v:Value}(h:(valueAt kvs k).isSome=true):(stored kvs k v).length=kvs.length:=by
 have h':kvs.any (fun kv=>decide (kv.1=k))=true:=by
  refine zk fun zz=>?_
  obtain ⟨v,hv⟩:=Option.isSome_iff_exists.mp h
  unfold valueAt at hv
  obtain ⟨x,h1,_⟩:=Option.map_eq_some_iff.mp hv
  refine zz ?_;clear zz
  exact List.any_eq_true.mpr ⟨x,List.mem_of_find?_eq_some h1,List.find?_some (p:=fun kv:Str × Value=>decide (kv.1=k)) h1⟩
 unfold stored
 rw [if_pos h']
 simp
theorem BookAt.subs' (h:BookAt prog w σ F BK IS SB TL NM par sb tl nm n) {kb:List (Str × Value)}{D:Addr}{ys:List (List Str × Addr × Value)}{sb':Str→Str→Option Int}(b1:σ BK=some (.raw (sdP prog w BK kb)))
 (b2:valueAt kb "isa" = some (.ref IS)) (b4:valueAt kb "told" = some (.ref TL)) (b5:valueAt kb "named" = some (.ref NM)) (b3:valueAt kb "subs" = some (.ref SB)) (b6:kb.length≤100) (hD:¬ F D) (T:TD (jZ prog w) σ D ys) (hl:ys.length≤n) (hne:BK≠D∧IS≠D∧TL≠D)
 (hys:∀ p n,match atKey ys [p,n] with | none=>sb' p n=none | some q=>∃ k t,q.2 = .int k t∧sb' p n=some k) (hU:∀ p n k,sb' p n=some k→p∈P5) :
 BookAt prog w (σ.set BK (.raw (sdP prog w BK (stored kb "subs" (.ref D))))) F BK IS D TL NM par sb' tl nm n:=by
 refine zk fun zz=>?_
 obtain ⟨n1,n2,n3,n4,n5,n6⟩:=h.ne
 obtain ⟨_,yn,eN,hN⟩:=id h.named
 obtain ⟨ki,eI,hI0,hI⟩:=id h.isl
 obtain ⟨q1,q2⟩:=h.nb
 obtain ⟨_,kt,eT,hT1,hT2⟩:=id h.told
 refine zz ?_;clear zz
 have u:Upd (fun b=>b=BK) σ (σ.set BK (.raw (sdP prog w BK (stored kb "subs" (.ref D))))):=Upd.refl.set_in rfl
 have v1:valueAt (stored kb "subs" (.ref D)) "isa" = some (.ref IS):=by rw [je,if_neg (by decide)];exact b2
 have v2:valueAt (stored kb "subs" (.ref D)) "subs" = some (.ref D):=by rw [je,if_pos rfl]
 have v3:valueAt (stored kb "subs" (.ref D)) "told" = some (.ref TL):=by rw [je,if_neg (by decide)];exact b4
 have v4:valueAt (stored kb "subs" (.ref D)) "named" = some (.ref NM):=by rw [je,if_neg (by decide)];exact b5
 refine ⟨⟨_,Map.set_self,v1,v2,v3,v4,by rw [stored_len (by rw [b3];rfl)];exact b6⟩,⟨ki,u.get eI n1.symm,hI0,fun p=>?_⟩,⟨q1,q2⟩,⟨⟨_,Map.set_self,v2⟩,ys,T.keeps (u.get T.1 hne.1.symm) (fun b zs hb=>u.get hb (jo b1 hb).symm),hl,hys⟩,⟨⟨_,Map.set_self,v3⟩,kt,u.get eT n3.symm,hT1,hT2⟩,
  ⟨⟨_,Map.set_self,v4⟩,yn,u.get eN (jo b1 eN).symm,hN⟩,h.nmU,h.nmN,hU,⟨hD,h.out.2.1,h.out.2.2⟩,⟨n1,hne.1,n3,hne.2.1,n5,hne.2.2.symm⟩,fun b hb=>(h.dom b hb).imp fun _ k=>⟨u.get k.1 (fun z=>q1 (.inl (z ▸ hb))),k.2⟩⟩
 have:=hI p
 cases q:valueAt ki p with
 | none=>rw [q] at this;exact this
 | some x=>
  rw [q] at this
  refine zk fun zz=>?_
  obtain ⟨l,ys,e1,e2,e3,e4⟩:=this
  refine zz ?_;clear zz
  exact ⟨l,ys,e1,u.get e2 (jo b1 e2).symm,e3,e4⟩
theorem BookAt.isa' (h:BookAt prog w σ F BK IS SB TL NM par sb tl nm n) {ki:List (Str × Value)}{p:Str}{l:Addr}{zs:List Value}{qs:List Str}(e:σ IS=some (.raw (sdP prog w IS ki))) (hi0:ki.length≤n)
 (hki:∀ p,match valueAt ki p with | none=>par p=[] | some x=>∃ l ys,x = .ref l∧σ l=some (.seq false ys)∧StrsAre ys (par p)∧¬ (F l∨l=NM)) (hl:σ l=some (.seq false zs)) (hz:StrsAre zs qs) (hF:¬ F l) (hN:l≠NM) :
 BookAt prog w (σ.set IS (.raw (sdP prog w IS (stored ki p (.ref l))))) F BK IS SB TL NM (updF par p qs) sb tl nm (n+1):=by
 refine zk fun zz=>?_
 obtain ⟨kb,b1,b2,b3,b4,b5,b6⟩:=id h.bk
 obtain ⟨n1,n2,n3,n4,n5,n6⟩:=h.ne
 obtain ⟨_,yn,eN,hN2⟩:=id h.named
 obtain ⟨_,xs,⟨eS,_⟩,_⟩:=id h.subs
 refine zz ?_;clear zz
 have q1:=h.nb
 have u:Upd (fun b=>b=IS) σ (σ.set IS (.raw (sdP prog w IS (stored ki p (.ref l))))):=Upd.refl.set_in rfl
 refine ⟨⟨kb,u.get b1 n1,b2,b3,b4,b5,b6⟩,⟨_,Map.set_self,Nat.le_trans (stored_length_le ki p (.ref l)) (by omega),fun q=>?_⟩,q1,(h.subs.upd u n1 n4.symm (fun b ys hb=>(jo e hb).symm)).le',(h.told.upd u n1 n5.symm).le',h.named.upd u n1 (jo e eN).symm,h.nmU,Nat.le_succ_of_le h.nmN,h.sbU,h.out,h.ne,
  fun b hb=>(h.dom b hb).imp fun _ k=>⟨u.get k.1 (fun z=>q1.2 (.inl (z ▸ hb))),k.2⟩⟩
 rw [je]
 by_cases z:q=p
 ·rw [if_pos z,z,jp]
  exact ⟨l,zs,rfl,u.get hl (jo e hl).symm,hz,fun z=>z.elim hF hN⟩
 ·rw [if_neg z,jV z]
  have:=hki q
  cases c:valueAt ki q with
  | none=>rw [c] at this;exact this
  | some x=>
   rw [c] at this
   refine zk fun zz=>?_
   obtain ⟨l',ys,e1,e2,e3,e4⟩:=this
   refine zz ?_;clear zz
   exact ⟨l',ys,e1,u.get e2 (jo e e2).symm,e3,e4⟩
end
theorem spec_setCodeW {A:Around}{n:Nat}(hY:Fly.Leaves prog w G (zg G 336)) (hA:A.frames=some c.fr) (hR:Rm A (n+6)) {a:Ad}{v:Sv}{cnt:Nat}{p nm:Str}{tn:Tok}{code:Option Addr}{k:Option Int}{Q:Value→Loc→Map→Prop}
 (h:W prog w σ a v cnt) (hc:cnt≤900) (hp:p∈P5) (hn:nm∈N10) (hk:match code with | none=>k=none | some x=>∃ i,k=some i∧CodeAt σ x i)
 (hQ:∀ σ' g last',(v.gl (cc p nm)=some g∨(v.gl (cc p nm)=none∧σ g.ga=none∧g.sc=none∧g.ar=none∧g.co=none)) →
  W prog w σ' a { v with last:=last',gen:=v.gen+1,gl:=zM v.gl (cc p nm) { g with co:=code },sb:=sbPut v.sb p nm k } (cnt+1)→Upd (codeF' a v.gl code) σ σ'→(∀ a n,CodeAt σ a n→CodeAt σ' a n)→Q .none m σ') :
 COK prog w G (zg G 336) c A (.ref 415) ⟨[.ref a.S,.ref a.CT,.str (cc p nm) tn,optV code],[]⟩ m σ Q X:=by
 refine zk fun zz=>?_
 obtain ⟨zs,eZ,hz⟩:=h.zero
 refine zz ?_;clear zz
 refine spec_setCode hY hA hR h.stash (zcap:=cnt) ⟨⟨_,h.ctr⟩,h.heap,zs,eZ,hz⟩ (by omega) (by omega) (fun x e=>?_) h.codes h.inj fun σ' g last' u hS hg hC cd=>?_
 ·subst e;obtain ⟨i,_,hi⟩:=hk;exact ⟨i,hi⟩
 ·have u':Upd (codeF' a v.gl code) σ σ':=u
  exact hQ σ' g last' hg (h.setCode hp hn hg hk u' hC.hH hC.hZ hS cd) u' cd
theorem spec_arrayOfW {A:Around}{n:Nat}(hY:Fly.Leaves prog w G (zg G 336)) (hA:A.frames=some c.fr) (hR:Rm A (n+6)) {a:Ad}{v:Sv}{cnt:Nat}{p:Str}{tn:Tok}{Q:Value→Loc→Map→Prop}
 (h:W prog w σ a v cnt) (hc:cnt≤900) (hp:p∈P5)
 (hQ:∀ σ' v' g x,v'.gl (cc p "ISA")=some g→g.ar=some x→W prog w σ' a v' (cnt+1)→Step a v σ v' σ'→v'.par=v.par→v'.sb=v.sb→v'.tl=v.tl→(∀ j,j≠cc p "ISA"→v'.gl j=v.gl j)→Q (.ref x) m σ') :
 COK prog w G (zg G 336) c A (.ref 373) ⟨[.ref a.S,.str (cc p "ISA") tn],[]⟩ m σ Q X:=by
 refine spec_arrayOf hY hA hR h.stash h.heap (by omega) (fun j g x h1 h2=>?_) h.inj fun σ' g x last' u hH hS hg hx=>?_
 ·refine zk fun zz=>?_
  obtain ⟨⟨bl,h3⟩,_⟩:=h.arrs j g x h1 h2
  refine zz ?_;clear zz
  exact ⟨bl,_,h3⟩
 ·rcases hx with hx | ⟨hx,x0,l,x1,x2,x3⟩
  ·have hld:∀ j,j≠cc p "ISA"∨g.ar≠none→v.ld j=v.ld j∧v.it j=v.it j:=fun _ _=>⟨rfl,rfl⟩
   exact hQ σ' _ _ x (if_pos rfl) rfl (h.arrayOf hp hg u hH hS hld (.inl hx)) (Step.arrayOf hg hld (.inl hx) u) rfl rfl rfl fun j hj=>if_neg hj
  ·have hld:∀ j,j≠cc p "ISA"∨g.ar≠none→updF v.ld (cc p "ISA") l j=v.ld j∧updF v.it (cc p "ISA") [] j=v.it j:=fun j hj=>by
    rcases hj with hj | hj
    ·exact ⟨jV hj,jV hj⟩
    ·exact absurd hx hj
   refine hQ σ' _ _ x (if_pos rfl) rfl (h.arrayOf hp hg u hH hS hld (.inr ⟨hx,x0,?_,?_,?_,?_⟩)) (Step.arrayOf hg hld (.inr ⟨hx,x0,?_,?_⟩) u) rfl rfl rfl fun j hj=>if_neg hj
   ·rw [jp];exact x1
   ·rw [jp];exact x2
   ·rw [jp];exact x3
   ·rw [jp]
   ·rw [jp];exact x2
   ·rw [jp]
end
section
variable {c:Cx}{X:Str→Map→Prop}{m:Loc}{σ τ:Map}
structure LawC (prog':Program) (w':World) (σ:Map) (a:Ad) (v:Sv) (cnt:Nat) (BK IS SB TL NM SC SP:Addr) (par:Str→List Str) (sb:Str→Str→Option Int) (tl:Str→Option Str) (names:List Str):Prop where
 hw:W prog w σ a v cnt
 hb:BookAt prog w σ (fun b=>Foot a v b∨b=SP) BK IS SB TL NM par sb tl names cnt
 hs:SpotAt σ SC SP
 ho:¬ Foot a v SC∧¬ Foot a v SP∧SC≠SP∧SC≠NM
section
variable {a:Ad}{v:Sv}{cnt:Nat}{BK IS SB TL NM SC SP:Addr}{par:Str→List Str}{sb:Str→Str→Option Int}{tl:Str→Option Str}{names:List Str}
theorem LawAt.core (h:LawAt prog w σ a v cnt BK IS SB TL NM SC SP tl names):LawC prog w σ a v cnt BK IS SB TL NM SC SP v.par v.sb tl names:=⟨h.hw,h.hb,h.hs,h.ho⟩
theorem LawC.at (h:LawC prog w σ a v cnt BK IS SB TL NM SC SP par sb tl names) (e1:v.par=par) (e2:v.sb=sb) (hn:NmOk v.gl names):LawAt prog w σ a v cnt BK IS SB TL NM SC SP tl names:=by
 subst e1 e2
 exact ⟨h.hw,h.hb,h.hs,hn,h.ho⟩
theorem LawC.le {cnt':Nat}(h:LawC prog w σ a v cnt BK IS SB TL NM SC SP par sb tl names) (hc:cnt≤cnt'):LawC prog w σ a v cnt' BK IS SB TL NM SC SP par sb tl names:=⟨h.hw.le hc,h.hb.le hc,h.hs,h.ho⟩
theorem LawC.step {σ':Map}{v':Sv}{cnt':Nat}(h:LawC prog w σ a v cnt BK IS SB TL NM SC SP par sb tl names) (h':W prog w σ' a v' cnt') (s:Step a v σ v' σ') (hc:cnt≤cnt'):LawC prog w σ' a v' cnt' BK IS SB TL NM SC SP par sb tl names:=by
 refine zk fun zz=>?_
 obtain ⟨o1,o2,o3,o4⟩:=h.ho
 obtain ⟨⟨ys,ns,e1,e2,e3⟩,k,t,e4⟩:=id h.hs
 refine zz ?_;clear zz
 have p1:¬ Foot a v' SC:=s.out e1 o1
 have p2:¬ Foot a v' SP:=s.out e4 o2
 refine ⟨h',(h.hb.step (F':=fun b=>Foot a v' b∨b=SP) (s.u.mono fun b=>.inl) (fun b ao hb hn z=>?_) fun b hb=>?_).le hc,h.hs.upd s.u o1 o2,p1,p2,o3,o4⟩
 ·rcases z with z | z
  ·exact s.out hb (fun q=>hn (.inl q)) z
  ·exact hn (.inr z)
 ·rcases hb with hb | hb
  ·exact h'.dom b hb
  ·exact ⟨_,by rw [hb];exact s.get e4 o2,fun ys z=>by cases z⟩
theorem LawC.ext {σ':Map}(h:LawC prog w σ a v cnt BK IS SB TL NM SC SP par sb tl names) (u:Ext σ σ'):LawC prog w σ' a v cnt BK IS SB TL NM SC SP par sb tl names:=h.step (h.hw.ext u) (Step.ext u) (Nat.le_refl _)
theorem LawC.spot {σ':Map}(h:LawC prog w σ a v cnt BK IS SB TL NM SC SP par sb tl names) (u:Upd (fun b=>b=SP) σ σ') (hs:SpotAt σ' SC SP):LawC prog w σ' a v cnt BK IS SB TL NM SC SP par sb tl names:=by
 refine zk fun zz=>?_
 obtain ⟨o1,o2,o3,o4⟩:=h.ho
 obtain ⟨⟨ys,ns,e1,e2,e3⟩,k,t,e4⟩:=id h.hs
 obtain ⟨_,k2,t2,e5⟩:=id hs
 refine zz ?_;clear zz
 have h':=h.hw.frame u (fun b hb z=>o2 (z ▸ hb)) (fun b ys hb z=>by rw [z,e4] at hb;cases hb)
 refine ⟨h',h.hb.step (u.mono fun b=>.inr) (fun b ao hb hn=>hn) fun b hb=>?_,hs,h.ho⟩
 rcases hb with hb | hb
 ·exact h'.dom b hb
 ·exact ⟨_,by rw [hb];exact e5,fun ys z=>by cases z⟩
theorem LawC.book {σ':Map}{z:Addr}{cnt':Nat}{par':Str→List Str}{sb':Str→Str→Option Int}{tl':Str→Option Str}{names':List Str}{SB':Addr}(h:LawC prog w σ a v cnt BK IS SB TL NM SC SP par sb tl names) (u:Upd (fun b=>b=z) σ σ') (hc:cnt≤cnt')
 (hb:BookAt prog w σ' (fun b=>Foot a v b∨b=SP) BK IS SB' TL NM par' sb' tl' names' cnt') (h1:¬ (Foot a v z∨z=SP)) (h2:∀ ys,σ z≠some (.seq true ys)) (h3:SC≠z):LawC prog w σ' a v cnt' BK IS SB' TL NM SC SP par' sb' tl' names':=
 ⟨(h.hw.frame u (fun b hb e=>h1 (.inl (e ▸ hb))) (fun b ys hb e=>h2 ys (e ▸ hb))).le hc,hb,h.hs.upd u h3 (fun e=>h1 (.inr e.symm)),h.ho⟩
structure Free (a:Ad) (v:Sv) (BK IS SB TL NM SP z:Addr):Prop where
 f:¬ Foot a v z
 ne:z≠BK∧z≠IS∧z≠SB∧z≠TL∧z≠NM∧z≠SP
theorem LawC.free (h:LawC prog w σ a v cnt BK IS SB TL NM SC SP par sb tl names) {z:Addr}(h0:σ z=none):Free a v BK IS SB TL NM SP z:=by
 refine zk fun zz=>?_
 obtain ⟨kb,b1,_⟩:=h.hb.bk
 obtain ⟨_,⟨ki,eI,_⟩,_⟩:=id h.hb.isa
 obtain ⟨_,xs,⟨eS,_⟩,_⟩:=id h.hb.subs
 obtain ⟨_,kt,eT,_⟩:=id h.hb.told
 obtain ⟨_,yn,eN,_⟩:=id h.hb.named
 obtain ⟨_,k,t,e4⟩:=id h.hs
 refine zz ?_;clear zz
 refine ⟨fun hz=>?_,(zm b1 h0).symm,(zm eI h0).symm,(zm eS h0).symm,(zm eT h0).symm,(zm eN h0).symm,(zm e4 h0).symm⟩
 refine zk fun zz=>?_
 obtain ⟨ao,e,_⟩:=h.hw.dom z hz
 refine zz ?_;clear zz
 rw [h0] at e;cases e
theorem Free.step {σ':Map}{v':Sv}{z:Addr}{ao:AO}(h:Free a v BK IS SB TL NM SP z) (e:σ z=some ao) (s:Step a v σ v' σ'):Free a v' BK IS SB TL NM SP z∧σ' z=some ao:=⟨⟨s.out e h.f,h.ne⟩,s.get e h.f⟩
end
theorem NmOk.put {gl:Str→Option GI}{names:List Str}{p k:Str}{g:GI}(h:NmOk gl names) (hk:k∈N10):NmOk (zM gl (cc p k) g) (names ++ [p]) where
 to:=fun j g' hj=>by
  rcases jm hj with ⟨e1,_⟩ | ⟨_,e2⟩
  ·exact ⟨p,by simp,k,hk,e1⟩
  ·refine zk fun zz=>?_
   obtain ⟨q,hq,r⟩:=h.to j g' e2
   refine zz ?_;clear zz
   exact ⟨q,List.mem_append_left _ hq,r⟩
 back:=fun q hq=>by
  have put:∀ {j:Str},(gl j).isSome=true→(zM gl (cc p k) g j).isSome=true:=fun {j} hj=>by
   unfold zM
   split
   ·rfl
   ·exact hj
  rcases List.mem_append.mp hq with hq | hq
  ·refine zk fun zz=>?_
   obtain ⟨n,h1,h2⟩:=h.back q hq
   refine zz ?_;clear zz
   exact ⟨n,h1,put h2⟩
  ·rw [List.mem_singleton.mp hq]
   exact ⟨k,hk,by unfold zM;rw [if_pos rfl];rfl⟩
theorem ItemsAt.snoc {y:Addr}{q:Str}{t:Tok}{vs:List Value}{ps:List Str}(h:ItemsAt σ vs ps) (hy:ScalarAt σ y (.str q t)):ItemsAt σ (vs ++ [.ref y]) (ps ++ [q]):=by
 induction vs generalizing ps with
 | nil=>cases ps with | nil=>exact ⟨⟨y,t,rfl,hy⟩,trivial⟩ | cons=>exact h.elim
 | cons v vs ih=>
  cases ps with
  | nil=>exact h.elim
  | cons p ps=>exact ⟨h.1,ih h.2⟩
theorem W.itemsAt {a:Ad}{v:Sv}{cnt:Nat}{p:Str}{g:GI}{x:Addr}(h:W prog w σ a v cnt) (hg:v.gl (cc p "ISA")=some g) (hx:g.ar=some x):ItemsAt σ ((v.it (cc p "ISA")).map .ref) (v.par p):=by
 have:=h.par p
 have e3:(v.gl (zX p)).bind GI.ar=some x:=by rw [cc_isa,hg];exact hx
 rw [e3] at this
 refine zk fun zz=>?_
 obtain ⟨bl,l,vs,k1,k2,k3⟩:=this
 obtain ⟨⟨bl',m1⟩,m2,_⟩:=h.arrs _ g x hg hx
 refine zz ?_;clear zz
 have el:l=v.ld (cc p "ISA"):=k1.inj m1
 rw [el,m2] at k2
 have e:(v.it (cc p "ISA")).map Value.ref=vs:=by cases k2;rfl
 rw [e];exact k3
noncomputable def pushSv (v:Sv) (p q:Str) (y:Addr):Sv:={ v with last:=v.last+1,ld:=updF v.ld (cc p "ISA") (v.ld (cc p "ISA")),it:=updF v.it (cc p "ISA") (v.it (cc p "ISA") ++ [y]),par:=updF v.par p (v.par p ++ [q]) }
noncomputable def resetSv (v:Sv) (p:Str) (D:Addr):Sv:={ v with ld:=updF v.ld (cc p "ISA") D,it:=updF v.it (cc p "ISA") [],par:=updF v.par p [] }
theorem W.push {σ₁:Map}{a:Ad}{v:Sv}{cnt:Nat}{p q:Str}{g:GI}{x y:Addr}{t:Tok}(h:W prog w σ a v cnt) (hp:p∈P5) (hg:v.gl (cc p "ISA")=some g) (hx:g.ar=some x) (hy0:σ y=none) (u₁:Upd (fun b=>b=a.H) σ σ₁) (hH:HeapAt σ₁ a.H a.Z (v.last+1))
 (hs:ScalarAt σ₁ y (.str q t)) (hq:q∈P6):W prog w (σ₁.set (v.ld (cc p "ISA")) (.seq false ((v.it (cc p "ISA") ++ [y]).map .ref))) a (pushSv v p q y) (cnt+1)∧Step a v σ (pushSv v p q y) (σ₁.set (v.ld (cc p "ISA")) (.seq false ((v.it (cc p "ISA") ++ [y]).map .ref))):=by
 have h₁:=h.heapUp u₁ hH
 refine zk fun zz=>?_
 obtain ⟨⟨blx,ex⟩,elx,nZ⟩:=h₁.arrs _ g x hg hx
 refine zz ?_;clear zz
 have nI:∀ {b:Addr} {C:Addr} {fs:List (Str × Value)},σ₁ b=some (.inst C fs)→b≠v.ld (cc p "ISA"):=fun hb z=>by rw [z,elx] at hb;cases hb
 have u:Upd (fun b=>b=v.ld (cc p "ISA")) σ₁ (σ₁.set (v.ld (cc p "ISA")) (.seq false ((v.it (cc p "ISA") ++ [y]).map .ref))):=Upd.refl.set_in rfl
 have sc:∀ {z:Addr} {val:Value},ScalarAt σ₁ z val→ScalarAt (σ₁.set (v.ld (cc p "ISA")) (.seq false ((v.it (cc p "ISA") ++ [y]).map .ref))) z val:=fun {z val} hz=>by
  refine zk fun zz=>?_
  obtain ⟨_,_,_,_,_,e⟩:=id hz
  refine zz ?_;clear zz
  exact hz.upd u (nI e)
 have ex':ArrAt (σ₁.set (v.ld (cc p "ISA")) (.seq false ((v.it (cc p "ISA") ++ [y]).map .ref))) x blx (v.ld (cc p "ISA")):=by
  refine zk fun zz=>?_
  obtain ⟨_,_,_,_,_,e⟩:=id ex
  refine zz ?_;clear zz
  exact ArrAt.upd ex u (nI e)
 have ny:∀ j' g',v.gl j'=some g'→g'.sc≠some y:=fun j' g' h1 h2=>by
  refine zk fun zz=>?_
  obtain ⟨_,⟨_,_,_,_,_,e⟩,_⟩:=h.scs j' g' y h1 h2
  refine zz ?_;clear zz
  rw [hy0] at e;cases e
 have hI:ItemsAt (σ₁.set (v.ld (cc p "ISA")) (.seq false ((v.it (cc p "ISA") ++ [y]).map .ref))) ((v.it (cc p "ISA") ++ [y]).map .ref) (v.par p ++ [q]):=by
  have hI0:=ItemsAt.snoc ((h₁.itemsAt hg hx).map fun x y _=>sc) (sc hs)
  have e:(v.it (cc p "ISA")).map Value.ref ++ [Value.ref y]=(v.it (cc p "ISA") ++ [y]).map Value.ref:=by simp
  rw [e] at hI0
  exact hI0
 refine ⟨h₁.arrPut hp hg hx (u.mono fun b=>.inr) ⟨blx,ex'⟩ Map.set_self (.inl rfl) (fun z hz=>?_) hI (fun r hr=>?_) ?_,?_⟩
 ·rcases List.mem_append.mp hz with hz | hz
  ·obtain ⟨w',hw⟩:=h₁.itS _ g x z hg hx hz
   exact ⟨.inl hz,w',sc hw⟩
  ·rw [List.mem_singleton.mp hz]
   exact ⟨.inr ny,_,sc hs⟩
 ·rcases List.mem_append.mp hr with hr | hr
  ·exact h.parU p r hr
  ·rw [List.mem_singleton.mp hr];exact hq
 ·rw [List.length_append]
  exact Nat.succ_le_succ (h.parL p)
 ·refine Step.arrPut (last':=v.last+1) hg hx (.inl rfl) (fun z hz=>?_) fun b bo hb hF=>?_
  ·rcases List.mem_append.mp hz with hz | hz
   ·exact .inl hz
   ·rw [List.mem_singleton.mp hz];exact .inr hy0
  ·exact u b bo (u₁ b bo hb (fun z=>hF (by rw [z];exact Foot.H))) (fun z=>hF (Foot.gl hg (.inr (.inr (.inr (.inr ⟨by rw [hx];rfl,.inl z⟩))))))
theorem W.reset {σ':Map}{a:Ad}{v:Sv}{cnt:Nat}{p:Str}{g:GI}{x D:Addr}(h:W prog w σ a v cnt) (hp:p∈P5) (hg:v.gl (cc p "ISA")=some g) (hx:g.ar=some x) (hD:σ D=none) (u:Upd (fun b=>b=x) σ σ') (hA:∃ bl,ArrAt σ' x bl D) (hL:σ' D=some (.seq false [])) :
 W prog w σ' a (resetSv v p D) (cnt+1)∧Step a v σ (resetSv v p D) σ':=
 ⟨h.arrPut hp hg hx (u.mono fun b=>.inl) hA hL (.inr hD) (fun y hy=>nomatch hy) trivial (fun q hq=>nomatch hq) (Nat.zero_le _),
  Step.arrPut (last':=v.last) hg hx (.inr hD) (fun y hy=>nomatch hy) (u.mono fun b e=>by rw [e];exact Foot.gl hg (.inr (.inr (.inl hx))))⟩
theorem NmOk.put' {gl gl':Str→Option GI}{names:List Str}{p k:Str}{g:GI}(h:NmOk gl names) (hk:k∈N10) (h1:gl' (cc p k)=some g) (h2:∀ j,j≠cc p k→gl' j=gl j):NmOk gl' (names ++ [p]):=by
 have e:gl'=zM gl (cc p k) g:=by
  funext j
  unfold zM
  by_cases z:j=cc p k
  ·rw [if_pos z,z,h1]
  ·rw [if_neg z,h2 j z]
 rw [e];exact h.put hk
end
section
variable {c:Cx}{X:Str→Map→Prop}{m:Loc}{σ τ:Map}
theorem BookAt.away {F:Addr→Prop}{BK IS SB TL NM z:Addr}{par:Str→List Str}{sb:Str→Str→Option Int}{tl:Str→Option Str}{nm:List Str}{n:Nat}{σ':Map}(h:BookAt prog w σ F BK IS SB TL NM par sb tl nm n) (u:Upd (fun b=>b=z) σ σ')
 (h1:z≠BK∧z≠IS∧z≠SB∧z≠TL∧z≠NM) (hz:∃ P,σ z=some (.raw P)) (hF:¬ F z):BookAt prog w σ' F BK IS SB TL NM par sb tl nm n:=by
 refine zk fun zz=>?_
 obtain ⟨kb,b1,b2⟩:=id h.bk
 obtain ⟨n1,n2,n3,n4,n5⟩:=h1
 obtain ⟨P,hz⟩:=hz
 refine zz ?_;clear zz
 exact ⟨⟨kb,u.get b1 n1.symm,b2⟩,h.isl.turn u n2.symm (fun l ys hl hn=>⟨(jo hz hl).symm,hn⟩),h.nb,h.subs.upd u n1.symm n3.symm (fun b ys hb=>(jo hz hb).symm),h.told.upd u n1.symm n4.symm,h.named.upd u n1.symm n5.symm,h.nmU,h.nmN,h.sbU,h.out,h.ne,
  fun b hb=>(h.dom b hb).imp fun _ k=>⟨u.get k.1 (fun e=>hF (e ▸ hb)),k.2⟩⟩
theorem LawC.cell {a:Ad}{v:Sv}{cnt:Nat}{BK IS SB TL NM SC SP z:Addr}{par:Str→List Str}{sb:Str→Str→Option Int}{tl:Str→Option Str}{names:List Str}{P:Obj→Prop}{ao:AO}(h:LawC prog w σ a v cnt BK IS SB TL NM SC SP par sb tl names)
 (f:Free a v BK IS SB TL NM SP z) (hz:σ z=some (.raw P)):LawC prog w (σ.set z ao) a v cnt BK IS SB TL NM SC SP par sb tl names:=by
 refine zk fun zz=>?_
 obtain ⟨n1,n2,n3,n4,n5,n6⟩:=f.ne
 refine zz ?_;clear zz
 have u:Upd (fun b=>b=z) σ (σ.set z ao):=Upd.refl.set_in rfl
 have hF:¬ (Foot a v z∨z=SP):=fun e=>e.elim f.f n6
 refine h.book u (Nat.le_refl _) (h.hb.away u ⟨n1,n2,n3,n4,n5⟩ ⟨P,hz⟩ hF) hF (fun ys e=>by rw [hz] at e;cases e) fun e=>?_
 refine zk fun zz=>?_
 obtain ⟨⟨ys,ns,e1,_⟩,_⟩:=h.hs
 refine zz ?_;clear zz
 rw [e,hz] at e1;cases e1
theorem P5_get:∀ {r:Nat}{t1 t2 t3 t4 t5:Tok},(r:Int) < 5→∃ p t,p∈P5∧[Value.str "A" t1,.str "B" t2,.str "C::D" t3,.str "E" t4,.str "UNIVERSAL" t5][(r:Int).toNat]? = some (.str p t):=fun {r t1 t2 t3 t4 t5} h=>by
 have:r < 5:=by omega
 match r,this with
 | 0,_=>exact ⟨_,_,by decide,rfl⟩
 | 1,_=>exact ⟨_,_,by decide,rfl⟩
 | 2,_=>exact ⟨_,_,by decide,rfl⟩
 | 3,_=>exact ⟨_,_,by decide,rfl⟩
 | 4,_=>exact ⟨_,_,by decide,rfl⟩
theorem N5_get:∀ {r:Nat}{t1 t2 t3 t4 t5:Tok},(r:Int) < 5→∃ p t,p∈N9∧[Value.str "m" t1,.str "n" t2,.str "AUTOLOAD" t3,.str "DESTROY" t4,.str "\x69mport" t5][(r:Int).toNat]? = some (.str p t):=fun {r t1 t2 t3 t4 t5} h=>by
 have:r < 5:=by omega
 match r,this with
 | 0,_=>exact ⟨_,_,by decide,rfl⟩
 | 1,_=>exact ⟨_,_,by decide,rfl⟩
 | 2,_=>exact ⟨_,_,by decide,rfl⟩
 | 3,_=>exact ⟨_,_,by decide,rfl⟩
 | 4,_=>exact ⟨_,_,by decide,rfl⟩
theorem N9_N10 {x:Str}(h:x∈N9):x∈N10:=(by decide:∀ p∈N9,p∈N10) x h
theorem codeUpd {a:Ad}{v:Sv}{σb σ₆ σ₇:Map}{code:Option Addr}(h0:∀ x,code=some x→σb x=none) (u₆:Upd (fun b=>b=a.H) σb σ₆) (u₇:Upd (codeF' a v.gl code) σ₆ σ₇):Upd (Foot a v) σb σ₇:=fun b bo hb hF=>
 u₇ b bo (u₆ b bo hb (fun z=>hF (by rw [z];exact Foot.H))) fun z=>by
  rcases z with z | z | z | z | ⟨j,g,z1,z2⟩ | z | ⟨j,g,z1,z2⟩
  ·exact hF (by rw [z];exact Foot.H)
  ·exact hF (by rw [z];exact Foot.D)
  ·exact hF (by rw [z];exact Foot.S)
  ·exact hF (by rw [z];exact Foot.Z)
  ·exact hF (Foot.gl z1 (.inl z2))
  ·rw [h0 b z] at hb;cases hb
  ·exact hF (Foot.gl z1 (.inr (.inr (.inr (.inl z2)))))
theorem none_back {a:Ad}{σb σ₆:Map}{x:Addr}{ao:AO}(u₆:Upd (fun b=>b=a.H) σb σ₆) (eH:σ₆ a.H=some ao) (h:σ₆ x=none):σb x=none:=by
 cases q:σb x with
 | none=>rfl
 | some bo=>
  by_cases e:x=a.H
  ·rw [e,eH] at h;cases h
  ·have:=u₆ x bo q e;rw [h] at this;cases this
section
variable {Kt:Type} [DecidableEq Kt]
theorem atKey_filter {k:Kt}(xs:List (Kt × Addr × Value)) (j:Kt):atKey (xs.filter fun x=>decide (x.1≠k)) j=if j=k then none else atKey xs j:=by
 induction xs with
 | nil=>exact (ite_self (α:=Option (Addr × Value)) none).symm
 | cons y ys ih=>
  by_cases e:y.1=k
  ·rw [List.filter_cons_of_neg (by simp [e]),ih,jG]
   by_cases z:j=k
   ·rw [if_pos z,if_pos z]
   ·rw [if_neg z,if_neg z,if_neg (fun q=>z (q.symm.trans e))]
  ·rw [List.filter_cons_of_pos (by simp [e]),jG,jG,ih]
   by_cases z:j=k
   ·rw [if_pos z,if_pos z,if_neg (fun q=>e (q.trans z))]
   ·rw [if_neg z,if_neg z]
theorem atKey_nodup {xs:List (Kt × Addr × Value)}{x:Kt × Addr × Value}(hn:(xs.map (·.1)).Nodup) (hx:x∈xs):atKey xs x.1=some x.2:=by
 induction xs with
 | nil=>exact absurd hx List.not_mem_nil
 | cons y ys ih=>
  rw [jG]
  have hn:=List.nodup_cons.mp hn
  by_cases e:y.1=x.1
  ·rw [if_pos e]
   exact (List.mem_cons.mp hx).elim (fun z=>by rw [z]) fun z=>absurd (List.mem_map.mpr ⟨x,z,e.symm⟩) hn.1
  ·rw [if_neg e]
   exact ih hn.2 ((List.mem_cons.mp hx).resolve_left fun z=>e (by rw [z]))
theorem atKey_none_of {xs:List (Kt × Addr × Value)}{k:Kt}(h:∀ x∈xs,x.1≠k):atKey xs k=none:=by
 unfold atKey
 rw [Option.map_eq_none_iff,List.find?_eq_none]
 exact fun x hx=>by simpa using h x hx
theorem take_apart {xs:List (Kt × Addr × Value)}{i:Nat}{x:Kt × Addr × Value}(hn:(xs.map (·.1)).Nodup) (hx:xs[i]? = some x):∀ y∈xs.take i,y.1≠x.1:=fun y hy e=>by
 refine zk fun zz=>?_
 obtain ⟨j,hj,hyj⟩:=List.mem_take_iff_getElem.mp hy
 obtain ⟨hi,hxi⟩:=List.getElem?_eq_some_iff.mp hx
 refine zz ?_;clear zz
 have hjl:j < xs.length:=by omega
 have h1:(xs.map (·.1))[j]'(by simpa using hjl)=(xs.map (·.1))[i]'(by simpa using hi):=by
  rw [List.getElem_map,List.getElem_map,hyj,hxi,e]
 exact List.pairwise_iff_getElem.mp hn j i (by simpa using hjl) (by simpa using hi) (by omega) h1
end
theorem P_itemTE {Kt:Type} [DecidableEq Kt] {knd:HeapKind prog w Kt}{R:KeyRep knd}{d ka:Addr}{xs:List (Kt × Addr × Value)}{es:Array DictEntry}{ep:Nat}{k:Kt}{value slice:PySem.Expr}{p:Addr × Value}{Q:Value→Loc→Map→Prop}
 (hx:σ d=some (.raw (hdE knd d xs es ep))) (hks:∀ x∈xs,R.at_ σ x.1 x.2.1) (hu:knd.room c.A.in1) (hk:R.at_ σ k ka) (hp:atKey xs k=some p) (h:Q p.2 m σ)
 (hs:subscripted slice false (.ref d) (.ref ka)=operate [.ref d,.ref ka] (getItem (.ref d) (.ref ka)):=by kernel_rfl) :
 POK prog w G (zg G 336) c (subscriptTail value slice (.ref d) (.ref ka)) m σ Q X:=.of fun τ s hd hs'=>by
 refine St.on hs' fun hp' tk news own hs' l=>?_
 refine zk fun zz=>?_
 obtain ⟨o,h1,h2,h3,h4,h5,h6,h7⟩:=l.rawAt (Map.or_some hx)
 refine zz ?_;clear zz
 have D:hp'.DictOfH knd d xs:=⟨o,es,ep,(l.N _ h1).1,h4,h5,h6,fun x hx=>R.sound l (R.up (hks x hx)),h7⟩
 exact tail_any (s:=⟨hp',G.fix.gens,G.fix.drawn,tk,G.fix.os⟩) D.typeIs slot_dict_getitem.lookup (wpAny_getItem_heap hu (R.sound l (R.up hk)) D hp ⟨m,σ,hd,hs'.toks _,h⟩) hs
theorem isl_ext {σ σ':Map}(u:Ext σ σ') {ki:List (Str × Value)}{par:Str→List Str}{B:Addr→Prop}(h:∀ p,match valueAt ki p with | none=>par p=[] | some x=>∃ l ys,x = .ref l∧σ l=some (.seq false ys)∧StrsAre ys (par p)∧¬ B l) :
 ∀ p,match valueAt ki p with | none=>par p=[] | some x=>∃ l ys,x = .ref l∧σ' l=some (.seq false ys)∧StrsAre ys (par p)∧¬ B l:=fun p=>by
 have:=h p
 cases q:valueAt ki p with
 | none=>rw [q] at this;exact this
 | some x=>rw [q] at this;obtain ⟨l,ys,e1,e2,e3,e4⟩:=this;exact ⟨l,ys,e1,u.get e2,e3,e4⟩
theorem LawC.isaPut {a:Ad}{v:Sv}{cnt:Nat}{BK IS SB TL NM SC SP l:Addr}{par:Str→List Str}{sb:Str→Str→Option Int}{tl:Str→Option Str}{names:List Str}{ki:List (Str × Value)}{p:Str}{zs:List Value}{qs:List Str}
 (h:LawC prog w σ a v cnt BK IS SB TL NM SC SP par sb tl names) (e:σ IS=some (.raw (sdP prog w IS ki))) (hi0:ki.length≤cnt)
 (hki:∀ p,match valueAt ki p with | none=>par p=[] | some x=>∃ l ys,x = .ref l∧σ l=some (.seq false ys)∧StrsAre ys (par p)∧¬ ((Foot a v l∨l=SP)∨l=NM)) (hl:σ l=some (.seq false zs)) (hz:StrsAre zs qs) (f:Free a v BK IS SB TL NM SP l) :
 LawC prog w (σ.set IS (.raw (sdP prog w IS (stored ki p (.ref l))))) a v (cnt+1) BK IS SB TL NM SC SP (updF par p qs) sb tl names:=
 h.book (Upd.refl.set_in rfl) (Nat.le_succ _) (h.hb.isa' e hi0 hki hl hz (fun z=>z.elim f.f f.ne.2.2.2.2.2) f.ne.2.2.2.2.1) (fun z=>h.hb.nb.2 (.inl z)) (fun ys e'=>by rw [e] at e';cases e') (fun z=>by
  refine zk fun zz=>?_
  obtain ⟨⟨ys,ns,e1,_⟩,_⟩:=h.hs
  refine zz ?_;clear zz
  rw [z,e] at e1;cases e1)
theorem P6_get:∀ {r:Nat}{t1 t2 t3 t4 t5:Tok},(r:Int) < 5→∃ p t,p∈P6∧[Value.str "A" t1,.str "B" t2,.str "C::D" t3,.str "E" t4,.str "F" t5][(r:Int).toNat]? = some (.str p t):=fun {r t1 t2 t3 t4 t5} h=>by
 have:r < 5:=by omega
 match r,this with
 | 0,_=>exact ⟨_,_,by decide,rfl⟩
 | 1,_=>exact ⟨_,_,by decide,rfl⟩
 | 2,_=>exact ⟨_,_,by decide,rfl⟩
 | 3,_=>exact ⟨_,_,by decide,rfl⟩
 | 4,_=>exact ⟨_,_,by decide,rfl⟩
inductive Par5 (prog':Program) (w':World) (σ:Map) (a:Ad) (v:Sv) (N:Nat) (BK IS SB TL NM SC SP:Addr) (tl:Str→Option Str) (names:List Str) (pk:Str) (tk:Tok) (x L:Addr) (R:Addr→Prop):Prop
 | mk (v':Sv) (g:GI) (h1:LawC prog w σ a v' N BK IS SB TL NM SC SP v'.par v'.sb tl names) (h2:NmOk v'.gl (names ++ [pk])) (h3:v'.tl=v.tl) (h4:v'.gl (cc pk "ISA")=some g) (h5:g.ar=some x) (h6:Free a v' BK IS SB TL NM SP (L+1)) (h7:Free a v' BK IS SB TL NM SP (L+2))
  (h8:σ (L+1)=some (.raw (zU (some (.ref BK))))) (h9:σ (L+2)=some (.raw (zU (some (.str pk tk))))) (h10:∀ z,R z→Free a v' BK IS SB TL NM SP z):Par5 prog' w' σ a v N BK IS SB TL NM SC SP tl names pk tk x L R
theorem Par5.le {a:Ad}{v:Sv}{N N':Nat}{BK IS SB TL NM SC SP:Addr}{tl:Str→Option Str}{names:List Str}{pk:Str}{tk:Tok}{x L:Addr}{R:Addr→Prop}(h:Par5 prog w σ a v N BK IS SB TL NM SC SP tl names pk tk x L R) (hn:N≤N'):Par5 prog w σ a v N' BK IS SB TL NM SC SP tl names pk tk x L R:=
 by obtain ⟨v',g,h1,h2,h3,h4,h5,h6,h7,h8,h9,h10⟩:=h;exact ⟨v',g,h1.le hn,h2,h3,h4,h5,h6,h7,h8,h9,h10⟩
theorem Par5.ext {σ':Map}{a:Ad}{v:Sv}{N:Nat}{BK IS SB TL NM SC SP:Addr}{tl:Str→Option Str}{names:List Str}{pk:Str}{tk:Tok}{x L:Addr}{R:Addr→Prop}(h:Par5 prog w σ a v N BK IS SB TL NM SC SP tl names pk tk x L R) (u:Ext σ σ'):Par5 prog w σ' a v N BK IS SB TL NM SC SP tl names pk tk x L R:=
 by obtain ⟨v',g,h1,h2,h3,h4,h5,h6,h7,h8,h9,h10⟩:=h;exact ⟨v',g,h1.ext u,h2,h3,h4,h5,h6,h7,u.get h8,u.get h9,h10⟩
theorem Par5.spot {σ':Map}{a:Ad}{v:Sv}{N:Nat}{BK IS SB TL NM SC SP:Addr}{tl:Str→Option Str}{names:List Str}{pk:Str}{tk:Tok}{x L:Addr}{R:Addr→Prop}(h:Par5 prog w σ a v N BK IS SB TL NM SC SP tl names pk tk x L R) (u:Upd (fun b=>b=SP) σ σ') (hs:SpotAt σ' SC SP) :
 Par5 prog w σ' a v N BK IS SB TL NM SC SP tl names pk tk x L R:=
 by obtain ⟨v',g,h1,h2,h3,h4,h5,h6,h7,h8,h9,h10⟩:=h;exact ⟨v',g,h1.spot u hs,h2,h3,h4,h5,h6,h7,u.get h8 h6.ne.2.2.2.2.2,u.get h9 h7.ne.2.2.2.2.2,h10⟩
theorem Par5.sp {a:Ad}{v:Sv}{N:Nat}{BK IS SB TL NM SC SP:Addr}{tl:Str→Option Str}{names:List Str}{pk:Str}{tk:Tok}{x L:Addr}{R:Addr→Prop}(h:Par5 prog w σ a v N BK IS SB TL NM SC SP tl names pk tk x L R):SpotAt σ SC SP:=by obtain ⟨_,_,h1,_,_,_,_,_,_,_,_,_⟩:=h;exact h1.hs
theorem Par5.add {a:Ad}{v:Sv}{N:Nat}{BK IS SB TL NM SC SP z:Addr}{ao:AO}{tl:Str→Option Str}{names:List Str}{pk:Str}{tk:Tok}{x L:Addr}(h:Par5 prog w σ a v N BK IS SB TL NM SC SP tl names pk tk x L (fun _=>False)) (hz:σ z=none):Par5 prog w (σ.set z ao) a v N BK IS SB TL NM SC SP tl names pk tk x L (fun b=>b=z):=by
 refine zk fun zz=>?_
 obtain ⟨v',g,h1,h2,h3,h4,h5,h6,h7,h8,h9,_⟩:=h
 refine zz ?_;clear zz
 have u:Ext σ (σ.set z ao):=Upd.refl.set_new hz
 exact ⟨v',g,h1.ext u,h2,h3,h4,h5,h6,h7,u.get h8,u.get h9,fun b e=>by rw [e];exact h1.free hz⟩
theorem spec_lawChange {A:Around}{n:Nat}(hY:Fly.Leaves prog w G (zg G 336)) (hA:A.frames=some c.fr) (hR:Rm A (n+9)) {a:Ad}{v:Sv}{cnt:Nat}{BK IS SB TL NM SC SP:Addr}{tl:Str→Option Str}{names:List Str}{Q:Value→Loc→Map→Prop}
 (hL:LawAt prog w σ a v cnt BK IS SB TL NM SC SP tl names) (hc:cnt≤850)
 (hQ:∀ σ' v' SB' names',LawAt prog w σ' a v' (cnt+10) BK IS SB' TL NM SC SP tl names'→v'.tl=v.tl→Q .none m σ'):COK prog w G (zg G 336) c A (.ref 774) ⟨[.ref SC,.ref SP,.ref a.R,.ref BK],[]⟩ m σ Q X:=by
 refine C_fnCR (by assumption) (by assumption) (by assumption) (by k_is) (by k_is) (by exact fun s _=>BindsTo.of_eq rfl) (by exact fun k=>kinds_of ⟨.inl rfl,.inl rfl,.inl rfl,.inr ⟨rfl,rfl⟩,trivial⟩) (by decide) (by rfl) (by rfl) (by rfl) ?_
 intro d hR' hfr hap
 have hRm:Rm (cxOfC _ _ 774 (.ref 773) rfl d).A (n+8):=hR'
 have hZ1:σ (d.L+1)=none:=hfr (("book" : Str),d.L+1) (.tail _ (.tail _ (.head _)))
 have hZ2:σ (d.L+2)=none:=hfr (("package" : Str),d.L+2) (.tail _ (.head _))
 have hZ3:σ (d.L+3)=none:=hfr (("name" : Str),d.L+3) (.head _)
 have n12:d.L+1≠d.L+2:=by simp
 have n13:d.L+1≠d.L+3:=by simp
 have n23:d.L+2≠d.L+3:=by simp
 have f1:=hL.core.free hZ1
 have f2:=hL.core.free hZ2
 have f3:=hL.core.free hZ3
 have g2:(σ.set (d.L+1) (.raw (zU (some (.ref BK))))) (d.L+2)=none:=(Map.set_ne n12.symm).trans hZ2
 have g3:((σ.set (d.L+1) (.raw (zU (some (.ref BK))))).set (d.L+2) (.raw (zU none))) (d.L+3)=none:=(Map.set_ne n23.symm).trans ((Map.set_ne n13.symm).trans hZ3)
 have u₀:Ext σ (((σ.set (d.L+1) (.raw (zU (some (.ref BK))))).set (d.L+2) (.raw (zU none))).set (d.L+3) (.raw (zU none))):=((Upd.refl.set_new hZ1).set_new g2).set_new g3
 have h₀:=hL.core.ext u₀
 show POK _ _ _ _ _ _ _ (((σ.set (d.L+1) (.raw (zU (some (.ref BK))))).set (d.L+2) (.raw (zU none))).set (d.L+3) (.raw (zU none))) _ _
 have c1:(((σ.set (d.L+1) (.raw (zU (some (.ref BK))))).set (d.L+2) (.raw (zU none))).set (d.L+3) (.raw (zU none))) (d.L+1)=some (.raw (zU (some (.ref BK)))):=(Map.set_ne n13).trans ((Map.set_ne n12).trans Map.set_self)
 have c2:(((σ.set (d.L+1) (.raw (zU (some (.ref BK))))).set (d.L+2) (.raw (zU none))).set (d.L+3) (.raw (zU none))) (d.L+2)=some (.raw (zU none)):=(Map.set_ne n23).trans Map.set_self
 have c3:(((σ.set (d.L+1) (.raw (zU (some (.ref BK))))).set (d.L+2) (.raw (zU none))).set (d.L+3) (.raw (zU none))) (d.L+3)=some (.raw (zU none)):=Map.set_self
 generalize (((σ.set (d.L+1) (.raw (zU (some (.ref BK))))).set (d.L+2) (.raw (zU none))).set (d.L+3) (.raw (zU none)))=σ₀ at h₀ c1 c2 c3 ⊢
 revert σ₀
 refine idP ?_
 intro σ₀ h₀ c1 c2 c3
 refine ze (zu (zR (zh (by k_is) (zv (zh (by k_is) (zf (by kernel_rfl) (za (zb rfl (za (zb rfl (za (zD fun t1=>zc (COK.call (jf (n:=n) hY rfl (hRm.le (by omega)) h₀.hs h₀.ho.2.2.1 (by decide) fun σ₁ r t2 u₁ hs₁ hr=>?_))))))))))))))
 have h₁:=h₀.spot u₁ hs₁
 refine zk fun zz=>?_
 obtain ⟨pk,tk,hpk,hget⟩:=P5_get (t1:=1187) (t2:=1188) (t3:=1189) (t4:=1190) (t5:=1191) hr
 refine zz ?_;clear zz
 refine P_itemL (.inr (by k_is)) (by omega) (by omega) hget (P_storeCell (by rfl) (u₁.get c2 f2.ne.2.2.2.2.2) ?_)
 have h₁':=h₁.cell (ao:=.raw (zU (some (.str pk tk)))) f2 (u₁.get c2 f2.ne.2.2.2.2.2)
 have d1:(σ₁.set (d.L+2) (.raw (zU (some (.str pk tk))))) (d.L+1)=some (.raw (zU (some (.ref BK)))):=(Map.set_ne n12).trans (u₁.get c1 f1.ne.2.2.2.2.2)
 have d2:(σ₁.set (d.L+2) (.raw (zU (some (.str pk tk))))) (d.L+2)=some (.raw (zU (some (.str pk tk)))):=Map.set_self
 have d3:(σ₁.set (d.L+2) (.raw (zU (some (.str pk tk))))) (d.L+3)=some (.raw (zU none)):=(Map.set_ne n23.symm).trans (u₁.get c3 f3.ne.2.2.2.2.2)
 generalize σ₁.set (d.L+2) (.raw (zU (some (.str pk tk))))=σ₂ at h₁' d1 d2 d3 ⊢
 revert σ₂
 refine idP ?_
 intro σ₂ h₁' d1 d2 d3
 clear h₁ hs₁ u₁ c1 c2 c3 hget
 have hpl:pk.length≤100:=(by decide:∀ p∈P5,p.length≤100) pk hpk
 refine ze (zu (zv (zh (by k_is) (zf (by kernel_rfl) (za (zb rfl (za (zb rfl (za (zD fun t3=>zc (COK.call (jf (n:=n) hY rfl (hRm.le (by omega)) h₁'.hs h₁'.ho.2.2.1 (by decide) fun σ₃ way t4 u₃ hs₃ hway=>zx ?_))))))))))))
 have h₃:=h₁'.spot u₃ hs₃
 have e1:=u₃.get d1 f1.ne.2.2.2.2.2
 have e2:=u₃.get d2 f2.ne.2.2.2.2.2
 have e3:=u₃.get d3 f3.ne.2.2.2.2.2
 clear d1 d2 d3 u₃ hs₃ h₁'
 refine P_joinR (J:=fun m' σ'=>X2 fun v' SB'=>A5 (LawC prog w σ' a v' (cnt+9) BK IS SB' TL NM SC SP v'.par v'.sb tl names) (NmOk v'.gl (names ++ [pk])) (v'.tl=v.tl) (σ' (d.L+1)=some (.raw (zU (some (.ref BK))))) (σ' (d.L+2)=some (.raw (zU (some (.str pk tk)))))) ?_ ?_
 ·refine zJ (zj (zb rfl (zD fun t5=>P_ltInt (zd ⟨fun hb1=>?_,fun hb1=>?_⟩))))
  ·-- a sub is laid
   refine ze (zu (zR (zv (zh (by k_is) (jl (by kernel_rfl) (COK.call (spec_lawNames (n:=n) hY rfl (hRm.le (by omega)) fun D q1 q2 q3 q4 q5 hD=>zv (zh (by k_is) (zf (by kernel_rfl) (za (zb rfl (za (zb rfl (za (zD fun t6=>zc (COK.call
    (jf (n:=n) hY rfl (hRm.le (by omega)) ((h₃.ext (Upd.refl.set_new hD)).hs) h₃.ho.2.2.1 (by decide) fun σ₄ r2 t7 u₄ hs₄ hr2=>?_)))))))))))))))))
   have hDS:D≠SP:=by
    refine zk fun zz=>?_
    obtain ⟨_,k,t,e⟩:=h₃.hs
    refine zz ?_;clear zz
    exact (zm e hD).symm
   refine zk fun zz=>?_
   obtain ⟨nm,tn,hnm,hget⟩:=N5_get (t1:=q1) (t2:=q2) (t3:=q3) (t4:=q4) (t5:=q5) hr2
   refine zz ?_;clear zz
   have h₄:=(h₃.ext (Upd.refl.set_new hD)).spot u₄ hs₄
   have e3':=u₄.get (Map.set_new hD e3) f3.ne.2.2.2.2.2
   refine kh (u₄.get Map.set_self hDS) (by omega) (by omega) hget (P_storeCell (by rfl) e3' ?_)
   have h₅:=h₄.cell (ao:=.raw (zU (some (.str nm tn)))) f3 e3'
   have k1:=(Map.set_ne (σ:=σ₄) (ao:=.raw (zU (some (.str nm tn)))) n13).trans (u₄.get (Map.set_new hD e1) f1.ne.2.2.2.2.2)
   have k2:=(Map.set_ne (σ:=σ₄) (ao:=.raw (zU (some (.str nm tn)))) n23).trans (u₄.get (Map.set_new hD e2) f2.ne.2.2.2.2.2)
   have k3:(σ₄.set (d.L+3) (.raw (zU (some (.str nm tn))))) (d.L+3)=some (.raw (zU (some (.str nm tn)))):=Map.set_self
   generalize σ₄.set (d.L+3) (.raw (zU (some (.str nm tn))))=σ₅ at h₅ k1 k2 k3 ⊢
   revert σ₅
   refine idP ?_
   intro σ₅ h₅ k1 k2 k3
   have hnl:nm.length≤100:=(by decide:∀ p∈N9,p.length≤100) nm hnm
   refine zk fun zz=>?_
   obtain ⟨_,_,_,_,_,_,_,_,_,_,_,_,_,eR⟩:=id h₅.hw.run
   obtain ⟨lim,tH,eH⟩:=id h₅.hw.heap
   refine zz ?_;clear zz
   refine ze (zu (zI (zB (zb rfl (zw eR (by kernel_rfl) rfl rfl (zQ (f:=236) eH (by kernel_rfl) rfl (zf (by kernel_rfl) (za (zA (za (z9 (zc (zF fun l0 hl0=>zc (COK.call
    (spec_newCode (n:=n) hY rfl (hRm.le (by omega)) (Map.set_new hl0 eH) fun σ₆ x t8 t9 t10 wk u₆ eH₆ hx ex=>zx ?_)))))))))))))))
   have hb5:=h₅.ext (Upd.refl.set_new (ao:=.seq false []) hl0)
   have h₆:=hb5.step (hb5.hw.heapUp u₆ ⟨lim,t8,eH₆⟩) (Step.heapUp u₆) (Nat.le_refl _)
   have hcode:CodeAt σ₆ x (v.last+1):=⟨t8,0,t9,wk,_,_,_,t10,ex⟩
   refine zk fun zz=>?_
   obtain ⟨_,_,_,_,_,_,_,_,_,_,_,_,_,eR₆⟩:=id h₆.hw.run
   refine zz ?_;clear zz
   have nH:∀ {z:Addr},Free a v BK IS SB TL NM SP z→¬ z=a.H:=fun f z=>f.f (by rw [z];exact Foot.H)
   have k1₆:=u₆.get (Map.set_new hl0 k1) (nH f1)
   have k2₆:=u₆.get (Map.set_new hl0 k2) (nH f2)
   have k3₆:=u₆.get (Map.set_new hl0 k3) (nH f3)
   have lp2:(pk ++ ("::" : Str)).length=pk.length+2:=zP _ _
   refine ze (jt (zv (zh (by k_is) (zf (by kernel_rfl) (za (zB (zb rfl (zw eR₆ (by kernel_rfl) rfl rfl (za (zB (zb rfl (zw eR₆ (by kernel_rfl) rfl rfl (za (zG (zG (jw (by rfl) k2₆ (zo fun t11=>zH (by rw [sizeLine_eq];show _+2≤_;omega) fun t12=>jw (by rfl) k3₆ (zH (by rw [lp2,sizeLine_eq];omega) fun t13=>
    za (zb rfl (zc (COK.call (spec_setCodeW (n:=n) (code:=some x) (k:=some (v.last+1)) hY rfl (hRm.le (by omega)) h₆.hw (by omega) hpk (N9_N10 hnm) ⟨_,rfl,hcode⟩ fun σ₇ g last' hg h7 u₇ cd=>?_))))))))))))))))))))))
   have s7:=Step.setCode (a:=a) (v:=v) (σ:=σ₅.set l0 (.seq false [])) (σ':=σ₇) (nm:=cc pk nm) (g:=g) (code:=some x) (last':=last') (gen':=v.gen+1) (sb':=sbPut v.sb pk nm (some (v.last+1))) (hg.imp id fun ⟨q1,q2,q3⟩=>⟨q1,none_back u₆ eH₆ q2,q3⟩)
    (fun y e=>by cases e;exact hx) (codeUpd (fun y e=>by cases e;exact hx) u₆ u₇)
   have h₇:=hb5.step h7 s7 (Nat.le_succ _)
   refine zk fun zz=>?_
   obtain ⟨f1',k1₇⟩:=f1.step (Map.set_new hl0 k1) s7
   obtain ⟨f2',k2₇⟩:=f2.step (Map.set_new hl0 k2) s7
   obtain ⟨f3',k3₇⟩:=f3.step (Map.set_new hl0 k3) s7
   obtain ⟨t14,kk,t15,wk2,sx,cp,bb,t16,ex7⟩:=cd _ _ hcode
   obtain ⟨kb,b1,b2,b3,b4,b5,b6⟩:=id h₇.hb.bk
   obtain ⟨_,xs,T,hxl,hxs⟩:=id h₇.hb.subs
   refine zz ?_;clear zz
   refine ze (jF (zB (zb rfl (zw ex7 (by kernel_rfl) rfl rfl (zR (jw (by rfl) k1₇ (zo fun t17=>jk b1 b3 (z0 (za (jw (by rfl) k2₇ (za (jw (by rfl) k3₇ (zc (zL (fun ka hka=>?_) (lek rfl)))))))))))))))
   have h₈:=h₇.ext (Upd.refl.set_new (ao:=.seq true [.str pk tk,.str nm tn]) hka)
   have T8:TD (jZ prog w) (σ₇.set ka (.seq true [.str pk tk,.str nm tn])) SB xs:=T.keeps (Map.set_new hka T.1) fun b zs hb=>Map.set_new hka hb
   refine P_setT T8 (roomT (hRm.le (by omega:1≤n+8))) (k:=[pk,nm]) ⟨_,Map.set_self,.cons _ _ (.cons _ _ .nil)⟩ (by rw [sizeLine_eq];omega) fun T9=>?_
   have h₉:=h₈.book (Upd.refl.set_in rfl) (Nat.le_succ _) (h₈.hb.sub hpk T8 hxl hxs T9) h₈.hb.out.1 (fun ys e=>by rw [T8.1] at e;cases e) (fun e=>by
    refine zk fun zz=>?_
    obtain ⟨⟨ys,ns,e1,_⟩,_⟩:=h₈.hs
    refine zz ?_;clear zz
    rw [e,T8.1] at e1;cases e1)
   exact zy ⟨_,SB,h₉.le (by omega),(hL.hn.put (N9_N10 hnm)),rfl,Map.set_other (Map.set_new hka k1₇) (fun e=>f1.ne.2.2.1 e),Map.set_other (Map.set_new hka k2₇) (fun e=>f2.ne.2.2.1 e)⟩
  ·refine ze (zJ (zj (zb rfl (zD fun t5=>P_eqInt (zd ⟨fun hb2=>?_,fun hb2=>?_⟩)))))
   ·-- a sub is taken away
    refine ze (zu (zR (zv (zh (by k_is) (jl (by kernel_rfl) (COK.call (spec_lawNames (n:=n) hY rfl (hRm.le (by omega)) fun D q1 q2 q3 q4 q5 hD=>zv (zh (by k_is) (zf (by kernel_rfl) (za (zb rfl (za (zb rfl (za (zD fun t6=>zc (COK.call
     (jf (n:=n) hY rfl (hRm.le (by omega)) ((h₃.ext (Upd.refl.set_new hD)).hs) h₃.ho.2.2.1 (by decide) fun σ₄ r2 t7 u₄ hs₄ hr2=>?_)))))))))))))))))
    have hDS:D≠SP:=by
     refine zk fun zz=>?_
     obtain ⟨_,k,t,e⟩:=h₃.hs
     refine zz ?_;clear zz
     exact (zm e hD).symm
    refine zk fun zz=>?_
    obtain ⟨nm,tn,hnm,hget⟩:=N5_get (t1:=q1) (t2:=q2) (t3:=q3) (t4:=q4) (t5:=q5) hr2
    refine zz ?_;clear zz
    have h₄:=(h₃.ext (Upd.refl.set_new hD)).spot u₄ hs₄
    have e3':=u₄.get (Map.set_new hD e3) f3.ne.2.2.2.2.2
    refine kh (u₄.get Map.set_self hDS) (by omega) (by omega) hget (P_storeCell (by rfl) e3' ?_)
    have h₅:=h₄.cell (ao:=.raw (zU (some (.str nm tn)))) f3 e3'
    have k1:=(Map.set_ne (σ:=σ₄) (ao:=.raw (zU (some (.str nm tn)))) n13).trans (u₄.get (Map.set_new hD e1) f1.ne.2.2.2.2.2)
    have k2:=(Map.set_ne (σ:=σ₄) (ao:=.raw (zU (some (.str nm tn)))) n23).trans (u₄.get (Map.set_new hD e2) f2.ne.2.2.2.2.2)
    have k3:(σ₄.set (d.L+3) (.raw (zU (some (.str nm tn))))) (d.L+3)=some (.raw (zU (some (.str nm tn)))):=Map.set_self
    generalize σ₄.set (d.L+3) (.raw (zU (some (.str nm tn))))=σ₅ at h₅ k1 k2 k3 ⊢
    revert σ₅
    refine idP ?_
    intro σ₅ h₅ k1 k2 k3
    have hnl:nm.length≤100:=(by decide:∀ p∈N9,p.length≤100) nm hnm
    refine zk fun zz=>?_
    obtain ⟨_,_,_,_,_,_,_,_,_,_,_,_,_,eR⟩:=id h₅.hw.run
    refine zz ?_;clear zz
    have lp2:(pk ++ ("::" : Str)).length=pk.length+2:=zP _ _
    refine ze (jt (zv (zh (by k_is) (zf (by kernel_rfl) (za (zB (zb rfl (zw eR (by kernel_rfl) rfl rfl (za (zB (zb rfl (zw eR (by kernel_rfl) rfl rfl (za (zG (zG (jw (by rfl) k2 (zo fun t11=>zH (by rw [sizeLine_eq];show _+2≤_;omega) fun t12=>jw (by rfl) k3 (zH (by rw [lp2,sizeLine_eq];omega) fun t13=>
     za (zA (zc (COK.call (spec_setCodeW (n:=n) (code:=none) (k:=none) hY rfl (hRm.le (by omega)) h₅.hw (by omega) hpk (N9_N10 hnm) rfl fun σ₇ g last' hg h7 u₇ cd=>?_))))))))))))))))))))))
    have s7:=Step.setCode (a:=a) (v:=v) (σ:=σ₅) (σ':=σ₇) (nm:=cc pk nm) (g:=g) (code:=none) (last':=last') (gen':=v.gen+1) (sb':=sbPut v.sb pk nm none) hg (fun y e=>by cases e) (codeUpd (σb:=σ₅) (fun y e=>by cases e) Upd.refl u₇)
    have h₇:=h₅.step h7 s7 (Nat.le_succ _)
    refine zk fun zz=>?_
    obtain ⟨f1',k1₇⟩:=f1.step k1 s7
    obtain ⟨f2',k2₇⟩:=f2.step k2 s7
    obtain ⟨f3',k3₇⟩:=f3.step k3 s7
    obtain ⟨kb,b1,b2,b3,b4,b5,b6⟩:=id h₇.hb.bk
    obtain ⟨_,xs,T,hxl,hxs⟩:=id h₇.hb.subs
    refine zz ?_;clear zz
    refine ze (jF (POK.nodupT T.1 fun hnd=>POK.openT T.1 fun es ep=>?_))
    have nS:∀ {b:Addr} {ao:AO},b≠SB→σ₇ b=some ao→(σ₇.set SB (.raw (hdE (tupleKind (strKind prog w)) SB xs es ep))) b=some ao:=fun hb h=>(Map.set_ne hb).trans h
    have nBS:=h₇.hb.ne.2.1
    have tupS:∀ {b:Addr} {zs:List Value},σ₇ b=some (.seq true zs)→(σ₇.set SB (.raw (hdE (tupleKind (strKind prog w)) SB xs es ep))) b=some (.seq true zs):=fun h=>nS (jo T.1 h).symm h
    have hun:d.un+40 * (n+8) < cLine:=hRm.2.1
    have eSB:(σ₇.set SB (.raw (hdE (tupleKind (strKind prog w)) SB xs es ep))) SB=some (.raw (hdE (tupleKind (strKind prog w)) SB xs es ep)):=Map.set_self
    have b1e:=nS nBS b1
    have z1e:=nS f1'.ne.2.2.1 k1₇
    have z2e:=nS f2'.ne.2.2.1 k2₇
    have z3e:=nS f3'.ne.2.2.1 k3₇
    have T2e:∀ x∈xs,(jZ prog w).at_ (σ₇.set SB (.raw (hdE (tupleKind (strKind prog w)) SB xs es ep))) x.1 x.2.1:=fun x hx=>(jZ prog w).keeps (fun b zs hb=>tupS hb) (T.2 x hx)
    refine P_dictComp (R:=jZ prog w) hRm.2.2 (cl:=[(("package" : Str),d.L+2),(("name" : Str),d.L+3),(("book" : Str),d.L+1)]) (by rfl) (by rfl) (by decide) (by decide) (by rfl) (by show d.un < cLine;omega) (zR (jw (by rfl) z1e (zo fun t14=>jk b1e b3
     ⟨xs.length,fun i v=>∃ x,xs[i]? = some x∧v = .ref x.2.1,fun ρ=>ρ SB=some (.raw (hdE (tupleKind (strKind prog w)) SB xs es ep)),fun i ys σ'=>Ext (σ₇.set SB (.raw (hdE (tupleKind (strKind prog w)) SB xs es ep))) σ'∧ys=(xs.take i).filter (fun x=>decide (x.1≠[pk,nm])),Iterable.dictT,by rw [sizeLine_eq];omega,?_,?_,?_,?_,?_⟩)))
    ·rintro i ys σ' τ' ⟨u,_⟩;exact Map.or_some (u.get eSB)
    ·rintro i ys σ' ⟨u,rfl⟩
     refine ⟨Nat.le_trans (List.length_filter_le _ _) (by rw [List.length_take];omega),fun y hy=>(jZ prog w).keeps (fun b zs hb=>u.get hb) (T2e y (List.mem_of_mem_take (List.mem_filter.mp hy).1))⟩
    ·exact ⟨Upd.refl,rfl⟩
    ·rintro Cd i v ys m₁ σ' hi ⟨x,hx,rfl⟩ ⟨u,rfl⟩ hm
     have hxm:x∈xs:=List.mem_of_getElem? hx
     have htk:xs.take (i+1)=xs.take i ++ [x]:=by rw [List.take_add_one,hx];rfl
     refine P_ifsOne (zj (zb hm (z0 (za (jw (by rfl) (u.get z2e) (za (jw (by rfl) (u.get z3e) (zc (zL (fun ka hka=>?_) (lek rfl))))))))))
     have u':Ext (σ₇.set SB (.raw (hdE (tupleKind (strKind prog w)) SB xs es ep))) (σ'.set ka (.seq true [.str pk tk,.str nm tn])):=u.set_new hka
     have at':∀ y∈xs,(jZ prog w).at_ (σ'.set ka (.seq true [.str pk tk,.str nm tn])) y.1 y.2.1:=fun y hy=>(jZ prog w).keeps (fun b zs hb=>u'.get hb) (T2e y hy)
     refine zk fun zz=>?_
     obtain ⟨zs,hzs,hzk⟩:=at' x hxm
     refine zz ?_;clear zz
     refine P_neTupS hzs Map.set_self hzk (.cons _ _ (.cons _ _ .nil)) (by show d.un < cLine;omega) (zd ⟨fun hok=>?_,fun hok=>⟨u',?_⟩⟩)
     ·refine zb hm (zR (zR (jw (by rfl) (u'.get z1e) (zo fun t15=>jk (u'.get b1e) b3 (zb hm (P_itemTE (R:=jZ prog w) (u'.get eSB) at' (by show d.un+1 < cLine;omega) (at' x hxm) (atKey_nodup hnd hxm) ⟨x.1,x.2.1,rfl,at' x hxm,fun y hy=>at' y (List.mem_of_mem_take (List.mem_filter.mp hy).1),u',?_⟩))))))
      have hno:atKey ((xs.take i).filter fun x=>decide (x.1≠[pk,nm])) x.1=none:=atKey_none_of fun y hy=>take_apart hnd hx y (List.mem_filter.mp hy).1
      rw [storedH_new hno,htk,List.filter_append,List.filter_cons_of_pos (by simpa using hok)]
      rfl
     ·rw [htk,List.filter_append,List.filter_cons_of_neg (by simpa using hok)]
      simp
    ·rintro ys σ' D ⟨u,rfl⟩ hD
     rw [List.take_length]
     refine POK.weak (a:=SB) (P:=hdE (tupleKind (strKind prog w)) SB xs es ep) (P':=hdP (tupleKind (strKind prog w)) SB xs) (Map.set_new hD (u.get eSB)) (fun o ho=>ho.close) ?_
     have hDS:SB≠D:=zm (u.get eSB) hD
     have u8:Ext σ₇ ((σ'.set D (.raw (hdP (tupleKind (strKind prog w)) D (xs.filter fun x=>decide (x.1≠[pk,nm]))))).set SB (.raw (hdP (tupleKind (strKind prog w)) SB xs))):=fun b bo hb _=>by
      by_cases e:b=SB
      ·rw [e,Map.set_self]
       rw [e,T.1] at hb
       exact hb
      ·rw [Map.set_ne e]
       exact Map.set_new hD (u.get (nS e hb))
     have h₈:=h₇.ext u8
     have eD:((σ'.set D (.raw (hdP (tupleKind (strKind prog w)) D (xs.filter fun x=>decide (x.1≠[pk,nm]))))).set SB (.raw (hdP (tupleKind (strKind prog w)) SB xs))) D=some (.raw (hdP (tupleKind (strKind prog w)) D (xs.filter fun x=>decide (x.1≠[pk,nm])))):=(Map.set_ne hDS.symm).trans Map.set_self
     have hDn:∀ {b:Addr} {ao:AO},σ₇ b=some ao→b≠D:=fun {b ao} hb=>by
      by_cases e:b=SB
      ·rw [e];exact hDS
      ·exact zm (u.get (nS e hb)) hD
     generalize ((σ'.set D (.raw (hdP (tupleKind (strKind prog w)) D (xs.filter fun x=>decide (x.1≠[pk,nm]))))).set SB (.raw (hdP (tupleKind (strKind prog w)) SB xs)))=σ₈ at u8 h₈ eD ⊢
     revert σ₈
     refine idP ?_
     intro σ₈ u8 h₈ eD
     have T8:TD (jZ prog w) σ₈ D (xs.filter fun x=>decide (x.1≠[pk,nm])):=⟨eD,fun x hx=>(jZ prog w).keeps (fun b zs hb=>u8.get hb) (T.2 x (List.mem_filter.mp hx).1)⟩
     have b18:=u8.get b1
     refine zk fun zz=>?_
     obtain ⟨_,⟨ki7,eI7,_⟩,_⟩:=id h₇.hb.isa
     obtain ⟨_,kt7,eT7,_⟩:=id h₇.hb.told
     refine zz ?_;clear zz
     have hFD:¬ (Foot a _ D∨D=SP):=fun z=>by
      refine zk fun zz=>?_
      obtain ⟨ao,e,_⟩:=h₇.hb.dom D z
      refine zz ?_;clear zz
      exact hDn e rfl
     have hb9:=h₈.hb.subs' (sb':=sbPut v.sb pk nm none) b18 b2 b4 b5 b3 b6 hFD T8 (Nat.le_trans (List.length_filter_le _ _) hxl) ⟨hDn b1,hDn eI7,hDn eT7⟩ (fun p' k'=>?_) (fun p' k' j hj=>?_)
     ·refine jw (by rfl) (u8.get k1₇) (zo fun t16=>P_setD b18 (by rw [sizeLine_eq];omega) ?_)
      ·have h₉:=h₈.book (Upd.refl.set_in rfl) (Nat.le_refl _) hb9 (fun z=>h₈.hb.nb.1 (.inl z)) (fun ys e=>by rw [b18] at e;cases e) (fun e=>by
        refine zk fun zz=>?_
        obtain ⟨⟨ys,ns,e1,_⟩,_⟩:=h₈.hs
        refine zz ?_;clear zz
        rw [e,b18] at e1;cases e1)
       exact zy (zy ⟨_,D,h₉.le (by omega),hL.hn.put (N9_N10 hnm),rfl,Map.set_other (u8.get k1₇) f1.ne.1,Map.set_other (u8.get k2₇) f2.ne.1⟩)
     ·rw [atKey_filter]
      have:=hxs p' k'
      by_cases e:p'=pk∧k'=nm
      ·rw [e.1,e.2,if_pos rfl]
       exact sbPut_self
      ·rw [if_neg (fun z=>e ⟨by injection z,by injection z with _ z;injection z⟩)]
       rw [sbPut_ne e]
       exact this
     ·by_cases e:p'=pk∧k'=nm
      ·rw [e.1,e.2,sbPut_self] at hj;cases hj
      ·rw [sbPut_ne e] at hj
       exact hL.hb.sbU p' k' j hj
   ·-- parents
    refine zk fun zz=>?_
    obtain ⟨_,_,_,_,_,_,_,_,_,_,_,_,_,eR⟩:=id h₃.hw.run
    obtain ⟨tS,eS⟩:=h₃.hw.stash.hS
    refine zz ?_;clear zz
    refine ze (zu (zI (zB (zb rfl (zw eR (by kernel_rfl) rfl rfl (zQ (f:=373) eS (by kernel_rfl) rfl (zf (by kernel_rfl) (za (zG (jw (by rfl) e2 (zo fun t6=>zH (by rw [sizeLine_eq];show _+5≤_;omega) fun t7=>zc (COK.call ?_))))))))))))
    rw [show pk ++ ("::ISA" : Str)=cc pk "ISA" from cc_isa pk]
    refine spec_arrayOfW (n:=n) hY rfl (hRm.le (by omega)) h₃.hw (by omega) hpk fun σ₄ v₄ g x hg hx W₄ s₄ p₄ b₄ tl₄ gl₄=>zx ?_
    have h₄:=h₃.step W₄ s₄ (Nat.le_succ _)
    refine zk fun zz=>?_
    obtain ⟨f1',k1⟩:=f1.step e1 s₄
    obtain ⟨f2',k2⟩:=f2.step e2 s₄
    refine zz ?_;clear zz
    have hn₄:NmOk v₄.gl (names ++ [pk]):=hL.hn.put' (by decide) hg gl₄
    have P₄:Par5 prog w σ₄ a v (cnt+1) BK IS SB TL NM SC SP tl names pk tk x d.L (fun _=>False):=⟨v₄,g,by rw [p₄,b₄];exact h₄,hn₄,tl₄,hg,hx,f1',f2',k1,k2,fun _ z=>z.elim⟩
    clear e1 e2 e3 h₃ h₄ W₄ s₄ p₄ b₄ tl₄ gl₄ hg hx f1' f2' k1 k2 hn₄
    refine j8 (J:=fun m' σ'=>A5 (m' "script" = some (.ref SC)) (m' "spot" = some (.ref SP)) (m' "run" = some (.ref a.R)) (m' "array" = some (.ref x)) (Par5 prog w σ' a v (cnt+4) BK IS SB TL NM SC SP tl names pk tk x d.L (fun _=>False))) ?_ ?_
    ·refine zJ (zj (zb rfl (zD fun t8=>P_eqInt (zd ⟨fun hb3=>?_,fun hb3=>zy ⟨rfl,rfl,rfl,rfl,rfl,P₄.le (by omega)⟩⟩))))
     refine zk fun zz=>?_
     obtain ⟨v₅,g₅,h₅,hn₅,tl₅,hg₅,hx₅,f1',f2',k1,k2,_⟩:=P₄
     obtain ⟨⟨bl,n0,t0,k0,t0',wk,ex⟩,elx,nZ⟩:=h₅.hw.arrs _ g₅ x hg₅ hx₅
     refine zz ?_;clear zz
     refine ze (zi (z9 (zc (zF fun D hD=>zb rfl (zn (Map.set_new hD ex) (by kernel_rfl) (lek (by kernel_rfl)) ?_)))))
     have hDx:D≠x:=(zm ex hD).symm
     refine zk fun zz=>?_
     obtain ⟨W6,s6⟩:=h₅.hw.reset hpk hg₅ hx₅ hD ((Upd.refl.set_new hD).set_in rfl) ⟨bl,n0,t0,k0,t0',wk,ju (by kernel_rfl)⟩ ((Map.set_ne hDx).trans Map.set_self)
     have h₆:=h₅.step W6 s6 (Nat.le_succ _)
     obtain ⟨f1'',k1₆⟩:=f1'.step k1 s6
     obtain ⟨f2'',k2₆⟩:=f2'.step k2 s6
     refine zz ?_;try clear zz
     generalize ((σ₄.set D (.seq false [])).set x _)=σ₆ at h₆ k1₆ k2₆ ⊢
     revert σ₆
     refine idP ?_
     intro σ₆ h₆ k1₆ k2₆
     refine zk fun zz=>?_
     obtain ⟨kb,b1,b2,b3,b4,b5,b6⟩:=id h₆.hb.bk
     obtain ⟨ki,eI,hi0,hki⟩:=id h₆.hb.isl
     refine zz ?_;clear zz
     refine ze (jF (z9 (zc (zF fun l hl=>zR (jw (by rfl) (Map.set_new hl k1₆) (zo fun t9=>jk (Map.set_new hl b1) b2 (jw (by rfl) (Map.set_new hl k2₆) (P_setD (Map.set_new hl eI) (by rw [sizeLine_eq];omega) ?_))))))))
     have h₇:=h₆.ext (Upd.refl.set_new (ao:=.seq false []) hl)
     have h₈:=h₇.isaPut (p:=pk) (qs:=[]) (Map.set_new hl eI) hi0 (isl_ext (Upd.refl.set_new hl) hki) Map.set_self .nil (h₆.free hl)
     exact zy ⟨rfl,rfl,rfl,rfl,rfl,resetSv v₅ pk D,g₅,h₈.le (by omega),hn₅,tl₅,hg₅,hx₅,f1'',f2'',Map.set_other (Map.set_new hl k1₆) f1.ne.2.1,Map.set_other (Map.set_new hl k2₆) f2.ne.2.1,fun _ z=>z.elim⟩
    ·rintro m₅ σ₅ ⟨q1,q2,q3,q4,P₅⟩
     have s₅:SpotAt σ₅ SC SP:=by obtain ⟨v₅,g₅,h₅,_⟩:=P₅;exact h₅.hs
     refine ze (P_for hRm.2.2 (zv (zC (by k_is) (by boot_by_name) (by decide) (P_callWithTy (za (zG (zD fun t8=>zv (zh (by k_is) (zf (by kernel_rfl) (za (zb (by exact q1) (za (zb (by exact q2) (za (zD fun t9=>zc (COK.call
      (jf (n:=n) hY rfl (hRm.le (by omega)) s₅ hL.ho.2.2.1 (by decide) fun σ₆ r t10 u₆ hs₆ hr=>P_addInt fun t11=>zc (P_range fun ra hra=>?_))))))))))))))))))
     have hr2:r < 2:=by omega
     have er:(1:Int)+(r:Int)=((1+r:Nat):Int):=by push_cast;rfl
     rw [er]
     refine ⟨1+r,fun i v=>∃ t,v = .int i t,fun ρ=>ρ ra=some (.raw (rangeP ((1+r:Nat):Int))),fun i m' σ'=>A7 (m' "script" = some (.ref SC)) (m' "spot" = some (.ref SP)) (m' "run" = some (.ref a.R)) (m' "array" = some (.ref x)) (σ' ra=some (.raw (rangeP ((1+r:Nat):Int)))) (i≤2) (Par5 prog w σ' a v (cnt+4+2 * i) BK IS SB TL NM SC SP tl names pk tk x d.L (fun z=>z=ra)),Iterable.range (by omega),?_,?_,?_,?_⟩
     ·exact fun i m' σ' τ' ⟨_,_,_,_,h,_,_⟩=>Map.or_some h
     ·exact ⟨q1,q2,q3,q4,Map.set_self,Nat.zero_le _,((P₅.spot u₆ hs₆).add hra)⟩
     ·rintro i v₆ m₆ σ₇ hi ⟨t12,rfl⟩ ⟨j1,j2,j3,j4,jr,ji,P⟩
      refine ze (zu (zR (zG (zR (zh (by k_is) (P_slice (jM (jN (zD fun t13 sl hsl=>P_tailSliceL (xs:=[.str "A" 1187,.str "B" 1188,.str "C::D" 1189,.str "E" 1190,.str "UNIVERSAL" 1191]) (lo:=none) (hi:=some 4) (.inr (by k_is)) Map.set_self .none (.int 4 t13) (by rw [sizeLine_eq];decide) fun D1 hD1=>
       z9 (za (zo fun t14=>zc (zF (fun D2 hD2=>?_) (lek rfl)))))))))))))
      refine P_addLists (Map.set_new hD2 Map.set_self) Map.set_self (show 4+1≤sizeLine by rw [sizeLine_eq];decide) fun D3 hD3=>?_
      have P₁:=P.ext (((((Upd.refl (F:=fun _=>False)).set_new (ao:=.raw (jO .none (.int 4 t13))) hsl).set_new (ao:=.seq false (kms_pick [.str "A" 1187,.str "B" 1188,.str "C::D" 1189,.str "E" 1190,.str "UNIVERSAL" 1191] none (some 4))) hD1).set_new (ao:=.seq false [.str "F" t14]) hD2).set_new (ao:=.seq false (kms_pick [.str "A" 1187,.str "B" 1188,.str "C::D" 1189,.str "E" 1190,.str "UNIVERSAL" 1191] none (some 4) ++ [.str "F" t14])) hD3)
      have jr1:=Map.set_new (ao:=.seq false (kms_pick [.str "A" 1187,.str "B" 1188,.str "C::D" 1189,.str "E" 1190,.str "UNIVERSAL" 1191] none (some 4) ++ [.str "F" t14])) hD3 (Map.set_new (ao:=.seq false [.str "F" t14]) hD2 (Map.set_new (ao:=.seq false (kms_pick [.str "A" 1187,.str "B" 1188,.str "C::D" 1189,.str "E" 1190,.str "UNIVERSAL" 1191] none (some 4))) hD1 (Map.set_new (ao:=.raw (jO .none (.int 4 t13))) hsl jr)))
      have hDS:D3≠SP:=by
       refine zk fun zz=>?_
       obtain ⟨_,k,t,e⟩:=(P.ext ((((Upd.refl (F:=fun _=>False)).set_new (ao:=.raw (jO .none (.int 4 t13))) hsl).set_new (ao:=.seq false (kms_pick [.str "A" 1187,.str "B" 1188,.str "C::D" 1189,.str "E" 1190,.str "UNIVERSAL" 1191] none (some 4))) hD1).set_new (ao:=.seq false [.str "F" t14]) hD2)).sp
       refine zz ?_;clear zz
       exact (zm e hD3).symm
      have raS:ra≠SP:=by
       refine zk fun zz=>?_
       obtain ⟨_,k,t,e⟩:=P.sp
       refine zz ?_;clear zz
       exact jo jr e
      refine zv (zh (by k_is) (zf (by kernel_rfl) (za (zb (by exact j1) (za (zb (by exact j2) (za (zD fun t15=>zc (COK.call (jf (n:=n) hY rfl (hRm.le (by omega)) P₁.sp hL.ho.2.2.1 (by decide) fun σ₈ r3 t16 u₈ hs₈ hr3=>?_))))))))))
      have P₂:=P₁.spot u₈ hs₈
      have jr2:=u₈.get jr1 raS
      refine zk fun zz=>?_
      obtain ⟨q,tq,hq,hget⟩:=P6_get (t1:=1187) (t2:=1188) (t3:=1189) (t4:=1190) (t5:=t14) hr3
      refine zz ?_;clear zz
      refine kh (u₈.get Map.set_self hDS) (by omega) (by omega) hget (zx ?_)
      clear P₁ jr1 hget u₈ hs₈ hD1 hD2 hD3 hsl
      refine zk fun zz=>?_
      obtain ⟨v₇,g₇,h₇,hn₇,tl₇,hg₇,hx₇,f1₇,f2₇,k1₇,k2₇,fR⟩:=P₂
      obtain ⟨⟨bl,n0,t0,k0,t0',wk,ex⟩,elx,nZ⟩:=h₇.hw.arrs _ g₇ x hg₇ hx₇
      obtain ⟨_,_,_,_,_,_,_,_,_,_,_,_,_,eR⟩:=id h₇.hw.run
      refine zz ?_;clear zz
      have hitl:(v₇.it (cc pk "ISA")).length≤10000:=by
       have h1:=(h₇.hw.itemsAt hg₇ hx₇).length
       rw [List.length_map] at h1
       have h2:=h₇.hw.parL pk
       omega
      have nLH:v₇.ld (cc pk "ISA")≠a.H:=fun z=>by
       refine zk fun zz=>?_
       obtain ⟨lm,tl,eH⟩:=id h₇.hw.heap
       refine zz ?_;clear zz
       rw [z,eH] at elx;cases elx
      refine ze (jt (zI (zB (zb (by exact j4) (zw ex (by kernel_rfl) rfl rfl (jg elx slot_list_append (by kernel_rfl) (zt (za (zI (zB (zb (by exact j3) (zw eR (by kernel_rfl) rfl rfl (zQ (f:=622) h₇.hw.ctr (by kernel_rfl) rfl (zf (by kernel_rfl) (za (zb rfl (zc (COK.call
       (spec_fresh (n:=n) hY rfl (hRm.le (by omega)) h₇.hw.ctr h₇.hw.heap fun σ₉ y u₉ hH hy hs=>zc (jS (u₉.get elx nLH) (by rw [sizeLine_eq,List.length_map];omega) ?_))))))))))))))))))))
      have eapp:(v₇.it (cc pk "ISA")).map Value.ref ++ [Value.ref y]=(v₇.it (cc pk "ISA") ++ [y]).map Value.ref:=by simp
      rw [eapp]
      refine zk fun zz=>?_
      obtain ⟨W9,s9⟩:=h₇.hw.push hpk hg₇ hx₇ hy u₉ hH hs hq
      have h₉:=h₇.step W9 s9 (Nat.le_succ _)
      obtain ⟨f1₉,k1₉⟩:=f1₇.step k1₇ s9
      obtain ⟨f2₉,k2₉⟩:=f2₇.step k2₇ s9
      obtain ⟨fR9,jr9⟩:=(fR ra rfl).step jr2 s9
      refine zz ?_;clear zz
      generalize σ₉.set (v₇.ld (cc pk "ISA")) _=σA at h₉ k1₉ k2₉ jr9 fR9 ⊢
      revert σA
      refine idP ?_
      intro σA h₉ k1₉ k2₉ jr9
      refine zk fun zz=>?_
      obtain ⟨kb,b1,b2,b3,b4,b5,b6⟩:=id h₉.hb.bk
      obtain ⟨ki,eI,hi0,hki⟩:=id h₉.hb.isl
      refine zz ?_;clear zz
      refine ze (jF (zG (zI (zR (jw (by rfl) k1₉ (zo fun t17=>jk b1 b2 (P_getMethD eI (zt (za (jw (by rfl) k2₉ (za (z9 (zc (zF fun Ea hEa=>zc (P_get2 (Map.set_new hEa eI) ?_)))))))))))))))
      have hlst:∃ lst ys,(valueAt ki pk).getD (.ref Ea) = .ref lst∧(σA.set Ea (.seq false [])) lst=some (.seq false ys)∧StrsAre ys (v₇.par pk):=by
       have:=hki pk
       cases q:valueAt ki pk with
       | none=>rw [q] at this;exact ⟨Ea,[],rfl,Map.set_self,by rw [this];exact .nil⟩
       | some x=>
        rw [q] at this
        refine zk fun zz=>?_
        obtain ⟨l,ys,e1,e2,e3,e4⟩:=this
        refine zz ?_;clear zz
        exact ⟨l,ys,e1,Map.set_new hEa e2,e3⟩
      refine zk fun zz=>?_
      obtain ⟨lst,ys,ev,el,hys⟩:=hlst
      refine zz ?_;clear zz
      rw [ev]
      have hypl:ys.length≤1000:=by
       rw [hys.length]
       have:=h₇.hw.parL pk
       omega
      refine z9 (za (zb rfl (zc (zF (fun D4 hD4=>P_addLists (Map.set_new hD4 el) Map.set_self (by rw [sizeLine_eq];show _+1≤_;omega) fun D5 hD5=>?_) (lek rfl)))))
      have uA:Ext σA (((σA.set Ea (.seq false [])).set D4 (.seq false [.str q tq])).set D5 (.seq false (ys ++ [.str q tq]))):=((Upd.refl.set_new hEa).set_new hD4).set_new hD5
      have hA:=h₉.ext uA
      have f5:=(h₉.ext (((Upd.refl (F:=fun _=>False)).set_new (ao:=.seq false []) hEa).set_new (ao:=.seq false [.str q tq]) hD4)).free hD5
      have hB:=hA.isaPut (p:=pk) (qs:=v₇.par pk ++ [q]) (uA.get eI) hi0 (isl_ext uA hki) Map.set_self (strs_snoc hys) f5
      refine zR (jw (by rfl) (uA.get k1₉) (zo fun t18=>jk (uA.get b1) b2 (jw (by rfl) (uA.get k2₉) (P_setD (uA.get eI) (by rw [sizeLine_eq];omega) ?_))))
      have raI:ra≠IS:=fR9.ne.2.1
      exact zy ⟨by exact j1,by exact j2,by exact j3,by exact j4,Map.set_other (uA.get jr9) raI,by omega,pushSv v₇ pk q y,g₇,hB.le (by omega),hn₇,tl₇,hg₇,hx₇,f1₉,f2₉,Map.set_other (uA.get k1₉) f1.ne.2.1,Map.set_other (uA.get k2₉) f2.ne.2.1,fun z hz=>by rw [hz];exact fR9⟩
     ·rintro m₆ σ₇ ⟨j1,j2,j3,j4,jr,ji,v₇,g₇,h₇,hn₇,tl₇,hg₇,hx₇,f1₇,f2₇,k1₇,k2₇,_⟩
      exact zy (zy (zy ⟨v₇,SB,h₇.le (by omega),hn₇,tl₇,k1₇,k2₇⟩))
 ·rintro m₉ σ₉ ⟨v₉,SB',h₉,hn₉,tl₉,k1,k2⟩
  refine zk fun zz=>?_
  obtain ⟨kb,b1,b2,b3,b4,b5,b6⟩:=id h₉.hb.bk
  obtain ⟨_,yn,eN,hN⟩:=id h₉.hb.named
  refine zz ?_;clear zz
  refine ze (jt (zI (zR (jw (by rfl) k1 (zo fun t19=>jk b1 b5 (jg eN slot_list_append (by kernel_rfl) (zt (za (jw (by rfl) k2 (zc (jS eN (by have:=hN.length;have:=h₉.hb.nmN;rw [sizeLine_eq];omega) ?_)))))))))))
  have hb:=h₉.hb.name (p:=pk) (t:=tk) eN hN hpk
  have hA:=h₉.book (Upd.refl.set_in rfl) (Nat.le_succ _) hb h₉.hb.out.2.2 (fun ys e=>by rw [eN] at e;cases e) h₉.ho.2.2.2
  exact zy (hQ _ v₉ SB' (names ++ [pk]) (hA.at rfl rfl hn₉) tl₉)
end
section
variable {c:Cx}{X:Str→Map→Prop}{m:Loc}{σ τ:Map}
theorem spec_Limits {A:Around}{n:Nat}(hY:Fly.Leaves prog w G (zg G 336)) (hA:A.frames=some c.fr) (hR:Rm A (n+1)) {x:Addr}{Q:Value→Loc→Map→Prop}(hx:σ x=some (.inst 696 []))
 (hQ:∀ σ',Upd (fun a=>a=x) σ σ'→Q .none m σ'):COK prog w G (zg G 336) c A (.ref 693) ⟨[.ref x],[]⟩ m σ Q X:=by
 refine C_fnR hY hA hR (by k_is) (by k_is) (by exact fun s X=>binds_K X rfl (by k_is) rfl rfl rfl) (by exact locs rfl) (by rfl) (by rfl) (by rfl) (by decide) ?_
 intro d hR'
 refine ze (zi (zb rfl (zb rfl (zn hx (by kernel_rfl) (lek (by kernel_rfl)) ?_))))
 refine ze (zi (zb rfl (zb rfl (zn Map.set_self (by kernel_rfl) (lek (by kernel_rfl)) ?_))))
 refine ze (zi (zb rfl (zb rfl (zn Map.set_self (by kernel_rfl) (lek (by kernel_rfl)) ?_))))
 refine ze (zi (zb rfl (zb rfl (zn Map.set_self (by kernel_rfl) (lek (by kernel_rfl)) ?_))))
 refine ze (zi (zb rfl (zb rfl (zn Map.set_self (by kernel_rfl) (lek (by kernel_rfl)) ?_))))
 refine zy (hQ _ ?_)
 walk_at "upd"
theorem spec_Heap {A:Around}{n:Nat}(hY:Fly.Leaves prog w G (zg G 336)) (hA:A.frames=some c.fr) (hR:Rm A (n+1)) {x:Addr}{lim:Value}{Q:Value→Loc→Map→Prop}(hx:σ x=some (.inst 246 []))
 (hQ:∀ σ' Z t,Upd (fun a=>a=x) σ σ'→σ Z=none→σ' x=some (.inst 246 (heapF lim (.int 0 t) Z))→σ' Z=some (.seq false [])→Q .none m σ'):COK prog w G (zg G 336) c A (.ref 201) ⟨[.ref x,lim],[]⟩ m σ Q X:=by
 walk_at "fn"
 intro d hR'
 refine ze (zi (zb rfl (zb rfl (zn hx (by kernel_rfl) (lek (by kernel_rfl)) ?_))))
 refine ze (zi (zD fun t=>zb rfl (zn Map.set_self (by kernel_rfl) (lek (by kernel_rfl)) ?_)))
 refine ze (zi (z9 (zc (zF fun Z h0=>zb rfl (zn (Map.set_new h0 Map.set_self) (by kernel_rfl) (lek (by kernel_rfl)) ?_)))))
 have hne:Z≠x:=fun z=>by rw [z,Map.set_self] at h0;cases h0
 refine zy (hQ _ Z t ?_ ?_ (ju (by kernel_rfl)) (Map.set_other Map.set_self hne))
 ·exact ((((Upd.refl (F:=fun a=>a=x)).set_in rfl).set_in rfl).set_new h0).set_in rfl
 ·rwa [Map.set_ne hne,Map.set_ne hne] at h0
theorem spec_Counter {A:Around}{n:Nat}(hY:Fly.Leaves prog w G (zg G 336)) (hA:A.frames=some c.fr) (hR:Rm A (n+1)) {x H:Addr}{Q:Value→Loc→Map→Prop}(hx:σ x=some (.inst 653 []))
 (hQ:∀ σ' PL,Upd (fun a=>a=x) σ σ'→σ PL=none→σ' x=some (.inst 653 (counterF H PL))→σ' PL=some (.raw (edP PL))→Q .none m σ'):COK prog w G (zg G 336) c A (.ref 575) ⟨[.ref x,.ref H,.none],[]⟩ m σ Q X:=by
 walk_at "fn"
 intro d hR'
 refine ze (zi (zb rfl (zb rfl (zn hx (by kernel_rfl) (lek (by kernel_rfl)) ?_))))
 refine ze (zi (zb rfl (zb rfl (zn Map.set_self (by kernel_rfl) (lek (by kernel_rfl)) ?_))))
 refine ze (zi (js fun PL h0=>zb rfl (zn (Map.set_new h0 Map.set_self) (by kernel_rfl) (lek (by kernel_rfl)) ?_)))
 have hne:PL≠x:=fun z=>by rw [z,Map.set_self] at h0;cases h0
 refine zy (hQ _ PL ?_ ?_ (ju (by kernel_rfl)) (Map.set_other Map.set_self hne))
 ·exact ((((Upd.refl (F:=fun a=>a=x)).set_in rfl).set_in rfl).set_new h0).set_in rfl
 ·rwa [Map.set_ne hne,Map.set_ne hne] at h0
theorem spec_Stash {A:Around}{n:Nat}(hY:Fly.Leaves prog w G (zg G 336)) (hA:A.frames=some c.fr) (hR:Rm A (n+1)) {x H:Addr}{Q:Value→Loc→Map→Prop}(hx:σ x=some (.inst 397 []))
 (hQ:∀ σ' D t,Upd (fun a=>a=x) σ σ'→σ D=none→σ' x=some (.inst 397 (stashF H D (.int 0 t)))→σ' D=some (.raw (sdP prog w D []))→Q .none m σ'):COK prog w G (zg G 336) c A (.ref 352) ⟨[.ref x,.ref H],[]⟩ m σ Q X:=by
 walk_at "fn"
 intro d hR'
 refine ze (zi (zb rfl (zb rfl (zn hx (by kernel_rfl) (lek (by kernel_rfl)) ?_))))
 refine ze (zi (P_emptyDictS fun D h0=>zb rfl (zn (Map.set_new h0 Map.set_self) (by kernel_rfl) (lek (by kernel_rfl)) ?_)))
 have hne:D≠x:=fun z=>by rw [z,Map.set_self] at h0;cases h0
 refine ze (zi (zD fun t=>zb rfl (zn Map.set_self (by kernel_rfl) (lek (by kernel_rfl)) ?_)))
 refine zy (hQ _ D t ?_ ?_ (ju (by kernel_rfl)) (Map.set_other (Map.set_other Map.set_self hne) hne))
 ·exact ((((Upd.refl (F:=fun a=>a=x)).set_in rfl).set_new h0).set_in rfl).set_in rfl
 ·rwa [Map.set_ne hne] at h0
theorem spec_Cache {A:Around}{n:Nat}(hY:Fly.Leaves prog w G (zg G 336)) (hA:A.frames=some c.fr) (hR:Rm A (n+1)) {x:Addr}{Q:Value→Loc→Map→Prop}(hx:σ x=some (.inst 466 []))
 (hQ:∀ σ' TB t,Upd (fun a=>a=x) σ σ'→σ TB=none→σ' x=some (.inst 466 (cacheF (.int (-1) t) TB))→σ' TB=some (.raw (hdP (j9 prog w) TB []))→Q .none m σ'):COK prog w G (zg G 336) c A (.ref 456) ⟨[.ref x],[]⟩ m σ Q X:=by
 walk_at "fn"
 intro d hR'
 refine ze (zi (P_unop (zD fun t0=>P_neg fun t=>zb rfl (zn hx (by kernel_rfl) (lek (by kernel_rfl)) ?_))))
 refine ze (zi (P_emptyDictT (R:=ke prog w) fun TB h0 _=>zb rfl (zn (Map.set_new h0 Map.set_self) (by kernel_rfl) (lek (by kernel_rfl)) ?_)))
 have hne:TB≠x:=fun z=>by rw [z,Map.set_self] at h0;cases h0
 refine zy (hQ _ TB t ?_ ?_ (ju (by kernel_rfl)) (Map.set_other Map.set_self hne))
 ·exact (((Upd.refl (F:=fun a=>a=x)).set_in rfl).set_new h0).set_in rfl
 ·rwa [Map.set_ne hne] at h0
theorem spec_Run {A:Around}{n:Nat}(hY:Fly.Leaves prog w G (zg G 336)) (hA:A.frames=some c.fr) (hR:Rm A (n+1)) {x:Addr}{H CT S lm:Value}{Q:Value→Loc→Map→Prop}(hx:σ x=some (.inst 674 []))
 (hQ:∀ σ',Upd (fun a=>a=x) σ σ'→RunAt σ' x H CT S .none→Q .none m σ'):COK prog w G (zg G 336) c A (.ref 671) ⟨[.ref x,H,CT,S,lm],[]⟩ m σ Q X:=by
 walk_at "fn"
 intro d hR'
 refine ze (zi (zb rfl (zb rfl (zn hx (by kernel_rfl) (lek (by kernel_rfl)) ?_))))
 refine ze (zi (zb rfl (zb rfl (zn Map.set_self (by kernel_rfl) (lek (by kernel_rfl)) ?_))))
 refine ze (zi (zb rfl (zb rfl (zn Map.set_self (by kernel_rfl) (lek (by kernel_rfl)) ?_))))
 refine ze (zi (zb rfl (zb rfl (zn Map.set_self (by kernel_rfl) (lek (by kernel_rfl)) ?_))))
 refine ze (zi (js fun d0 h0=>zb rfl (zn (Map.set_new h0 Map.set_self) (by kernel_rfl) (lek (by kernel_rfl)) ?_)))
 refine ze (zi (js fun d1 h1=>zb rfl (zn (Map.set_new h1 Map.set_self) (by kernel_rfl) (lek (by kernel_rfl)) ?_)))
 refine ze (zi (js fun d2 h2=>zb rfl (zn (Map.set_new h2 Map.set_self) (by kernel_rfl) (lek (by kernel_rfl)) ?_)))
 refine ze (zi (js fun d3 h3=>zb rfl (zn (Map.set_new h3 Map.set_self) (by kernel_rfl) (lek (by kernel_rfl)) ?_)))
 refine ze (zi (js fun d4 h4=>zb rfl (zn (Map.set_new h4 Map.set_self) (by kernel_rfl) (lek (by kernel_rfl)) ?_)))
 refine ze (zi (z9 (zc (zF fun d5 h5=>zb rfl (zn (Map.set_new h5 Map.set_self) (by kernel_rfl) (lek (by kernel_rfl)) ?_)))))
 refine ze (zi (z9 (zc (zF fun d6 h6=>zb rfl (zn (Map.set_new h6 Map.set_self) (by kernel_rfl) (lek (by kernel_rfl)) ?_)))))
 refine ze (zi (z9 (zc (zF fun d7 h7=>zb rfl (zn (Map.set_new h7 Map.set_self) (by kernel_rfl) (lek (by kernel_rfl)) ?_)))))
 refine ze (zi (z9 (zc (zF fun d8 h8=>zb rfl (zn (Map.set_new h8 Map.set_self) (by kernel_rfl) (lek (by kernel_rfl)) ?_)))))
 refine ze (zi (zA (zb rfl (zn Map.set_self (by kernel_rfl) (lek (by kernel_rfl)) ?_))))
 refine ze (zi (js fun d9 h9=>zb rfl (zn (Map.set_new h9 Map.set_self) (by kernel_rfl) (lek (by kernel_rfl)) ?_)))
 refine ze (zi (js fun d10 h10=>zb rfl (zn (Map.set_new h10 Map.set_self) (by kernel_rfl) (lek (by kernel_rfl)) ?_)))
 refine ze (zi (zD fun t=>zb rfl (zn Map.set_self (by kernel_rfl) (lek (by kernel_rfl)) ?_)))
 refine ze (zi (zA (zb rfl (zn Map.set_self (by kernel_rfl) (lek (by kernel_rfl)) ?_))))
 refine ze (zi (zA (zb rfl (zn Map.set_self (by kernel_rfl) (lek (by kernel_rfl)) ?_))))
 refine ze (zi (zA (zb rfl (zn Map.set_self (by kernel_rfl) (lek (by kernel_rfl)) ?_))))
 refine zy (hQ _ ?_ ⟨lm,.ref d0,.ref d1,.ref d2,.ref d3,.ref d4,.ref d5,.ref d6,.ref d7,.ref d8,.ref d9,.ref d10,.int 0 t,ju (by kernel_rfl)⟩)
 refine Upd.set_in (Upd.set_in (Upd.set_in (Upd.set_in ?_ rfl) rfl) rfl) rfl
 refine Upd.set_in (Upd.set_new (Upd.set_in (Upd.set_new (Upd.set_in ?_ rfl) h9) rfl) h10) rfl
 refine Upd.set_in (Upd.set_new (Upd.set_in (Upd.set_new (Upd.set_in (Upd.set_new (Upd.set_in (Upd.set_new ?_ h5) rfl) h6) rfl) h7) rfl) h8) rfl
 refine Upd.set_in (Upd.set_new (Upd.set_in (Upd.set_new (Upd.set_in (Upd.set_new (Upd.set_in (Upd.set_new (Upd.set_in (Upd.set_new ?_ h0) rfl) h1) rfl) h2) rfl) h3) rfl) h4) rfl
 exact Upd.set_in (Upd.set_in (Upd.set_in (Upd.set_in Upd.refl rfl) rfl) rfl) rfl
end
section
variable {c:Cx}{X:Str→Map→Prop}{m:Loc}{σ τ:Map}
noncomputable def U4:List Str:=["isa","can","DOES","VERSION"]
noncomputable def U4kv:List (Str × Value):=[("isa",.ref 533),("can",.ref 540),("DOES",.ref 533),("VERSION",.ref 547)]
theorem spec_univSubs {A:Around}{n:Nat}(hY:Fly.Leaves prog w G (zg G 336)) (hA:A.frames=some c.fr) (hR:Rm A (n+1)) {Q:Value→Loc→Map→Prop}
 (hQ:∀ σ' D,Ext σ σ'→σ D=none→σ' D=some (.raw (sdP prog w D U4kv))→Q (.ref D) m σ'):COK prog w G (zg G 336) c A (.ref 554) ⟨[],[]⟩ m σ Q X:=by
 walk_at "fn"
 intro d hR'
 refine ze (zO (P_dictDisp fun D h0=>jL (zo fun t1=>zh (by k_is) (jL (zo fun t2=>zh (by k_is) (jL (zo fun t3=>zh (by k_is) (jL (zo fun t4=>zh (by k_is) (P_pairNil
  (jD Map.set_self (by rw [sizeLine_eq];decide) (jD Map.set_self (by rw [sizeLine_eq];decide) (jD Map.set_self (by rw [sizeLine_eq];decide) (jD Map.set_self (by rw [sizeLine_eq];decide) (P_storeNil (hQ _ D ?_ h0 Map.set_self))))))))))))))))
 refine jj (ao:=.raw (sdP prog w D [])) h0 ?_
 exact ((((Upd.refl (F:=fun b=>b=D)).set_in rfl).set_in rfl).set_in rfl).set_in rfl
theorem P_itemDE {d:Addr}{kvs:List (Str × Value)}{ep:Nat}{k:Str}{t:Tok}{value slice:PySem.Expr}{v:Value}{Q:Value→Loc→Map→Prop}(hx:σ d=some (.raw (sdE prog w d kvs ep))) (hv:valueAt kvs k=some v) (h:Q v m σ)
 (hs:subscripted slice false (.ref d) (.str k t)=operate [.ref d,.str k t] (getItem (.ref d) (.str k t)):=by kernel_rfl):POK prog w G (zg G 336) c (subscriptTail value slice (.ref d) (.str k t)) m σ Q X:=.of fun τ s hd hs'=>by
 refine St.on hs' fun hp tk news own hs' l=>?_
 refine zk fun zz=>?_
 obtain ⟨o,h1,h2,h3⟩:=l.rawAt (Map.or_some hx)
 refine zz ?_;clear zz
 have h3':=sdE.close h3
 exact kdt_tail l.N h1 h3'.2 (kdt_getItem l.N h1 h3'.2 (strKind_is' k t) hv ⟨m,σ,hd,hs'.toks _,h⟩) hs
noncomputable def sv0 (TB:Addr):Sv:={ TB:=TB,gen:=0,last:=0,gl:=fun _=>none,par:=fun _=>[],sb:=fun _ _=>none,tl:=fun _=>none,ld:=fun _=>0,it:=fun _=>[] }
theorem W.init {a:Ad}{TB:Addr}(hr:RunAt σ a.R (.ref a.H) (.ref a.CT) (.ref a.S) (.ref a.MC)) {tS:Tok}(hS:σ a.S=some (.inst 397 (stashF a.H a.D (.int 0 tS)))) (hD:σ a.D=some (.raw (sdP prog w a.D []))) (hC:σ a.CT=some (.inst 653 (counterF a.H a.PL))) (hP:σ a.PL=some (.raw (edP a.PL)))
 (hH:HeapAt σ a.H a.Z 0) (hZ:σ a.Z=some (.seq false [])) {tM:Tok} (hM:σ a.MC=some (.inst 466 (cacheF (.int (-1) tM) TB))) (hT:σ TB=some (.raw (hdP (j9 prog w) TB []))) (ne:TB≠a.D∧TB≠a.PL∧a.D≠a.PL):W prog w σ a (sv0 TB) 0 where
 run:=hr
 stash:=⟨⟨tS,hS⟩,⟨[],hD,Nat.le_refl _,fun _=>rfl⟩,fun _ _ h=>by cases h⟩
 ctr:=hC
 pl:=hP
 heap:=hH
 zero:=⟨[],hZ,Nat.le_refl _⟩
 cache:=⟨-1,tM,[],hM,⟨hT,fun _ h=>nomatch h⟩,Nat.le_refl _,(by decide:(-1:Int)≤0),fun e=>by cases e⟩
 par:=fun _=>rfl
 parU:=fun _ _ h=>nomatch h
 parL:=fun _=>Nat.le_refl _
 nm:=fun _ _ h=>by cases h
 inj:=fun _ _ _ _ h=>by cases h
 subs:=fun _ _ _ _=>rfl
 codes:=fun _ _ _ h=>by cases h
 arrs:=fun _ _ _ h=>by cases h
 itS:=fun _ _ _ _ h=>by cases h
 arD:=fun _ _ _ _ _ _ h=>by cases h
 scs:=fun _ _ _ h=>by cases h
 scD:=fun _ _ _ _ _ h=>by cases h
 scI:=fun _ _ _ _ h=>by cases h
 told:=fun _ _ h=>by cases h
 neT:=ne
structure Inst (prog':Program) (w':World) (σ:Map) (a:Ad) (v:Sv) (cnt i:Nat):Prop where
 hw:W prog w σ a v cnt
 par:∀ p,v.par p=[]
 tl:∀ p,v.tl p=none
 sb:∀ p k,(v.sb p k).isSome=true↔p = "UNIVERSAL"∧k∈U4.take i
 to:∀ j g,v.gl j=some g→∃ k∈N10,j=cc "UNIVERSAL" k
 back:0 < i→∃ k∈N10,(v.gl (cc "UNIVERSAL" k)).isSome=true
theorem U4_N10 {k:Str}(h:k∈U4):k∈N10:=(by decide:∀ x∈U4,x∈N10) k h
end
namespace spec_install
noncomputable def S₀ (c:Cx) (m:Loc) (σ:Map) (X:Str→Map→Prop) (A:Around) (n:Nat) (a:Ad) (v:Sv) (Q:Value→Loc→Map→Prop):Prop:=∀ (hY:Fly.Leaves prog w G (zg G 336)) (hA:A.frames=some c.fr) (hR:Rm A (n+7)) (h:Inst prog w σ a v 0 0) (hQ:∀ σ' v',Inst prog w σ' a v' 8 4→Step a v σ v' σ'→Q .none m σ'),COK prog w G (zg G 336) c A (.ref 561) ⟨[.ref a.R],[]⟩ m σ Q X
noncomputable def e₀:Cx × Loc × Map × (Str→Map→Prop) × Around × Nat × Ad × Sv × (Value→Loc→Map→Prop):=@Classical.epsilon _ ⟨(dCx,default,default,default,callerA,default,⟨0,0,0,0,0,0,0,0⟩,dSv,default)⟩ fun x=>¬ S₀ x.1 x.2.1 x.2.2.1 x.2.2.2.1 x.2.2.2.2.1 x.2.2.2.2.2.1 x.2.2.2.2.2.2.1 x.2.2.2.2.2.2.2.1 x.2.2.2.2.2.2.2.2
@[irreducible] noncomputable def c:Cx:=e₀.1
@[irreducible] noncomputable def m:Loc:=e₀.2.1
@[irreducible] noncomputable def σ:Map:=e₀.2.2.1
@[irreducible] noncomputable def X:Str→Map→Prop:=e₀.2.2.2.1
@[irreducible] noncomputable def A:Around:=e₀.2.2.2.2.1
@[irreducible] noncomputable def n:Nat:=e₀.2.2.2.2.2.1
@[irreducible] noncomputable def a:Ad:=e₀.2.2.2.2.2.2.1
@[irreducible] noncomputable def v:Sv:=e₀.2.2.2.2.2.2.2.1
@[irreducible] noncomputable def Q:Value→Loc→Map→Prop:=e₀.2.2.2.2.2.2.2.2
theorem here:S₀ c m σ X A n a v Q:=by
 intro hY hA hR h hQ
 show COK prog w G (zg G 336) c A (.ref 561) ⟨[.ref a.R],[]⟩ m σ Q X
 walk_at "fn"
 refine eps (n:=⟨dDyn⟩) _ ?_
 intro hR'
 refine ze (zu (zv (zh (by k_is) (jl (by kernel_rfl) (COK.call (spec_univSubs (n:=n) hY rfl (hR'.le (by omega)) fun σ₁ T u₁ hT eT=>zx ?_))))))
 refine POK.openD eT fun ep=>?_
 have u₂:Ext σ (σ₁.set T (.raw (sdE prog w T U4kv ep))):=fun b bo hb _=>by
  have hne:b≠T:=zm hb hT
  rw [Map.set_ne hne];exact u₁.get hb
 have eT₂:(σ₁.set T (.raw (sdE prog w T U4kv ep))) T=some (.raw (sdE prog w T U4kv ep)):=Map.set_self
 generalize σ₁.set T (.raw (sdE prog w T U4kv ep))=σ₂ at u₂ eT₂ ⊢
 revert σ₂
 refine idP ?_
 intro σ₂ u₂ eT₂
 have nT:¬ Foot a v T:=fun z=>by
  refine zk fun zz=>?_
  obtain ⟨ao,e,_⟩:=h.hw.dom T z
  refine zz ?_;clear zz
  rw [hT] at e;cases e
 refine ze (P_for hR'.2.2 (zb rfl ⟨U4kv.length,fun i v=>∃ k x t,U4kv[i]? = some (k,x)∧v = .str k t,fun ρ=>ρ T=some (.raw (sdE prog w T U4kv ep)),fun i m' σ'=>A4 (m' "run" = some (.ref a.R)) (m' "table" = some (.ref T)) (σ' T=some (.raw (sdE prog w T U4kv ep))) (∃ v',A3 (Inst prog w σ' a v' (2 * i) i) (Step a v σ v' σ') (¬ Foot a v' T)),Iterable.dict,?_,?_,?_,?_⟩))
 ·exact fun i m' σ' τ' ⟨_,_,h,_⟩=>Map.or_some h
 ·exact ⟨rfl,rfl,eT₂,v,{ h with hw:=h.hw.ext u₂ },Step.ext u₂,nT⟩
 ·rintro i vv m₃ σ₃ hi ⟨k,f,t,hk,rfl⟩ ⟨j1,j2,j3,v₃,I,s₃,n₃⟩
  have hi4:i < 4:=hi
  have hkU:U4[i]? = some k:=by
   match i,hi4 with
   | 0,_=>cases hk;rfl
   | 1,_=>cases hk;rfl
   | 2,_=>cases hk;rfl
   | 3,_=>cases hk;rfl
  have hk4:k∈U4:=List.mem_of_getElem? hkU
  have hval:∃ f',valueAt U4kv k=some f':=by
   have:∀ x∈U4,(valueAt U4kv x).isSome=true:=by decide
   exact Option.isSome_iff_exists.mp (this k hk4)
  refine zk fun zz=>?_
  obtain ⟨f',hf'⟩:=hval
  have hkl:k.length≤100:=(by decide:∀ p∈U4,p.length≤100) k hk4
  obtain ⟨_,_,_,_,_,_,_,_,_,_,_,_,_,eR⟩:=id I.hw.run
  obtain ⟨lim,tH,eH⟩:=id I.hw.heap
  refine zz ?_;clear zz
  refine ze (zu (zI (zB (zb (by exact j1) (zw eR (by kernel_rfl) rfl rfl (zQ (f:=236) eH (by kernel_rfl) rfl (zf (by kernel_rfl) (za (zA (za (z9 (zc (zF fun l0 hl0=>zc (COK.call
   (spec_newCode (n:=n) hY rfl (hR'.le (by omega)) (Map.set_new hl0 eH) fun σ₆ x t8 t9 t10 wk u₆ eH₆ hx ex=>zx ?_)))))))))))))))
  have hb5:=I.hw.ext (Upd.refl.set_new (ao:=.seq false []) hl0)
  have j3a:=Map.set_new (ao:=.seq false []) hl0 j3
  have hTH:T≠a.H:=fun z=>n₃ (by rw [z];exact Foot.H)
  have j3b:=u₆.get j3a hTH
  have hxT:T≠x:=zm j3a hx
  refine ze (zi (zR (zb (by exact j2) (zb rfl (P_itemDE j3b hf' (zb rfl (zn ex (by kernel_rfl) (lek (by kernel_rfl)) ?_)))))))
  have hcode:CodeAt (σ₆.set x (.inst 144 (putF "builtin" f' (codeF (.int (v₃.last+1) t8) (.int 0 t9) wk .none (.ref l0) .none t10)))) x (v₃.last+1):=⟨t8,0,t9,wk,.none,.ref l0,f',t10,ju (by kernel_rfl)⟩
  have u₇:Upd (fun b=>b=a.H) (σ₃.set l0 (.seq false [])) (σ₆.set x (.inst 144 (putF "builtin" f' (codeF (.int (v₃.last+1) t8) (.int 0 t9) wk .none (.ref l0) .none t10)))):=u₆.set_loc hx
  have eHx:(σ₆.set x (.inst 144 (putF "builtin" f' (codeF (.int (v₃.last+1) t8) (.int 0 t9) wk .none (.ref l0) .none t10)))) a.H=some (.inst 246 (heapF lim (.int (v₃.last+1) t8) a.Z)):=Map.set_other eH₆ (zm (Map.set_new hl0 eH) hx)
  have j3c:(σ₆.set x (.inst 144 (putF "builtin" f' (codeF (.int (v₃.last+1) t8) (.int 0 t9) wk .none (.ref l0) .none t10)))) T=some (.raw (sdE prog w T U4kv ep)):=Map.set_other j3b hxT
  generalize (σ₆.set x (.inst 144 (putF "builtin" f' (codeF (.int (v₃.last+1) t8) (.int 0 t9) wk .none (.ref l0) .none t10))))=σ₇ at hcode u₇ eHx j3c ⊢
  revert σ₇
  refine idP ?_
  intro σ₇ hcode u₇ eHx j3c
  have h₇:=hb5.heapUp u₇ ⟨lim,t8,eHx⟩
  refine zk fun zz=>?_
  obtain ⟨_,_,_,_,_,_,_,_,_,_,_,_,_,eR₇⟩:=id h₇.run
  refine zz ?_;clear zz
  have lU:(("UNIVERSAL" : Str) ++ ("::" : Str)).length=11:=rfl
  refine ze (jt (zv (zh (by k_is) (zf (by kernel_rfl) (za (zB (zb (by exact j1) (zw eR₇ (by kernel_rfl) rfl rfl (za (zB (zb (by exact j1) (zw eR₇ (by kernel_rfl) rfl rfl (za (zG (zG (zh (by k_is) (zo fun t11=>zH (by rw [sizeLine_eq];decide) fun t12=>zb rfl (zH (by rw [lU,sizeLine_eq];omega) fun t13=>
   za (zb rfl (zc (COK.call (spec_setCodeW (n:=n) (code:=some x) (k:=some (v₃.last+1)) hY rfl (hR'.le (by omega)) h₇ (by omega) (by decide) (U4_N10 hk4) ⟨_,rfl,hcode⟩ fun σ₈ g last' hg h8 u₈ cd=>?_))))))))))))))))))))))
  have s8:=Step.setCode (a:=a) (v:=v₃) (σ:=σ₃.set l0 (.seq false [])) (σ':=σ₈) (nm:=cc "UNIVERSAL" k) (g:=g) (code:=some x) (last':=last') (gen':=v₃.gen+1) (sb':=sbPut v₃.sb "UNIVERSAL" k (some (v₃.last+1))) (hg.imp id fun ⟨q1,q2,q3⟩=>⟨q1,none_back u₇ eHx q2,q3⟩)
   (fun y e=>by cases e;exact hx) (codeUpd (fun y e=>by cases e;exact hx) u₇ u₈)
  have j3d:=s8.get j3a n₃
  refine zy ⟨by exact j1,by exact j2,j3d,_,⟨h8.le (by omega),I.par,I.tl,fun p q=>?_,fun j g' hj=>?_,fun _=>?_⟩,(s₃.trans (Step.ext (Upd.refl.set_new (ao:=.seq false []) hl0))).trans s8,s8.out j3a n₃⟩
  ·have e1:(sbPut v₃.sb "UNIVERSAL" k (some (v₃.last+1)) p q).isSome=true↔p = "UNIVERSAL"∧q∈U4.take (i+1):=by
    rw [List.take_add_one,hkU]
    by_cases e:p = "UNIVERSAL"∧q=k
    ·obtain ⟨rfl,rfl⟩:=e
     rw [sbPut_self]
     simp
    ·rw [sbPut_ne e,I.sb p q]
     simp only [Option.toList_some,List.mem_append,List.mem_singleton]
     exact ⟨fun ⟨a,b⟩=>⟨a,.inl b⟩,fun ⟨a,b⟩=>⟨a,b.resolve_right fun z=>e ⟨a,z⟩⟩⟩
   exact e1
  ·rcases jm hj with ⟨e1,_⟩ | ⟨_,e2⟩
   ·exact ⟨k,U4_N10 hk4,e1⟩
   ·exact I.to j g' e2
  ·exact ⟨k,U4_N10 hk4,by
    show (zM v₃.gl (cc "UNIVERSAL" k) { g with co:=some x } (cc "UNIVERSAL" k)).isSome=true
    unfold zM;rw [if_pos rfl];rfl⟩
 ·rintro m₃ σ₃ ⟨j1,j2,j3,v₃,I,s₃,n₃⟩
  exact zy (zy (hQ σ₃ v₃ I s₃))
end spec_install
section
variable {c:Cx}{X:Str→Map→Prop}{m:Loc}{σ τ:Map}
theorem spec_install {A:Around}{n:Nat}(hY:Fly.Leaves prog w G (zg G 336)) (hA:A.frames=some c.fr) (hR:Rm A (n+7)) {a:Ad}{v:Sv}{Q:Value→Loc→Map→Prop}(h:Inst prog w σ a v 0 0) (hQ:∀ σ' v',Inst prog w σ' a v' 8 4→Step a v σ v' σ'→Q .none m σ'):COK prog w G (zg G 336) c A (.ref 561) ⟨[.ref a.R],[]⟩ m σ Q X:=by with_unfolding_all exact eps (fun x:Cx × Loc × Map × (Str→Map→Prop) × Around × Nat × Ad × Sv × (Value→Loc→Map→Prop)=>spec_install.S₀ x.1 x.2.1 x.2.2.1 x.2.2.2.1 x.2.2.2.2.1 x.2.2.2.2.2.1 x.2.2.2.2.2.2.1 x.2.2.2.2.2.2.2.1 x.2.2.2.2.2.2.2.2) spec_install.here (c,m,σ,X,A,n,a,v,Q) hY hA hR h hQ
end
section
variable {c:Cx}{X:Str→Map→Prop}{m:Loc}{σ τ:Map}
theorem spec_scalarHad {A:Around}{n:Nat}(hY:Fly.Leaves prog w G (zg G 336)) (hA:A.frames=some c.fr) (hR:Rm A (n+6)) {a:Ad}{v:Sv}{cnt:Nat}{nm:Str}{tn:Tok}{g:GI}{x:Addr}{Q:Value→Loc→Map→Prop}
 (h:W prog w σ a v cnt) (hc:cnt≤1000) (hg:v.gl nm=some g) (hx:g.sc=some x) (hQ:Q (.ref x) m σ):COK prog w G (zg G 336) c A (.ref 366) ⟨[.ref a.S,.str nm tn],[]⟩ m σ Q X:=by
 refine zk fun zz=>?_
 obtain ⟨tg,eS⟩:=id h.stash.hS
 obtain ⟨gn,gk,gw,gm,eG⟩:=h.stash.hG nm g hg
 refine zz ?_;clear zz
 rw [hx] at eG
 walk_at "fn"
 intro d hR'
 refine ze (zu (zI (zb rfl (zQ eS (by kernel_rfl) rfl (zf (by kernel_rfl) (za (zb rfl (zc (COK.call (spec_globOf (n:=n) hY rfl hR' h.stash h.heap hc (fun g' hg'=>zx ?_) fun hn=>?_))))))))))
 ·have:g'=g:=by rw [hg] at hg';exact (Option.some.inj hg').symm
  subst this
  refine ze (zJ (zj (zB (zb rfl (zw eG (by kernel_rfl) rfl rfl (zA (zN rfl (zd ⟨fun z=>(by first | exact nb z | exact nt z | cases z),fun _=>zy ?_⟩))))))))
  exact ze (zO (zB (zb rfl (zw eG (by kernel_rfl) rfl rfl hQ))))
 ·rw [hg] at hn;cases hn
theorem pick60 (l:List Value):kms_pick l none (some 60)=l.take 60:=by
 unfold kms_pick kms_lo kms_hi
 simp
theorem ints_take {ys:List Value}{ns:List Int}(k:Nat) (h:IntsAre ys ns):IntsAre (ys.take k) (ns.take k):=by
 induction h generalizing k with
 | nil=>rw [List.take_nil,List.take_nil];exact .nil
 | cons n t h ih=>
  cases k with
  | zero=>exact .nil
  | succ k=>exact .cons n t (ih k)
end
section
variable {c:Cx}{X:Str→Map→Prop}{m:Loc}{σ τ:Map}
theorem disj_drop' {σ τ:Map}{b:Addr}{ao:AO}(h:Disj σ (τ.set b ao)) (tb:τ b=none):σ b=none∧Disj σ τ:=by
 have sb:σ b=none:=(h b).resolve_right (by rw [Map.set_self];exact fun z=>nomatch z)
 refine ⟨sb,fun x=>?_⟩
 by_cases z:x=b
 ·exact .inl (z ▸ sb)
 ·rcases h x with q | q
  ·exact .inl q
  ·exact .inr ((Map.set_ne z).symm.trans q)
theorem POK.aside {α:Type}{t:Sem α}{b:Addr}{ao:AO}{Q:α→Loc→Map→Prop}(hb:σ b=none) (h:POK prog w G (zg G 336) c t m σ Q (fun _ _=>False)) :
 POK prog w G (zg G 336) c t m (σ.set b ao) (fun v m' σ'=>∃ σ₀,σ'=σ₀.set b ao∧σ₀ b=none∧Q v m' σ₀) X:=.of fun τ s hd hs=>by
 have tb:τ b=none:=hd.none_of Map.set_self
 have e:(σ.set b ao).or τ=σ.or (τ.set b ao):=by
  funext x
  unfold Map.or Map.set
  by_cases z:x=b
  ·subst z;simp [hb]
  ·simp [z]
 have hd':Disj σ (τ.set b ao):=fun x=>by
  by_cases z:x=b
  ·exact .inl (z ▸ hb)
  ·rcases hd x with q | q
   ·exact .inl ((Map.set_ne z).symm.trans q)
   ·exact .inr ((Map.set_ne z).trans q)
 refine wpAny_mono (h.go (τ.set b ao) s hd' (by rw [← e];exact hs)) (fun v s' ⟨m',σ',a,hst,q⟩=>?_) fun e s' ⟨_,_,_,_,z⟩=>z.elim
 obtain ⟨sb,hd₂⟩:=disj_drop' a tb
 refine ⟨m',σ'.set b ao,hd₂.set tb,?_,σ',rfl,sb,q⟩
 have e2:(σ'.set b ao).or τ=σ'.or (τ.set b ao):=by
  funext x
  unfold Map.or Map.set
  by_cases z:x=b
  ·subst z;simp [sb]
  ·simp [z]
 rw [e2];exact hst
theorem NmOk.more {gl:Str→Option GI}{names:List Str}{p k:Str}(h:NmOk gl names) (hk:k∈N10) (hs:(gl (cc p k)).isSome=true):NmOk gl (names ++ [p]) where
 to:=fun j g hj=>(h.to j g hj).imp fun _ k=>⟨List.mem_append_left _ k.1,k.2⟩
 back:=fun q hq=>by
  rcases List.mem_append.mp hq with hq | hq
  ·exact h.back q hq
  ·rw [List.mem_singleton.mp hq];exact ⟨k,hk,hs⟩
theorem dueOf_told {par:Str→List Str}{sb:Str→Str→Option Int}{names:List Str}{pk:Option Str}{nm ab f x:Str}(h:(jU par sb names pk nm ab).2=some (f,x)):∃ k,sb f "AUTOLOAD" = some k:=by
 have din:∀ {q last:Str} {l:List Str},(dueIn sb names q last l).2=some (f,x)→∃ k,sb f "AUTOLOAD" = some k:=fun {q last l} h=>by
  unfold dueIn at h
  cases e1:jv sb last l with
  | some g=>rw [e1] at h;cases h
  | none=>
   rw [e1] at h
   cases e2:jv sb "AUTOLOAD" l with
   | none=>rw [e2] at h;cases h
   | some g=>
    rw [e2] at h
    by_cases e3:last = "DESTROY"∨last = "\x69mport"
    ·simp only [if_pos e3] at h;cases h
    ·simp only [if_neg e3] at h
     first | exact nb h | exact nt h | cases h
     exact lfirst_some e2
 cases pk with
 | none=>cases h
 | some p=>
  unfold jU at h
  by_cases e:p = ""
  ·simp only [if_pos e] at h;cases h
  ·simp only [if_neg e] at h
   cases q:jn par (jA p nm ab).1 with
   | none=>rw [q] at h;cases h
   | some l=>rw [q] at h;exact din h
theorem LawAt.dueNames {a:Ad}{v:Sv}{cnt:Nat}{BK IS SB TL NM SC SP:Addr}{tl:Str→Option Str}{names:List Str}(h:LawAt prog w σ a v cnt BK IS SB TL NM SC SP tl names) (pk:Option Str) (nm ab:Str):NmOk v.gl (nmD names (jU v.par v.sb names pk nm ab).2):=by
 cases q:(jU v.par v.sb names pk nm ab).2 with
 | none=>exact h.hn
 | some r=>
  refine zk fun zz=>?_
  obtain ⟨f,x⟩:=r
  obtain ⟨k,hk⟩:=dueOf_told q
  have hf:=h.hb.sbU f _ k hk
  have hs:=h.hw.subs f (P5_P6 hf) "AUTOLOAD" (by decide)
  rw [hk] at hs
  obtain ⟨x',hx,_⟩:=hs
  obtain ⟨g,hg,_⟩:=Option.bind_eq_some_iff.mp hx
  refine zz ?_;clear zz
  exact h.hn.more (k:="AUTOLOAD") (by decide) (by rw [hg];rfl)
end
section
variable {c:Cx}{X:Str→Map→Prop}{m:Loc}{σ τ:Map}
noncomputable def pkN:Option Str→Bool
 | none=>true
 | some p=>("" : Str) == p
noncomputable def eqPk (pk:Option Str) (y:Value):Bool:=match pk,y with
 | none,.none=>true
 | some p,.str x _=>x == p
 | _,_=>false
theorem eqPk_at {A:Around}{s:Shared}{pk:Option Str}{tp t:Tok}:∀ y∈[Value.str "" t,.none],SeqAt.EqAt A s y (optS pk tp) (eqPk pk y):=fun y hy=>by
 cases pk with
 | none=>
  rcases List.mem_cons.mp hy with rfl | hy
  ·exact SeqAt.EqAt.str_none _ _
  ·rw [List.mem_singleton.mp hy]
   exact SeqAt.EqAt.same _
 | some p=>
  rcases List.mem_cons.mp hy with rfl | hy
  ·exact SeqAt.EqAt.str_str _ _ _ _
  ·rw [List.mem_singleton.mp hy]
   exact SeqAt.EqAt.none_str _ _
theorem eqPk_any {pk:Option Str}{t:Tok}:[Value.str "" t,.none].any (eqPk pk)=pkN pk:=by
 cases pk with
 | none=>rfl
 | some p=>show (("" : Str) == p || (false || false))=_;rw [Bool.or_false,Bool.or_false];rfl
theorem P_notInPk {tt:Addr}{pk:Option Str}{tp t:Tok}{Q:Value→Loc→Map→Prop}(hx:σ tt=some (.seq true [.str "" t,.none])) (h:Q (.bool (!pkN pk)) m σ):POK prog w G (zg G 336) c (compareOp .NotIn (optS pk tp) (.ref tt)) m σ Q X:=
 P_notInAny hx (fun s=>eqPk_at) (by rw [eqPk_any];exact h)
theorem P_inPk {tt:Addr}{pk:Option Str}{tp t:Tok}{Q:Value→Loc→Map→Prop}(hx:σ tt=some (.seq true [.str "" t,.none])) (h:Q (.bool (pkN pk)) m σ):POK prog w G (zg G 336) c (compareOp .In (optS pk tp) (.ref tt)) m σ Q X:=
 P_inAny hx (fun s=>eqPk_at) (by rw [eqPk_any];exact h)
theorem pkN_inv {inv:Inv}:pkN (jH inv)=true↔zT inv = "":=by
 cases inv with
 | txt x=>show ((("" : Str) == x)=true)↔x = "";rw [beq_iff_eq];exact eq_comm
 | nil=>exact ⟨fun _=>rfl,fun _=>rfl⟩
 | obj p=>show ((("" : Str) == p)=true)↔p = "";rw [beq_iff_eq];exact eq_comm
theorem Pk_get:∀ {r:Nat}{t1 t2 t3 t4 t5 t6 t7:Tok},(r:Int) < 8→∃ pk t,(∀ p:Str,pk=some p→p≠""→p∈P6)∧[Value.str "A" t1,.str "B" t2,.str "C::D" t3,.str "E" t4,.str "UNIVERSAL" t5,.str "F" t6,.str "" t7,.none][(r:Int).toNat]? = some (optS pk t):=fun {r t1 t2 t3 t4 t5 t6 t7} h=>by
 have:r < 8:=by omega
 have six:∀ {x p:Str},x∈P6→some x=some p→p≠""→p∈P6:=fun hx e _=>by rw [← Option.some.inj e];exact hx
 match r,this with
 | 0,_=>exact ⟨some ("A" : Str),t1,fun p=>six (x:="A") (by decide),rfl⟩
 | 1,_=>exact ⟨some ("B" : Str),t2,fun p=>six (x:="B") (by decide),rfl⟩
 | 2,_=>exact ⟨some ("C::D" : Str),t3,fun p=>six (x:="C::D") (by decide),rfl⟩
 | 3,_=>exact ⟨some ("E" : Str),t4,fun p=>six (x:="E") (by decide),rfl⟩
 | 4,_=>exact ⟨some ("UNIVERSAL" : Str),t5,fun p=>six (x:="UNIVERSAL") (by decide),rfl⟩
 | 5,_=>exact ⟨some ("F" : Str),t6,fun p=>six (x:="F") (by decide),rfl⟩
 | 6,_=>exact ⟨some ("" : Str),t7,fun p e hne=>absurd (Option.some.inj e).symm hne,rfl⟩
 | 7,_=>exact ⟨none,t1,fun p e=>(by first | exact nb e | exact nt e | cases e),rfl⟩
theorem Q7_get:∀ {r:Nat}{t1 t2 t3 t4 t5 t6 t7:Tok},(r:Int) < 7→∃ nm t,nm∈Q7∧[Value.str "m" t1,.str "n" t2,.str "B::m" t3,.str "C::D::n" t4,.str "can" t5,.str "DESTROY" t6,.str "\x69mport" t7][(r:Int).toNat]? = some (.str nm t):=fun {r t1 t2 t3 t4 t5 t6 t7} h=>by
 have:r < 7:=by omega
 match r,this with
 | 0,_=>exact ⟨_,_,by decide,rfl⟩
 | 1,_=>exact ⟨_,_,by decide,rfl⟩
 | 2,_=>exact ⟨_,_,by decide,rfl⟩
 | 3,_=>exact ⟨_,_,by decide,rfl⟩
 | 4,_=>exact ⟨_,_,by decide,rfl⟩
 | 5,_=>exact ⟨_,_,by decide,rfl⟩
 | 6,_=>exact ⟨_,_,by decide,rfl⟩
theorem Ab_get:∀ {r:Nat}{t1 t2 t3 t4:Tok},(r:Int) < 4→∃ (ab:Str) (t:Tok),(ab = ""∨ab = "A"∨ab = "C::D")∧[Value.str "" t1,.str "" t2,.str "A" t3,.str "C::D" t4][(r:Int).toNat]? = some (.str ab t):=fun {r t1 t2 t3 t4} h=>by
 have:r < 4:=by omega
 match r,this with
 | 0,_=>exact ⟨_,_,.inl rfl,rfl⟩
 | 1,_=>exact ⟨_,_,.inl rfl,rfl⟩
 | 2,_=>exact ⟨_,_,.inr (.inl rfl),rfl⟩
 | 3,_=>exact ⟨_,_,.inr (.inr rfl),rfl⟩
theorem notIn7:∀ nm∈Q7,(!(!(Builtin.Str.occurrences nm "::" 0 nm.length 1).isEmpty))=decide ((zW nm).1 = ""):=by decide +kernel
theorem OutAt.keep {σ':Map}{v:Value}{o:Out}(h:OutAt σ v o) (k:∀ b ys,σ b=some (.seq true ys)→σ' b=some (.seq true ys)):OutAt σ' v o:=by
 cases o with
 | die x=>obtain ⟨a,t,t',e,h⟩:=h;exact ⟨a,t,t',e,k _ _ h⟩
 | code x=>obtain ⟨a,t,t',e,h⟩:=h;exact ⟨a,t,t',e,k _ _ h⟩
theorem P_neOut {v1 v2:Value}{o:Out}{Q:Value→Loc→Map→Prop}(hu:c.A.units < cLine) (h1:OutAt σ v1 o) (h2:OutAt σ v2 o) (h:Q (.bool false) m σ):POK prog w G (zg G 336) c (compareOp .NotEq v1 v2) m σ Q X:=by
 cases o with
 | die x=>
  refine zk fun zz=>?_
  obtain ⟨a,t1,t2,rfl,e1⟩:=h1
  obtain ⟨b,t3,t4,rfl,e2⟩:=h2
  refine zz ?_;clear zz
  refine P_neTupSame e1 e2 hu rfl (fun s j h1 h2=>?_) h
  match j,h1 with
  | 0,_=>have:=SeqAt.EqAt.str_str (A:=c.A.in1) (s:=s) "die" t1 "die" t3;simpa using this
  | 1,_=>have:=SeqAt.EqAt.str_str (A:=c.A.in1) (s:=s) x t2 x t4;simpa using this
  | j+2,h=>exact absurd h (by simp)
 | code k=>
  refine zk fun zz=>?_
  obtain ⟨a,t1,t2,rfl,e1⟩:=h1
  obtain ⟨b,t3,t4,rfl,e2⟩:=h2
  refine zz ?_;clear zz
  refine P_neTupSame e1 e2 hu rfl (fun s j h1 h2=>?_) h
  match j,h1 with
  | 0,_=>have:=SeqAt.EqAt.str_str (A:=c.A.in1) (s:=s) "code" t1 "code" t3;simpa using this
  | 1,_=>have:=SeqAt.EqAt.int_int (A:=c.A.in1) (s:=s) k t2 k t4;simpa using this
  | j+2,h=>exact absurd h (by simp)
theorem P_neAsk {v1 v2:Value}{o:AskV}{Q:Value→Loc→Map→Prop}(h1:AskAt v1 o) (h2:AskAt v2 o) (h:Q (.bool false) m σ):POK prog w G (zg G 336) c (compareOp .NotEq v1 v2) m σ Q X:=by
 cases o with
 | ring=>obtain ⟨t,rfl⟩:=h1;obtain ⟨u,rfl⟩:=h2;exact P_neStr (by simpa using h)
 | empty=>obtain ⟨t,rfl⟩:=h1;obtain ⟨u,rfl⟩:=h2;exact P_neStr (by simpa using h)
 | nil=>rw [show v1 = .none from h1,show v2 = .none from h2];exact P_neNone h
 | num k=>obtain ⟨t,rfl⟩:=h1;obtain ⟨u,rfl⟩:=h2;exact P_neInt (by simpa using h)
noncomputable def InvOk (σ:Map) (a:Ad) (v:Sv) (val:Value):Inv→Prop
 | .txt x=>∃ t,val = .str x t
 | .nil=>val = .none
 | .obj p=>∃ r ar l tp,val = .ref r∧σ r=some (.inst 183 (refF (.ref ar)))∧ArrAt σ ar (.str p tp) l∧¬ Foot a v r∧¬ Foot a v ar
theorem InvOk.at {a:Ad}{v:Sv}{val:Value}{inv:Inv}(h:InvOk σ a v val inv):InvAt σ val inv:=by
 cases inv with
 | txt x=>exact h
 | nil=>exact h
 | obj p=>obtain ⟨r,ar,l,tp,e,h1,h2,_⟩:=h;exact ⟨r,ar,l,tp,e,h1,h2⟩
theorem InvOk.upd {σ':Map}{F:Addr→Prop}{a:Ad}{v v':Sv}{val:Value}{inv:Inv}(h:InvOk σ a v val inv) (u:Upd F σ σ') (hF:∀ b C fs,σ b=some (.inst C fs)→¬ Foot a v b→¬ F b∧¬ Foot a v' b):InvOk σ' a v' val inv:=by
 cases inv with
 | txt x=>exact h
 | nil=>exact h
 | obj p=>
  refine zk fun zz=>?_
  obtain ⟨r,ar,l,tp,e,h1,h2,h3,h4⟩:=h
  obtain ⟨_,_,_,_,_,h5⟩:=id h2
  refine zz ?_;clear zz
  exact ⟨r,ar,l,tp,e,u.get h1 (hF _ _ _ h1 h3).1,h2.upd u (hF _ _ _ h5 h4).1,(hF _ _ _ h1 h3).2,(hF _ _ _ h5 h4).2⟩
theorem InvOk.step {σ':Map}{a:Ad}{v v':Sv}{val:Value}{inv:Inv}(h:InvOk σ a v val inv) (s:Step a v σ v' σ'):InvOk σ' a v' val inv:=h.upd s.u fun b C fs hb hn=>⟨hn,s.out hb hn⟩
theorem InvOk.ext {σ':Map}{a:Ad}{v:Sv}{val:Value}{inv:Inv}(h:InvOk σ a v val inv) (u:Ext σ σ'):InvOk σ' a v val inv:=h.step (Step.ext u)
end
section
variable {c:Cx}{X:Str→Map→Prop}{m:Loc}{σ τ:Map}
noncomputable def sbI (sb:Str→Str→Option Int) (i:Nat):Str→Str→Option Int:=fun p k=>if p = "UNIVERSAL"∧k∈U4.take i then sb p k else none
theorem sbI_step {sb:Str→Str→Option Int}{i:Nat}{k:Str}(h:U4[i]? = some k):sbPut (sbI sb i) "UNIVERSAL" k (sb "UNIVERSAL" k)=sbI sb (i+1):=by
 funext p q
 have ht:U4.take (i+1)=U4.take i ++ [k]:=by rw [List.take_add_one,h];rfl
 by_cases e:p = "UNIVERSAL"∧q=k
 ·obtain ⟨rfl,rfl⟩:=e
  rw [sbPut_self]
  unfold sbI
  rw [if_pos ⟨rfl,by rw [ht];simp⟩]
 ·rw [sbPut_ne e]
  unfold sbI
  rw [ht]
  by_cases e1:p = "UNIVERSAL"∧q∈U4.take i
  ·rw [if_pos e1,if_pos ⟨e1.1,List.mem_append_left _ e1.2⟩]
  ·rw [if_neg e1,if_neg (fun ⟨z1,z2⟩=>by
    rcases List.mem_append.mp z2 with z | z
    ·exact e1 ⟨z1,z⟩
    ·exact e ⟨z1,List.mem_singleton.mp z⟩)]
theorem sbI_0 {sb:Str→Str→Option Int}:sbI sb 0=fun _ _=>none:=by
 funext p q
 unfold sbI
 exact if_neg (fun ⟨_,z⟩=>by cases z)
theorem sbI_4 {sb:Str→Str→Option Int}(h:∀ p k,(sb p k).isSome=true↔p = "UNIVERSAL"∧k∈U4.take 4):sbI sb 4=sb:=by
 funext p q
 unfold sbI
 by_cases e:p = "UNIVERSAL"∧q∈U4.take 4
 ·rw [if_pos e]
 ·rw [if_neg e]
  cases z:sb p q with
  | none=>rfl
  | some x=>exact absurd ((h p q).mp (by rw [z];rfl)) e
theorem cc_U (k:Str):("UNIVERSAL::" : Str) ++ k=cc "UNIVERSAL" k:=by
 have e1:("UNIVERSAL" : Str) ++ ("::" : Str) = "UNIVERSAL::":=by decide
 unfold cc
 rw [e1]
noncomputable def invT:Option Str→Inv
 | none=>.nil
 | some p=>.txt p
theorem invT_at {pk:Option Str}{tp:Tok}{a:Ad}{v:Sv}:InvOk σ a v (optS pk tp) (invT pk)∧jH (invT pk)=pk∧∀ p,invT pk = .obj p→p≠"":=by
 cases pk with
 | none=>exact ⟨rfl,rfl,fun p z=>by cases z⟩
 | some q=>exact ⟨⟨tp,rfl⟩,rfl,fun p z=>by cases z⟩
noncomputable def LineAt (σ:Map) (a:Ad) (vv:Sv) (v:Value):Option (List Str)→Prop
 | none=>v = .none
 | some l=>∃ D ys,v = .ref D∧σ D=some (.seq false ys)∧StrsAre ys l∧¬ Foot a vv D
theorem invPk_some {inv:Inv}{p:Str}(h:jH inv=some p):zT inv=p:=by
 cases inv with
 | txt x=>exact Option.some.inj h
 | nil=>cases h
 | obj q=>exact Option.some.inj h
theorem LineAt.step {σ':Map}{a:Ad}{v v':Sv}{x:Value}{o:Option (List Str)}(h:LineAt σ a v x o) (s:Step a v σ v' σ'):LineAt σ' a v' x o:=by
 cases o with
 | none=>exact h
 | some l=>obtain ⟨D,ys,e1,e2,e3,e4⟩:=h;exact ⟨D,ys,e1,s.get e2 e4,e3,s.out e2 e4⟩
theorem fn_same {K:Frag}{f:Addr}{oc oc':Value}{od od' an an':Option Addr}{osl osl':Array (Option Value)}{name qual name' qual':Str}{params params':Arguments}{body body':List Stmt}{scope scope':Scope}{dV kV doc pm cdv ct dV' kV' doc' pm' cdv' ct':Value}
 (h0:K.lookup f=some ⟨oc,od,.func (fnOf name qual params body scope dV kV doc pm an cdv ct),osl⟩) (h1:K.lookup f=some ⟨oc',od',.func (fnOf name' qual' params' body' scope' dV' kV' doc' pm' an' cdv' ct'),osl'⟩)
 {P:Str→List Stmt→Scope→Prop} (h:P qual body scope):P qual' body' scope':=by
 have e:=Option.some.inj (h0.symm.trans h1)
 injection e with _ _ e3 _
 injection e3 with e4
 injection e4 with _ e5 _ e6 e7
 injection e6 with e8
 subst e5 e7 e8
 exact h
theorem law_body {name qual:Str}{params:Arguments}{body:List Stmt}{scope:Scope}{dV kV doc pm cdv ct oc:Value}{an od:Option Addr}{osl:Array (Option Value)}
 (ho:(tops.heap_1 w.params).lookup 781=some ⟨oc,od,.func (fnOf name qual params body scope dV kV doc pm an cdv ct),osl⟩) (hk:scope.kind = .function) {fa:Addr} {cv:Value} {d:Dyn} {n:Nat} (hR:Rm (cxOf qual scope fa cv hk d).A (n+13))
 {SC0:Addr} {ys:List Value} {ns:List Int} {Q:Value→Loc→Map→Prop} (hs:G.g.IsList SC0 ys.toArray) (hi:IntsAre ys ns) (hl:ys.length≤63)
 (hQ:∀ σ',Q (.bool true) m σ'):POK prog w G (zg G 336) (cxOf qual scope fa cv hk d) (execs body (cxOf qual scope fa cv hk d).env) (fun y=>[(("script" : Str),Value.ref SC0)].reverse.lookup y) σ (fun fl _ σ'=>Q (match fl with | .ret v=>v | _=>.none) m σ') X:=by
 refine fn_same (P:=fun qual body scope=>∀ hk:scope.kind = .function,Rm (cxOf qual scope fa cv hk d).A (n+13)→POK prog w G (zg G 336) (cxOf qual scope fa cv hk d) (execs body (cxOf qual scope fa cv hk d).env) (fun y=>[(("script" : Str),Value.ref SC0)].reverse.lookup y) σ (fun fl _ σ'=>Q (match fl with | .ret v=>v | _=>.none) m σ') X) (by k_is) ho ?_ hk hR
 clear hR ho hk
 intro hk hR'
 have hY:Fly.Leaves prog w G (zg G 336):=jc
 refine ze (zu (zR (zb rfl (P_slice (jM (jN (zD fun t1 sl hsl=>P_tailSliceG (lo:=none) (hi:=some 60) hs Map.set_self .none (.int 60 t1) (by rw [sizeLine_eq];omega) fun SC hSC=>zx ?_)))))))
 refine ze (zu (z9 (za (zD fun t2=>zc (zF (fun SP hSP=>zx ?_) (lek rfl))))))
 have eSC:(((σ.set sl (.raw (jO .none (.int 60 t1)))).set SC (.seq false (kms_pick ys none (some 60)))).set SP (.seq false [.int 0 t2])) SC=some (.seq false (kms_pick ys none (some 60))):=Map.set_new hSP Map.set_self
 have eSP:(((σ.set sl (.raw (jO .none (.int 60 t1)))).set SC (.seq false (kms_pick ys none (some 60)))).set SP (.seq false [.int 0 t2])) SP=some (.seq false [.int ((0:Nat):Int) t2]):=Map.set_self
 have hne:SC≠SP:=zm (Map.set_self (σ:=σ.set sl (.raw (jO .none (.int 60 t1)))) (ao:=.seq false (kms_pick ys none (some 60)))) hSP
 generalize (((σ.set sl (.raw (jO .none (.int 60 t1)))).set SC (.seq false (kms_pick ys none (some 60)))).set SP (.seq false [.int 0 t2]))=σ₀ at eSC eSP ⊢
 revert σ₀
 refine idP ?_
 intro σ₀ eSC eSP
 have hsp:SpotAt σ₀ SC SP:=⟨⟨_,ns.take 60,eSC,by rw [pick60];exact ints_take 60 hi,by rw [pick60,List.length_take];omega⟩,0,t2,eSP⟩
 clear hSP hSC hsl hs
 refine ze (zu (zv (zh (by k_is) (jl (by kernel_rfl) (P_make (fI:=693) (by kernel_rfl) fun LM hLM=>spec_Limits (n:=n) hY rfl (hR'.le (by omega)).under Map.set_self fun σ₁ u₁=>⟨rfl,zx ?_⟩)))))
 have x₁:Ext σ₀ σ₁:=jj hLM u₁
 refine ze (zu (zv (zh (by k_is) (zf (by kernel_rfl) (za (zb rfl (zc (P_make (fI:=201) (by kernel_rfl) fun H hH=>spec_Heap (n:=n) hY rfl (hR'.le (by omega)).under Map.set_self fun σ₂ Z tH u₂ hZ eH eZ=>⟨rfl,zx ?_⟩))))))))
 have x₂:Ext σ₁ σ₂:=jj hH u₂
 refine ze (zu (zv (zh (by k_is) (zf (by kernel_rfl) (za (zb rfl (za (zA (zc (P_make (fI:=575) (by kernel_rfl) fun CT hCT=>spec_Counter (n:=n) hY rfl (hR'.le (by omega)).under Map.set_self fun σ₃ PL u₃ hPL eCT ePL=>⟨rfl,zx ?_⟩))))))))))
 have x₃:Ext σ₂ σ₃:=jj hCT u₃
 refine ze (zu (zv (zh (by k_is) (zf (by kernel_rfl) (za (zb rfl (za (zb rfl (za (zv (zh (by k_is) (zf (by kernel_rfl) (za (zb rfl (zc (P_make (fI:=352) (by kernel_rfl) fun S hS=>spec_Stash (n:=n) hY rfl (hR'.le (by omega)).under Map.set_self fun σ₄ D tS u₄ hD eS eD=>⟨rfl,?_⟩))))))))))))))))
 have x₄:Ext σ₃ σ₄:=jj hS u₄
 refine za (zb rfl (zc (P_make (fI:=671) (by kernel_rfl) fun R hRr=>spec_Run (n:=n) hY rfl (hR'.le (by omega)).under Map.set_self fun σ₅ u₅ eR=>⟨rfl,zx ?_⟩)))
 have x₅:Ext σ₄ σ₅:=jj hRr u₅
 refine zk fun zz=>?_
 obtain ⟨lm,a1,a2,a3,a4,a5,a6,a7,a8,a9,a10,a11,a12,eR⟩:=eR
 refine zz ?_;clear zz
 refine ze (zi (zv (zh (by k_is) (jl (by kernel_rfl) (P_make (fI:=456) (by kernel_rfl) fun MC hMC=>spec_Cache (n:=n) hY rfl (hR'.le (by omega)).under Map.set_self fun σ₆ TB tM u₆ hTB eMC eTB=>⟨rfl,zb rfl (zn (Ext.get (jj hMC u₆) eR) (by kernel_rfl) (lek (by kernel_rfl)) ?_)⟩)))))
 have x₆:Ext σ₅ σ₆:=jj hMC u₆
 have hRMC:R≠MC:=zm eR hMC
 have eR₆:=x₆.get eR
 have n4R:∀ {b:Addr} {ao:AO},σ₄ b=some ao→b≠R:=fun hb=>zm hb hRr
 have k4:∀ {b:Addr} {ao:AO},σ₄ b=some ao→(σ₆.set R (.inst 674 (putF "methods" (.ref MC) (runF (.ref H) (.ref CT) (.ref S) lm a1 a2 a3 a4 a5 a6 a7 a8 a9 a10 a11 a12 .none)))) b=some ao:=fun hb=>(Map.set_ne (n4R hb)).trans (x₆.get (x₅.get hb))
 have nTR:TB≠R:=(zm (Map.set_new hMC eR) hTB).symm
 have eMC₇:(σ₆.set R (.inst 674 (putF "methods" (.ref MC) (runF (.ref H) (.ref CT) (.ref S) lm a1 a2 a3 a4 a5 a6 a7 a8 a9 a10 a11 a12 .none)))) MC=some (.inst 466 (cacheF (.int (-1) tM) TB)):=(Map.set_ne hRMC.symm).trans eMC
 have eTB₇:(σ₆.set R (.inst 674 (putF "methods" (.ref MC) (runF (.ref H) (.ref CT) (.ref S) lm a1 a2 a3 a4 a5 a6 a7 a8 a9 a10 a11 a12 .none)))) TB=some (.raw (hdP (j9 prog w) TB [])):=(Map.set_ne nTR).trans eTB
 have eR₇:RunAt (σ₆.set R (.inst 674 (putF "methods" (.ref MC) (runF (.ref H) (.ref CT) (.ref S) lm a1 a2 a3 a4 a5 a6 a7 a8 a9 a10 a11 a12 .none)))) R (.ref H) (.ref CT) (.ref S) (.ref MC):=⟨lm,a1,a2,a3,a4,a5,a6,a7,a8,a9,a10,a11,a12,ju (by kernel_rfl)⟩
 have dD:D≠TB:=zm (Map.set_new hMC (x₅.get eD)) hTB
 have dP:PL≠TB:=zm (Map.set_new hMC (x₅.get (x₄.get ePL))) hTB
 have dDP:PL≠D:=zm (Map.set_new hS ePL) hD
 have W0:W prog w (σ₆.set R (.inst 674 (putF "methods" (.ref MC) (runF (.ref H) (.ref CT) (.ref S) lm a1 a2 a3 a4 a5 a6 a7 a8 a9 a10 a11 a12 .none)))) ⟨R,S,H,D,CT,Z,PL,MC⟩ (sv0 TB) 0:=
  W.init eR₇ (k4 eS) (k4 eD) (k4 (x₄.get eCT)) (k4 (x₄.get ePL)) ⟨_,tH,k4 (x₄.get (x₃.get eH))⟩ (k4 (x₄.get (x₃.get eZ))) eMC₇ eTB₇ ⟨dD.symm,dP.symm,dDP.symm⟩
 have apart:∀ {b:Addr} {ao:AO},σ₀ b=some ao→¬ Foot ⟨R,S,H,D,CT,Z,PL,MC⟩ (sv0 TB) b:=fun {b ao} hb z=>by
  have b1:=x₁.get hb
  have b2:=x₂.get b1
  have b3:=x₃.get b2
  have b4:=x₄.get b3
  have b5:=x₅.get b4
  rcases z with z | z | z | z | z | z | z | z | z | ⟨j,g,h1,h2⟩
  ·exact zm b4 hRr z
  ·exact zm b3 hS z
  ·exact zm b1 hH z
  ·exact zm (Map.set_new hS b3) hD z
  ·exact zm b2 hCT z
  ·exact zm (Map.set_new hH b1) hZ z
  ·exact zm (Map.set_new hCT b2) hPL z
  ·exact zm b5 hMC z
  ·exact zm (Map.set_new hMC b5) hTB z
  ·cases h1
 have e0:∀ {b:Addr} {ao:AO},σ₀ b=some ao→(σ₆.set R (.inst 674 (putF "methods" (.ref MC) (runF (.ref H) (.ref CT) (.ref S) lm a1 a2 a3 a4 a5 a6 a7 a8 a9 a10 a11 a12 .none)))) b=some ao:=fun hb=>k4 (x₄.get (x₃.get (x₂.get (x₁.get hb))))
 have eSC₇:=e0 eSC
 have eSP₇:=e0 eSP
 have nSC:=apart eSC
 have nSP:=apart eSP
 generalize σ₆.set R (.inst 674 (putF "methods" (.ref MC) (runF (.ref H) (.ref CT) (.ref S) lm a1 a2 a3 a4 a5 a6 a7 a8 a9 a10 a11 a12 .none)))=σ₇ at W0 eSC₇ eSP₇ ⊢
 revert σ₇
 refine idP ?_
 intro σ₇ W0 eSC₇ eSP₇
 have hR0:R=(Ad.mk R S H D CT Z PL MC).R:=rfl
 have hH0:H=(Ad.mk R S H D CT Z PL MC).H:=rfl
 generalize ha:Ad.mk R S H D CT Z PL MC=a at W0 nSC nSP hR0 hH0
 revert a
 refine idP ?_
 intro a ha W0 nSC nSP hR0 hH0
 have sp₇:SpotAt σ₇ SC SP:=by
  exact ⟨⟨_,ns.take 60,eSC₇,by rw [pick60];exact ints_take 60 hi,by rw [pick60,List.length_take];omega⟩,0,t2,eSP₇⟩
 rw [hR0,hH0]
 clear eSC₇ eSP₇ e0 apart dD dP dDP eR₇ eTB₇ eMC₇ nTR k4 n4R eR₆ hRMC x₆ eTB eMC hTB u₆ hMC x₅ eR u₅ hRr x₄ eD eS hD u₄ hS x₃ ePL eCT hPL u₃ hCT x₂ eZ eH hZ u₂ hH x₁ u₁ hLM hsp eSC eSP
 have I0:Inst prog w σ₇ a (sv0 TB) 0 0:=⟨W0,fun _=>rfl,fun _=>rfl,fun p k=>⟨fun z=>(by first | exact nb z | exact nt z | cases z),fun ⟨_,z⟩=>(by first | exact nb z | exact nt z | cases z)⟩,fun j g z=>(by first | exact nb z | exact nt z | cases z),fun z=>(by first | exact nb z | exact nt z | cases z)⟩
 refine ze (jt (zv (zh (by k_is) (zf (by kernel_rfl) (za (zb rfl (zc (COK.call (spec_install (n:=n) hY rfl (hR'.le (by omega)) I0 fun σ₈ v₈ I s₈=>?_)))))))))
 have sp₈:=sp₇.upd s₈.u nSC nSP
 have nSC₈:¬ Foot a v₈ SC:=by obtain ⟨⟨_,_,e,_⟩,_⟩:=sp₇;exact s₈.out e nSC
 have nSP₈:¬ Foot a v₈ SP:=by obtain ⟨_,_,_,e⟩:=sp₇;exact s₈.out e nSP
 clear sp₇ I0 W0 s₈ nSC nSP
 refine ze (zu (P_dictDisp fun BK hBK=>jL (zo fun t3=>P_emptyDictS fun IS hIS=>jL (zo fun t4=>P_emptyDictT (R:=jZ prog w) fun SB hSB TSB=>jL (zo fun t5=>P_emptyDictS fun TL hTL=>jL (zo fun t6=>z9 (za (zo fun t7=>zc (zF (fun NM hNM=>
  P_pairNil (jD (Map.set_new hNM (Map.set_new hTL (Map.set_new hSB (Map.set_new hIS Map.set_self)))) (by rw [sizeLine_eq];exact lek rfl) (jD Map.set_self (by rw [sizeLine_eq];exact lek rfl) (jD Map.set_self (by rw [sizeLine_eq];exact lek rfl) (jD Map.set_self (by rw [sizeLine_eq];exact lek rfl) (P_storeNil (zx ?_))))))) (lek rfl))))))))))
 have dIS:BK≠IS:=zm Map.set_self hIS
 have eIS₁:=Map.set_new (ao:=.seq false [.str "UNIVERSAL" t7]) hNM (Map.set_new (ao:=.raw (sdP prog w TL [])) hTL (Map.set_new (ao:=.raw (hdP (tupleKind (strKind prog w)) SB [])) hSB (Map.set_self (σ:=σ₈.set BK (.raw (sdP prog w BK []))) (a:=IS) (ao:=.raw (sdP prog w IS [])))))
 have eBK₁:=Map.set_new (ao:=.raw (hdP (tupleKind (strKind prog w)) SB [])) hSB (Map.set_new (ao:=.raw (sdP prog w IS [])) hIS (Map.set_self (σ:=σ₈) (a:=BK) (ao:=.raw (sdP prog w BK []))))
 have dSB:BK≠SB:=zm (Map.set_new (ao:=.raw (sdP prog w IS [])) hIS (Map.set_self (σ:=σ₈) (a:=BK) (ao:=.raw (sdP prog w BK [])))) hSB
 have dTL:BK≠TL:=zm eBK₁ hTL
 have dNM:BK≠NM:=zm (Map.set_new (ao:=.raw (sdP prog w TL [])) hTL eBK₁) hNM
 have dIB:IS≠SB:=zm Map.set_self hSB
 have dIT:IS≠TL:=zm (Map.set_new (ao:=.raw (hdP (tupleKind (strKind prog w)) SB [])) hSB Map.set_self) hTL
 have dIN:IS≠NM:=zm (Map.set_new (ao:=.raw (sdP prog w TL [])) hTL (Map.set_new (ao:=.raw (hdP (tupleKind (strKind prog w)) SB [])) hSB Map.set_self)) hNM
 have dBT:SB≠TL:=zm Map.set_self hTL
 have dBN:SB≠NM:=zm (Map.set_new (ao:=.raw (sdP prog w TL [])) hTL Map.set_self) hNM
 have dTN:TL≠NM:=zm Map.set_self hNM
 have y₁:Ext σ₈ (σ₈.set BK (.raw (sdP prog w BK []))):=Upd.refl.set_new hBK
 have y₂:Ext σ₈ ((σ₈.set BK (.raw (sdP prog w BK []))).set IS (.raw (sdP prog w IS []))):=y₁.set_new hIS
 have y₃:Ext σ₈ (((σ₈.set BK (.raw (sdP prog w BK []))).set IS (.raw (sdP prog w IS []))).set SB (.raw (hdP (tupleKind (strKind prog w)) SB []))):=y₂.set_new hSB
 have y₄:Ext σ₈ ((((σ₈.set BK (.raw (sdP prog w BK []))).set IS (.raw (sdP prog w IS []))).set SB (.raw (hdP (tupleKind (strKind prog w)) SB []))).set TL (.raw (sdP prog w TL []))):=y₃.set_new hTL
 have y₅:Ext σ₈ (((((σ₈.set BK (.raw (sdP prog w BK []))).set IS (.raw (sdP prog w IS []))).set SB (.raw (hdP (tupleKind (strKind prog w)) SB []))).set TL (.raw (sdP prog w TL []))).set NM (.seq false [.str "UNIVERSAL" t7])):=y₄.set_new hNM
 have u₅:Upd (fun b=>b=BK) (((((σ₈.set BK (.raw (sdP prog w BK []))).set IS (.raw (sdP prog w IS []))).set SB (.raw (hdP (tupleKind (strKind prog w)) SB []))).set TL (.raw (sdP prog w TL []))).set NM (.seq false [.str "UNIVERSAL" t7])) (((((((((σ₈.set BK (.raw (sdP prog w BK []))).set IS (.raw (sdP prog w IS []))).set SB (.raw (hdP (tupleKind (strKind prog w)) SB []))).set TL (.raw (sdP prog w TL []))).set NM (.seq false [.str "UNIVERSAL" t7])).set BK (.raw (sdP prog w BK (stored [] "isa" (.ref IS))))).set BK (.raw (sdP prog w BK (stored (stored [] "isa" (.ref IS)) "subs" (.ref SB))))).set BK (.raw (sdP prog w BK (stored (stored (stored [] "isa" (.ref IS)) "subs" (.ref SB)) "told" (.ref TL))))).set BK (.raw (sdP prog w BK (stored (stored (stored (stored [] "isa" (.ref IS)) "subs" (.ref SB)) "told" (.ref TL)) "named" (.ref NM))))):=((((Upd.refl (F:=fun b=>b=BK)).set_in rfl).set_in rfl).set_in rfl).set_in rfl
 have y₆:Ext σ₈ (((((((((σ₈.set BK (.raw (sdP prog w BK []))).set IS (.raw (sdP prog w IS []))).set SB (.raw (hdP (tupleKind (strKind prog w)) SB []))).set TL (.raw (sdP prog w TL []))).set NM (.seq false [.str "UNIVERSAL" t7])).set BK (.raw (sdP prog w BK (stored [] "isa" (.ref IS))))).set BK (.raw (sdP prog w BK (stored (stored [] "isa" (.ref IS)) "subs" (.ref SB))))).set BK (.raw (sdP prog w BK (stored (stored (stored [] "isa" (.ref IS)) "subs" (.ref SB)) "told" (.ref TL))))).set BK (.raw (sdP prog w BK (stored (stored (stored (stored [] "isa" (.ref IS)) "subs" (.ref SB)) "told" (.ref TL)) "named" (.ref NM))))):=fun b bo hb _=>u₅ b bo (y₅.get hb) (zm hb hBK)
 have eBK:(((((((((σ₈.set BK (.raw (sdP prog w BK []))).set IS (.raw (sdP prog w IS []))).set SB (.raw (hdP (tupleKind (strKind prog w)) SB []))).set TL (.raw (sdP prog w TL []))).set NM (.seq false [.str "UNIVERSAL" t7])).set BK (.raw (sdP prog w BK (stored [] "isa" (.ref IS))))).set BK (.raw (sdP prog w BK (stored (stored [] "isa" (.ref IS)) "subs" (.ref SB))))).set BK (.raw (sdP prog w BK (stored (stored (stored [] "isa" (.ref IS)) "subs" (.ref SB)) "told" (.ref TL))))).set BK (.raw (sdP prog w BK (stored (stored (stored (stored [] "isa" (.ref IS)) "subs" (.ref SB)) "told" (.ref TL)) "named" (.ref NM))))) BK=some (.raw (sdP prog w BK (stored (stored (stored (stored [] "isa" (.ref IS)) "subs" (.ref SB)) "told" (.ref TL)) "named" (.ref NM)))):=Map.set_self
 have eIS:=u₅.get eIS₁ dIS.symm
 have eSB:=u₅.get (Map.set_new (ao:=.seq false [.str "UNIVERSAL" t7]) hNM (Map.set_new (ao:=.raw (sdP prog w TL [])) hTL Map.set_self)) dSB.symm
 have eTL:=u₅.get (Map.set_new (ao:=.seq false [.str "UNIVERSAL" t7]) hNM Map.set_self) dTL.symm
 have eNM:=u₅.get Map.set_self dNM.symm
 generalize (((((((((σ₈.set BK (.raw (sdP prog w BK []))).set IS (.raw (sdP prog w IS []))).set SB (.raw (hdP (tupleKind (strKind prog w)) SB []))).set TL (.raw (sdP prog w TL []))).set NM (.seq false [.str "UNIVERSAL" t7])).set BK (.raw (sdP prog w BK (stored [] "isa" (.ref IS))))).set BK (.raw (sdP prog w BK (stored (stored [] "isa" (.ref IS)) "subs" (.ref SB))))).set BK (.raw (sdP prog w BK (stored (stored (stored [] "isa" (.ref IS)) "subs" (.ref SB)) "told" (.ref TL))))).set BK (.raw (sdP prog w BK (stored (stored (stored (stored [] "isa" (.ref IS)) "subs" (.ref SB)) "told" (.ref TL)) "named" (.ref NM)))))=σB at eBK eIS eSB eTL eNM y₆ ⊢
 revert σB
 refine idP ?_
 intro σB eBK eIS eSB eTL eNM y₆
 have domF:∀ b,(Foot a v₈ b∨b=SP)→∃ ao,σ₈ b=some ao∧∀ ys,ao≠.seq true ys:=fun b hb=>by
  rcases hb with hb | hb
  ·exact I.hw.dom b hb
  ·refine zk fun zz=>?_
   obtain ⟨_,k,t,e⟩:=sp₈
   refine zz ?_;clear zz
   exact ⟨_,by rw [hb];exact e,fun ys z=>by cases z⟩
 have nF:∀ b,σ₈ b=none→¬ (Foot a v₈ b∨b=SP):=fun b hb z=>by
  refine zk fun zz=>?_
  obtain ⟨ao,e,_⟩:=domF b z
  refine zz ?_;clear zz
  rw [hb] at e;cases e
 have sIS:=Ext.none_of y₁ hIS
 have sSB:=Ext.none_of y₂ hSB
 have sTL:=Ext.none_of y₃ hTL
 have sNM:=Ext.none_of y₄ hNM
 have hB:BookAt prog w σB (fun b=>Foot a v₈ b∨b=SP) BK IS SB TL NM v₈.par (fun _ _=>none) v₈.tl ["UNIVERSAL"] 8:=
  { bk:=⟨_,eBK,rfl,rfl,rfl,rfl,lek rfl⟩
    isl:=⟨[],eIS,lek rfl,fun p=>I.par p⟩
    nb:=⟨fun z=>z.elim (nF BK hBK) dNM,fun z=>z.elim (nF IS sIS) dIN⟩
    subs:=⟨⟨_,eBK,rfl⟩,[],⟨eSB,fun _ h=>nomatch h⟩,lek rfl,fun _ _=>rfl⟩
    told:=⟨⟨_,eBK,rfl⟩,[],eTL,lek rfl,fun p=>I.tl p⟩
    named:=⟨⟨_,eBK,rfl⟩,_,eNM,.cons _ _ .nil⟩
    nmU:=fun x hx=>by rw [List.mem_singleton.mp hx];decide
    nmN:=lek rfl
    sbU:=fun _ _ _ h=>by cases h
    out:=⟨nF SB sSB,nF TL sTL,nF NM sNM⟩
    ne:=⟨dIS,dSB,dTL,dIB,dIT,dBT⟩
    dom:=fun b hb=>(domF b hb).imp fun _ k=>⟨y₆.get k.1,k.2⟩ }
 have hSCN:SC≠NM:=by
  refine zk fun zz=>?_
  obtain ⟨⟨_,_,e,_⟩,_⟩:=sp₈
  refine zz ?_;clear zz
  exact zm e sNM
 have h₀:LawC prog w σB a v₈ 8 BK IS SB TL NM SC SP v₈.par (fun _ _=>none) v₈.tl ["UNIVERSAL"]:=⟨I.hw.ext y₆,hB,sp₈.upd y₆ id id,nSC₈,nSP₈,hne,hSCN⟩
 clear hB eNM eTL eSB eIS eBK u₅ y₁ y₂ y₃ y₄ y₅ y₆ eIS₁ eBK₁ hNM hTL hSB hIS hBK TSB
 refine ze (P_for hR'.2.2 (z0 (za (zo fun t8=>za (zo fun t9=>za (zo fun t10=>za (zo fun t11=>zc (zL (fun tt htt=>⟨4,fun i v=>[Value.str "isa" t8,.str "can" t9,.str "DOES" t10,.str "VERSION" t11][i]? = some v,fun ρ=>ρ tt=some (.seq true [.str "isa" t8,.str "can" t9,.str "DOES" t10,.str "VERSION" t11]),
  fun i m' σ'=>A7 (m' "script" = some (.ref SC)) (m' "spot" = some (.ref SP)) (m' "heap" = some (.ref a.H)) (m' "run" = some (.ref a.R)) (m' "book" = some (.ref BK)) (σ' tt=some (.seq true [.str "isa" t8,.str "can" t9,.str "DOES" t10,.str "VERSION" t11])) (LawC prog w σ' a v₈ (8+i) BK IS SB TL NM SC SP v₈.par (sbI v₈.sb i) v₈.tl ["UNIVERSAL"]),Iterable.tuple,?_,?_,?_,?_⟩) (lek rfl)))))))))
 ·exact fun i m' σ' τ' ⟨_,_,_,_,_,h,_⟩=>Map.or_some h
 ·exact ⟨rfl,rfl,rfl,rfl,rfl,Map.set_self,by rw [sbI_0];exact h₀.ext (Upd.refl.set_new htt)⟩
 ·rintro i vv m₃ σ₃ hi4 hv ⟨j1,j2,j3,j4,j5,j6,h₃⟩
  obtain ⟨k,tk,rfl,hkU⟩:∃ k tk,vv = .str k tk∧U4[i]? = some k:=by
   match i,hi4 with
   | 0,_=>cases hv;exact ⟨_,_,rfl,rfl⟩
   | 1,_=>cases hv;exact ⟨_,_,rfl,rfl⟩
   | 2,_=>cases hv;exact ⟨_,_,rfl,rfl⟩
   | 3,_=>cases hv;exact ⟨_,_,rfl,rfl⟩
  have hk4:k∈U4:=List.mem_of_getElem? hkU
  have hkl:k.length≤100:=(by decide:∀ p∈U4,p.length≤100) k hk4
  obtain ⟨kk,hkk⟩:=Option.isSome_iff_exists.mp ((I.sb "UNIVERSAL" k).mpr ⟨rfl,by rw [show U4.take 4=U4 from rfl];exact hk4⟩)
  have hsub:=h₃.hw.subs "UNIVERSAL" (by decide) k (U4_N10 hk4)
  rw [hkk] at hsub
  refine zk fun zz=>?_
  obtain ⟨x,hco,hcode⟩:=hsub
  obtain ⟨tn,kc,tc,wk,sx,cp,bb,tz,ex⟩:=hcode
  obtain ⟨_,_,_,_,_,_,_,_,_,_,_,_,_,eR⟩:=id h₃.hw.run
  obtain ⟨tS,eS⟩:=h₃.hw.stash.hS
  obtain ⟨kb,b1,b2,b3,b4,b5,b6⟩:=id h₃.hb.bk
  obtain ⟨_,xs,T,hxl,hxs⟩:=id h₃.hb.subs
  refine zz ?_;clear zz
  refine POK.gen fun Qz hQz=>?_
  refine ze (jF (P_attrC (zI (zB (zb (by exact j4) (zw eR (by kernel_rfl) rfl rfl (zQ (f:=387) eS (by kernel_rfl) rfl (zf (by kernel_rfl) (za (zG (zo fun t12=>zb rfl (zH (by rw [sizeLine_eq];show 11+_≤_;omega) fun t13=>zc (COK.call ?_)))))))))))))
  rw [cc_U]
  refine spec_codeOf (n:=n) hY rfl (hR'.le (by omega)) h₃.hw.stash ?_
  rw [show (v₈.gl (cc "UNIVERSAL" k)).bind GI.co=some x from hco]
  refine zw ex (by kernel_rfl) rfl rfl (zR (zb (by exact j5) (zo fun t14=>jk b1 b3 (z0 (za (zo fun t15=>za (zb rfl (zc (zL (fun ka hka=>?_) (lek rfl))))))))))
  have h₄:=h₃.ext (Upd.refl.set_new (ao:=.seq true [.str "UNIVERSAL" t15,.str k tk]) hka)
  have T8:TD (jZ prog w) (σ₃.set ka (.seq true [.str "UNIVERSAL" t15,.str k tk])) SB xs:=T.keeps (Map.set_new hka T.1) fun b zs hb=>Map.set_new hka hb
  refine P_setT T8 (roomT (hR'.le (by omega:1≤n+13))) (k:=[("UNIVERSAL" : Str),k]) ⟨_,Map.set_self,.cons _ _ (.cons _ _ .nil)⟩ (by rw [sizeLine_eq];omega) fun T9=>?_
  have h₅:=h₄.book (Upd.refl.set_in rfl) (Nat.le_succ _) (h₄.hb.sub (by decide) T8 hxl hxs T9) h₄.hb.out.1 (fun ys e=>by rw [T8.1] at e;cases e) (fun e=>by
   refine zk fun zz=>?_
   obtain ⟨⟨ys,ns,e1,_⟩,_⟩:=h₄.hs
   refine zz ?_;clear zz
   rw [e,T8.1] at e1;cases e1)
  rw [← hkk,sbI_step hkU] at h₅
  exact zy (hQz _ _ _ ⟨by exact j1,by exact j2,by exact j3,by exact j4,by exact j5,Map.set_other (Map.set_new hka j6) (jo T8.1 (Map.set_new hka j6)).symm,h₅⟩)
 rintro m₃ σ₃ ⟨j1,j2,j3,j4,j5,_,h₃⟩
 rw [sbI_4 I.sb] at h₃
 have hn:NmOk v₈.gl ["UNIVERSAL"]:=⟨fun j g hj=>by
  refine zk fun zz=>?_
  obtain ⟨k,hk,e⟩:=I.to j g hj
  refine zz ?_;clear zz
  exact ⟨_,.head _,k,hk,e⟩,fun p hp=>by
  rw [List.mem_singleton.mp hp]
  exact I.back (by decide)⟩
 have L₀:LawAt prog w σ₃ a v₈ 20 BK IS SB TL NM SC SP v₈.tl ["UNIVERSAL"]:=(h₃.le (by decide)).at rfl rfl hn
 refine zy ?_
 refine j8 (J:=fun _ _=>True) ?_ fun m' σ' _=>ze (zO (P_boolC (hQ σ')))
 refine P_for hR'.2.2 (zv (zC (by k_is) (by boot_by_name) (by decide) (P_callWithTy (za (zD fun t20=>zc (P_range fun ra hra=>?_))))))
 refine ⟨14,fun i v=>∃ t,v = .int i t,fun ρ=>ρ ra=some (.raw (rangeP ((14:Nat):Int))),fun i m' σ'=>A6 (m' "script" = some (.ref SC)) (m' "spot" = some (.ref SP)) (m' "heap" = some (.ref a.H)) (m' "run" = some (.ref a.R)) (m' "book" = some (.ref BK)) (X4 fun σ₀ v' SB' names'=>A3 (σ'=σ₀.set ra (.raw (rangeP ((14:Nat):Int)))) (σ₀ ra=none) (LawAt prog w σ₀ a v' (20+40 * i) BK IS SB' TL NM SC SP v'.tl names')),Iterable.range (by decide),?_,?_,?_,?_⟩
 ·rintro i m' σ' τ' ⟨_,_,_,_,_,σ₀,v',SB',names',rfl,_,_⟩;exact Map.or_some Map.set_self
 ·exact ⟨j1,j2,j3,j4,j5,σ₃,v₈,SB,_,rfl,hra,L₀⟩
 ·rintro i vv m₄ σ₄ hi14 ⟨ti,rfl⟩ ⟨j1,j2,j3,j4,j5,σ₅,v₅,SB₅,nm₅,rfl,hra₅,L₅⟩
  refine (POK.aside hra₅ (Q:=fun f m' σ'=>f = .brk∨(f = .next∧m' "script" = some (.ref SC)∧m' "spot" = some (.ref SP)∧m' "heap" = some (.ref a.H)∧m' "run" = some (.ref a.R)∧m' "book" = some (.ref BK)∧∃ v' SB' names',LawAt prog w σ' a v' (20+40 * (i+1)) BK IS SB' TL NM SC SP v'.tl names')) ?_).mono (fun f m' σ' ⟨σ₀,e,e0,q⟩=>?_) fun _ _ z=>z
  ·refine POK.gen fun Qz hQz=>?_
   refine ze (zu (zG (zG (zv (zh (by k_is) (zf (by kernel_rfl) (za (zb (by exact j1) (za (zb (by exact j2) (za (zD fun t21=>zc (COK.call (jf (n:=n) hY rfl (hR'.le (by omega)) L₅.hs L₅.ho.2.2.1 (by decide) fun σ₆ r t22 u₆ hs₆ hr=>zb rfl (P_addInt fun t23=>zD fun t24=>P_modInt (by decide) fun t25=>zx ?_)))))))))))))))
   have L₆:=L₅.spot u₆ hs₆
   refine j8 (J:=fun m' σ'=>A7 (m' "script" = some (.ref SC)) (m' "spot" = some (.ref SP)) (m' "heap" = some (.ref a.H)) (m' "run" = some (.ref a.R)) (m' "book" = some (.ref BK)) (m' "k" = some (.int i ti)) (X3 fun v' SB' nm'=>LawAt prog w σ' a v' (20+40 * i+40) BK IS SB' TL NM SC SP v'.tl nm')) ?_ ?_
   ·refine POK.gen fun Qz hQz=>?_
    refine zJ (zj (zb rfl (zD fun t26=>P_eqInt (zd ⟨fun hb=>?_,fun hb=>?_⟩))))
    ·exact ze (jt (zv (zh (by k_is) (zf (by kernel_rfl) (za (zb (by exact j1) (za (zb (by exact j2) (za (zb (by exact j4) (za (zb (by exact j5) (zc (COK.call (spec_lawChange (n:=n) hY rfl (hR'.le (by omega)) L₆ (by omega) fun σ₇ v₇ SB₇ nm₇ L₇ e₇=>
      zy (hQz _ _ _ ⟨rfl,by exact j1,by exact j2,by exact j3,by exact j4,by exact j5,rfl,v₇,SB₇,nm₇,by rw [e₇];exact L₇.le (by omega)⟩))))))))))))))))
    ·-- the asking
     refine ze (zu (zR (zG (zh (by k_is) (z9 (za (zo fun t30=>za (zo fun t31=>za (zA (zc (zF (fun D1 hD1=>?_) (lek rfl))))))))))))
     refine P_addL (xs:=[.str "A" 1187,.str "B" 1188,.str "C::D" 1189,.str "E" 1190,.str "UNIVERSAL" 1191]) (.inr (by k_is)) (.inl Map.set_self) (show 5+3≤sizeLine by rw [sizeLine_eq];decide) fun D2 hD2=>?_
     have LA:=(L₆.ext (Upd.refl.set_new (ao:=.seq false [.str "F" t30,.str "" t31,.none]) hD1)).ext (Upd.refl.set_new (ao:=.seq false ([.str "A" 1187,.str "B" 1188,.str "C::D" 1189,.str "E" 1190,.str "UNIVERSAL" 1191] ++ [.str "F" t30,.str "" t31,.none])) hD2)
     have nDS:D2≠SP:=by
      refine zk fun zz=>?_
      obtain ⟨_,k,t,e⟩:=(L₆.ext (Upd.refl.set_new (ao:=.seq false [.str "F" t30,.str "" t31,.none]) hD1)).hs
      refine zz ?_;clear zz
      exact (zm e hD2).symm
     refine zv (zh (by k_is) (zf (by kernel_rfl) (za (zb (by exact j1) (za (zb (by exact j2) (za (zD fun t32=>zc (COK.call (jf (n:=n) hY rfl (hR'.le (by omega)) LA.hs LA.ho.2.2.1 (by decide) fun σ₇ r1 t33 u₇ hs₇ hr1=>?_))))))))))
     have LB:=LA.spot u₇ hs₇
     refine zk fun zz=>?_
     obtain ⟨pk,tp,hpk6,hget⟩:=Pk_get (t1:=1187) (t2:=1188) (t3:=1189) (t4:=1190) (t5:=1191) (t6:=t30) (t7:=t31) hr1
     refine zz ?_;clear zz
     refine kh (u₇.get Map.set_self nDS) (by omega) (by omega) hget (zx ?_)
     clear LA hget u₇ hs₇ hD1 hD2 nDS hr1
     refine ze (zu (zR (z9 (za (zo fun s1=>za (zo fun s2=>za (zo fun s3=>za (zo fun s4=>za (zo fun s5=>za (zo fun s6=>za (zo fun s7=>zc (zF (fun D3 hD3=>?_) (lek rfl)))))))))))))
     have LC:=LB.ext (Upd.refl.set_new (ao:=.seq false [.str "m" s1,.str "n" s2,.str "B::m" s3,.str "C::D::n" s4,.str "can" s5,.str "DESTROY" s6,.str "\x69mport" s7]) hD3)
     have nDS:D3≠SP:=by
      refine zk fun zz=>?_
      obtain ⟨_,k,t,e⟩:=LB.hs
      refine zz ?_;clear zz
      exact (zm e hD3).symm
     refine zv (zh (by k_is) (zf (by kernel_rfl) (za (zb (by exact j1) (za (zb (by exact j2) (za (zD fun t34=>zc (COK.call (jf (n:=n) hY rfl (hR'.le (by omega)) LC.hs LC.ho.2.2.1 (by decide) fun σ₈ r2 t35 u₈ hs₈ hr2=>?_))))))))))
     have LD:=LC.spot u₈ hs₈
     refine zk fun zz=>?_
     obtain ⟨nm,tn,hnm,hget⟩:=Q7_get (t1:=s1) (t2:=s2) (t3:=s3) (t4:=s4) (t5:=s5) (t6:=s6) (t7:=s7) hr2
     refine zz ?_;clear zz
     refine kh (u₈.get Map.set_self nDS) (by omega) (by omega) hget (zx ?_)
     clear LB LC hget u₈ hs₈ hD3 nDS hr2
     refine ze (zu (zb rfl (zx ?_)))
     refine j8 (J:=fun m' σ'=>A9 (m' "script" = some (.ref SC)) (m' "spot" = some (.ref SP)) (m' "heap" = some (.ref a.H)) (m' "run" = some (.ref a.R)) (m' "book" = some (.ref BK)) (m' "k" = some (.int i ti)) (m' "package" = some (optS pk tp)) (m' "name" = some (.str nm tn)) (X3 fun v' val inv=>A5 (m' "invocant" = some val) (InvOk σ' a v' val inv) (jH inv=pk) ((∀ p,inv = .obj p→p≠"")) (LawAt prog w σ' a v' (20+40 * i) BK IS SB₅ TL NM SC SP v'.tl nm₅))) ?_ ?_
     ·refine POK.gen fun Qz hQz=>?_
      refine zJ (jz (zj (zb rfl (z0 (za (zo fun t36=>za (zA (zc (zL (fun tt htt=>P_notInPk Map.set_self (zd ⟨fun hb1=>?_,fun hb1=>⟨fun z=>(by first | exact nb z | exact nt z | cases z),fun _=>?_⟩⟩)) (lek rfl))))))))))
      ·have LE:=LD.ext (Upd.refl.set_new (ao:=.seq true [.str "" t36,.none]) htt)
       refine jz (zj (zb rfl (zD fun t37=>P_eqInt (zd ⟨fun hb2=>P_testAndNil ⟨fun _=>?_,fun z=>(by first | exact nb z | exact nt z | cases z)⟩,fun hb2=>⟨fun z=>(by first | exact nb z | exact nt z | cases z),fun _=>?_⟩⟩))))
       ·obtain ⟨p,rfl,hpe⟩:∃ p,pk=some p∧p≠"":=by
         cases pk with
         | none=>cases hb1
         | some p=>exact ⟨p,rfl,fun z=>by subst z;exact absurd hb1 (by decide)⟩
        refine zk fun zz=>?_
        obtain ⟨lim,tH,eH⟩:=id LE.hw.heap
        refine zz ?_;clear zz
        refine ze (zu (zI (zb (by exact j3) (zQ (f:=222) eH (by kernel_rfl) rfl (jl (by kernel_rfl) (COK.call (spec_newArray (n:=n) hY rfl (hR'.le (by omega)) eH fun σ₉ x t38 t39 wk l u₉ eH₉ hx ex hlx elx=>zx ?_)))))))
        refine ze (zi (zb rfl (zb rfl (zn ex (by kernel_rfl) (lek (by kernel_rfl)) ?_))))
        have u₁₀:Upd (fun b=>b=a.H) (σ₈.set tt (.seq true [.str "" t36,.none])) (σ₉.set x (.inst 106 (putF "blessed" (optS (some p) tp) (arrayF (.int (v₅.last+1) t38) (.int 0 t39) .none wk l)))):=u₉.set_loc hx
        have eH₁₀:(σ₉.set x (.inst 106 (putF "blessed" (optS (some p) tp) (arrayF (.int (v₅.last+1) t38) (.int 0 t39) .none wk l)))) a.H=some (.inst 246 (heapF lim (.int (v₅.last+1) t38) a.Z)):=Map.set_other eH₉ (zm eH hx)
        have LF:=LE.step (LE.hw.heapUp u₁₀ ⟨lim,t38,eH₁₀⟩) (Step.heapUp u₁₀) ⟨rfl,rfl,rfl,rfl,rfl,fun _=>rfl,fun _=>rfl,fun _=>rfl⟩ (Nat.le_refl _)
        have eA:ArrAt (σ₉.set x (.inst 106 (putF "blessed" (optS (some p) tp) (arrayF (.int (v₅.last+1) t38) (.int 0 t39) .none wk l)))) x (.str p tp) l:=⟨v₅.last+1,t38,0,t39,wk,ju (by kernel_rfl)⟩
        generalize (σ₉.set x (.inst 106 (putF "blessed" (optS (some p) tp) (arrayF (.int (v₅.last+1) t38) (.int 0 t39) .none wk l))))=σA at LF eA ⊢
        revert σA
        refine idP ?_
        intro σA LF eA
        refine ze (zu (zv (zh (by k_is) (zf (by kernel_rfl) (za (zb rfl (zc (P_make (fI:=180) (by kernel_rfl) fun rr hrr=>spec_Ref (n:=n) hY rfl (hR'.le (by omega)).under Map.set_self fun σB uB eB=>⟨rfl,zx (zy ?_)⟩))))))))
        have xB:Ext σA σB:=jj hrr uB
        have fr:¬ Foot a { v₅ with last:=v₅.last+1 } rr:=(LF.core.free hrr).f
        have fx:¬ Foot a { v₅ with last:=v₅.last+1 } x:=(LE.core.free hx).f
        exact hQz _ _ _ ⟨rfl,by exact j1,by exact j2,by exact j3,by exact j4,by exact j5,rfl,rfl,rfl,_,_,.obj p,rfl,⟨rr,x,l,tp,rfl,eB,eA.upd xB id,fr,fx⟩,rfl,fun q e=>by cases e;exact hpe,LF.ext xB⟩
       ·refine zk fun zz=>?_
        obtain ⟨i1,i2,i3⟩:=invT_at (σ:=σ₈.set tt (.seq true [.str "" t36,.none])) (pk:=pk) (tp:=tp) (a:=a) (v:=v₅)
        refine zz ?_;clear zz
        exact zy (hQz _ _ _ ⟨rfl,by exact j1,by exact j2,by exact j3,by exact j4,by exact j5,rfl,rfl,rfl,v₅,_,invT pk,rfl,i1,i2,i3,LE⟩)
      ·refine zk fun zz=>?_
       obtain ⟨i1,i2,i3⟩:=invT_at (σ:=σ₈.set tt (.seq true [.str "" t36,.none])) (pk:=pk) (tp:=tp) (a:=a) (v:=v₅)
       refine zz ?_;clear zz
       exact zy (hQz _ _ _ ⟨rfl,by exact j1,by exact j2,by exact j3,by exact j4,by exact j5,rfl,rfl,rfl,v₅,_,invT pk,rfl,i1,i2,i3,LD.ext (Upd.refl.set_new htt)⟩)
     ·rintro m₉ σ₉ ⟨q1,q2,q3,q4,q5,q6,q7,q8,v₉,val,inv,q9,hinv,hik,hobj,L₉⟩
      have hpk':∀ p,jH inv=some p→p≠""→p∈P6:=fun p e=>hpk6 p (by rw [← hik];exact e)
      refine ze (zu (POK.mono (Q:=fun v m' σ'=>m'=m₉∧∃ ab ta,v = .str ab ta∧AbOk nm ab∧InvOk σ' a v₉ val inv∧LawAt prog w σ' a v₉ (20+40 * i) BK IS SB₅ TL NM SC SP v₉.tl nm₅) ?_ ?_ fun _ _ z=>z))
      ·refine POK.gen fun Qz hQz=>?_
       refine jb (zj (zo fun t40=>zb (by exact q8) (P_notInText (zd ⟨fun hb=>?_,fun hb=>zo fun t41=>hQz _ _ _ ⟨rfl,"",t41,rfl,.inl rfl,hinv,L₉⟩⟩))))
       rw [notIn7 nm hnm] at hb
       have hcut:(zW nm).1 = "":=of_decide_eq_true hb
       refine zR (z9 (za (zo fun s1=>za (zo fun s2=>za (zo fun s3=>za (zo fun s4=>zc (zF (fun D4 hD4=>?_) (lek rfl))))))))
       have LE:=L₉.ext (Upd.refl.set_new (ao:=.seq false [.str "" s1,.str "" s2,.str "A" s3,.str "C::D" s4]) hD4)
       have hiE:=hinv.ext (Upd.refl.set_new (ao:=.seq false [.str "" s1,.str "" s2,.str "A" s3,.str "C::D" s4]) hD4)
       refine zk fun zz=>?_
       obtain ⟨_,kS,tS',eSPE⟩:=id LE.hs
       refine zz ?_;clear zz
       have nDS:D4≠SP:=by
        refine zk fun zz=>?_
        obtain ⟨_,k,t,e⟩:=L₉.hs
        refine zz ?_;clear zz
        exact (zm e hD4).symm
       refine zv (zh (by k_is) (zf (by kernel_rfl) (za (zb (by exact q1) (za (zb (by exact q2) (za (zD fun t42=>zc (COK.call (jf (n:=n) hY rfl (hR'.le (by omega)) LE.hs LE.ho.2.2.1 (by decide) fun σC r4 t43 uC hsC hr4=>?_))))))))))
       refine zk fun zz=>?_
       obtain ⟨ab,ta,hab,hget⟩:=Ab_get (t1:=s1) (t2:=s2) (t3:=s3) (t4:=s4) hr4
       refine zz ?_;clear zz
       refine kh (uC.get Map.set_self nDS) (by omega) (by omega) hget (hQz _ _ _ ⟨rfl,ab,ta,rfl,?_,hiE.upd uC (fun b C fs hb hn=>⟨fun z=>(by rw [z,eSPE] at hb;cases hb),hn⟩),LE.spot uC hsC⟩)
       rcases hab with e | e | e
       ·exact .inl e
       ·exact .inr ⟨hcut,.inl e⟩
       ·exact .inr ⟨hcut,.inr e⟩
      rintro v₁ m₁ σB ⟨rfl,ab,ta,rfl,hab,hinvB,LB⟩
      refine zx ?_
      have hP:=LB.hw.parOk (by omega)
      have hQ7l:nm.length≤900:=Nat.le_trans ((by decide:∀ x∈Q7,x.length≤100) nm hnm) (by decide)
      refine ze (zJ (zj (zv (zh (by k_is) (zf (by kernel_rfl) (za (zb (by exact q4) (za (zb (by exact q9) (za (zb (by exact q8) (za (zb rfl (zc (COK.call (spec_lawHeard (n:=n) rfl (hR'.le (by omega)) LB.hw (by omega) hinvB.at hnm hab hpk' hobj LB.hn LB.hb.nmU fun σC vC valC WC sC smC tlC oC=>?_))))))))))))))))
      have LC:=LB.step WC sC smC (by omega)
      refine zv (zh (by k_is) (zf (by kernel_rfl) (za (zb (by exact q5) (za (zb (by exact q7) (za (zb (by exact q8) (za (zb rfl (zc (COK.call (spec_lawDue (n:=n) (pk:=pk) hY rfl (hR'.le (by omega)) LC.hb (LC.hw.parOk (by omega)) (by omega) (fun p e hne=>?_) hQ7l (fun p=>?_) fun σD valD hBD uD oD=>?_)))))))))))))
      ·rw [dueTgt_cut hnm hab]
       exact pkOf_in hnm hab (hpk6 p e hne)
      ·rw [dueTgt_cut hnm hab]
       exact Nat.le_trans ((by decide:∀ x∈N10,x.length≤100) _ (cut7 nm hnm).1) (by decide)
      rw [smC.par,smC.sb,← hik] at hBD oD
      refine zk fun zz=>?_
      obtain ⟨_,kt,eTC,_⟩:=id LC.hb.told
      obtain ⟨_,yn,eNC,_⟩:=id LC.hb.named
      refine zz ?_;clear zz
      have tupD:∀ b ys,σC b=some (.seq true ys)→σD b=some (.seq true ys):=fun b ys hb=>uD.get hb (fun z=>by
       rcases z with z | z
       ·rw [z,eTC] at hb;cases hb
       ·rw [z,eNC] at hb;cases hb)
      have hunL:d.un+40 * (n+13) < cLine:=hR'.2.1
      refine P_neOut (by show d.un < cLine;omega) (oC.keep tupD) oD (zd ⟨fun z=>(by first | exact nb z | exact nt z | cases z),fun _=>zy ?_⟩)
      have hnD:=LC.dueNames (jH inv) nm ab
      rw [smC.par,smC.sb] at hnD
      have LD:=LC.told (cnt':=20+40 * i+3+2) uD (by omega) (by rw [smC.par,smC.sb];exact hBD) hnD
      rw [← tlC] at LD
      have hinvD:InvOk σD a vC val inv:=(hinvB.step sC).upd uD fun b C fs hb hn=>⟨fun z=>z.elim (fun z=>by rw [z,eTC] at hb;cases hb) (fun z=>by rw [z,eNC] at hb;cases hb),hn⟩
      clear hBD oD oC LC hnD tupD eTC eNC uD sC tlC smC WC hinvB LB
      generalize nmD nm₅ (jU v₉.par v₉.sb nm₅ (jH inv) nm ab).2=names at LD
      revert names
      refine idP ?_
      intro names LD
      refine ze (zu (POK.mono (Q:=fun v m' σ'=>m'=Loc.set m₁ "above" (.str ab ta)∧Ext σD σ'∧LineAt σ' a vC v (jq vC.par (zT inv))) ?_ ?_ fun _ _ z=>z))
      ·refine jb (zj (zb (by exact q7) (z0 (za (zo fun t44=>za (zA (zc (zL (fun tt htt=>P_inPk Map.set_self (zd ⟨fun hb=>?_,fun hb=>?_⟩)) (lek rfl)))))))))
       ·have h0:zT inv = "":=pkN_inv.mp (by rw [hik];exact hb)
        refine z9 (zc (zF fun D5 hD5=>⟨rfl,(Upd.refl.set_new htt).set_new hD5,?_⟩))
        unfold jq
        rw [if_pos h0]
        exact ⟨D5,[],rfl,Map.set_self,.nil,((LD.ext (Upd.refl.set_new (ao:=.seq true [.str "" t44,.none]) htt)).core.free hD5).f⟩
       ·obtain ⟨p,rfl⟩:∃ p,pk=some p:=by
         cases pk with
         | none=>cases hb
         | some p=>exact ⟨p,rfl⟩
        have hip:=invPk_some hik
        have h0:zT inv≠"":=fun z=>by
         have:=pkN_inv.mpr z
         rw [hik,hb] at this;cases this
        have hp6:=hpk6 p rfl (by rw [← hip];exact h0)
        have LE:=LD.ext (Upd.refl.set_new (ao:=.seq true [.str "" t44,.none]) htt)
        refine zv (zh (by k_is) (zf (by kernel_rfl) (za (zb (by exact q5) (za (zb (by exact q7) (zc (COK.call (spec_lawLine (n:=n) hY rfl (hR'.le (by omega)) (LE.hw.parOk (by omega)) LE.hb.isa.free hp6 fun σE vE uE hvE=>⟨rfl,(Upd.refl.set_new htt).trans uE,?_⟩)))))))))
        unfold jq
        rw [if_neg h0,hip]
        cases ql:jn vC.par p with
        | none=>rw [ql] at hvE;exact hvE
        | some l=>rw [ql] at hvE;obtain ⟨D,ys,e1,e0,e2,e3⟩:=hvE;exact ⟨D,ys,e1,e2,e3,(LE.core.free e0).f⟩
      rintro lv m₂ σE ⟨rfl,uE,hline⟩
      refine zx ?_
      have LE:=LD.ext uE
      have hinvE:=hinvD.ext uE
      clear LD hinvD uE
      refine ze (zu (POK.mono (Q:=fun v m' σ'=>m'=Loc.set (Loc.set m₁ "above" (.str ab ta)) "line" lv∧Ext σE σ'∧∃ t,v=optS ((jq vC.par (zT inv)).bind (jv vC.sb nm)) t) ?_ ?_ fun _ _ z=>z))
      ·cases qa:jq vC.par (zT inv) with
       | none=>
        rw [qa] at hline
        have hlv:lv = .none:=hline
        subst hlv
        exact jb (zj (zb rfl (zA (zN rfl (zd ⟨fun _=>zA ⟨rfl,Upd.refl,0,rfl⟩,fun z=>(by first | exact nb z | exact nt z | cases z)⟩)))))
       | some l=>
        rw [qa] at hline
        refine zk fun zz=>?_
        obtain ⟨D6,ys6,rfl,eD6,hys6,nD6⟩:=hline
        refine zz ?_;clear zz
        refine jb (zj (zb rfl (zA (zN rfl (zd ⟨fun z=>(by first | exact nb z | exact nt z | cases z),fun _=>?_⟩)))))
        exact zv (zh (by k_is) (zf (by kernel_rfl) (za (zb (by exact q5) (za (zb rfl (za (zb (by exact q8) (zc (COK.call (spec_lawFirst (n:=n) hY rfl (hR'.le (by omega)) LE.hb.subs eD6 hys6 fun σF t uF=>⟨rfl,uF,t,rfl⟩)))))))))))
      rintro fv m₂ σF ⟨rfl,uF,tf,rfl⟩
      refine zx ?_
      have LF:=LE.ext uF
      have hinvF:=hinvE.ext uF
      generalize hfo:(jq vC.par (zT inv)).bind (jv vC.sb nm)=fo
      revert fo
      refine idP ?_
      intro fo hfo
      refine ze (zu (POK.mono (Q:=fun v m' σ'=>m'=Loc.set (Loc.set (Loc.set m₁ "above" (.str ab ta)) "line" lv) "first" (optS fo tf)∧Ext σF σ'∧AskAt v (canDue vC.par vC.sb (zT inv) nm)) ?_ ?_ fun _ _ z=>z))
      ·cases qa:jq vC.par (zT inv) with
       | none=>
        rw [qa] at hline
        have hlv:lv = .none:=hline
        subst hlv
        exact jb (zj (zb rfl (zA (zN rfl (zd ⟨fun _=>zo fun t45=>⟨rfl,Upd.refl,by unfold canDue;rw [qa];exact ⟨t45,rfl⟩⟩,fun z=>(by first | exact nb z | exact nt z | cases z)⟩)))))
       | some l=>
        rw [qa] at hline hfo
        refine zk fun zz=>?_
        obtain ⟨D6,ys6,rfl,eD6,hys6,nD6⟩:=hline
        refine zz ?_;clear zz
        have hfo':jv vC.sb nm l=fo:=hfo
        refine jb (zj (zb rfl (zA (zN rfl (zd ⟨fun z=>(by first | exact nb z | exact nt z | cases z),fun _=>?_⟩)))))
        cases fo with
        | none=>exact jb (zj (zb rfl (zA (zN rfl (zd ⟨fun _=>zA ⟨rfl,Upd.refl,by unfold canDue;simp only [qa,hfo'];exact rfl⟩,fun z=>(by first | exact nb z | exact nt z | cases z)⟩)))))
        | some f=>
         refine jb (zj (zb rfl (zA (zN rfl (zd ⟨fun z=>(by first | exact nb z | exact nt z | cases z),fun _=>?_⟩)))))
         refine zk fun zz=>?_
         obtain ⟨k,hk⟩:=lfirst_some hfo'
         obtain ⟨kb,b1,b2,b3,b4,b5,b6⟩:=id LF.hb.bk
         obtain ⟨_,xs,T,hxl,hxs⟩:=id LF.hb.subs
         refine zz ?_;clear zz
         have hx:=hxs f nm
         cases hat:atKey xs [f,nm] with
         | none=>rw [hat] at hx;rw [hk] at hx;cases hx
         | some q=>
          rw [hat] at hx
          refine zk fun zz=>?_
          obtain ⟨k',t46,e1,e2⟩:=hx
          refine zz ?_;clear zz
          rw [hk] at e2
          have ek:=Option.some.inj e2
          refine zR (zR (zb (by exact q5) (zo fun t47=>jk b1 b3 (z0 (za (zb rfl (za (zb (by exact q8) (zc (zL (fun ka hka=>?_) (lek rfl)))))))))))
          refine P_itemT (T.keeps (Map.set_new hka T.1) fun b zs hb=>Map.set_new hka hb) (roomT (hR'.le (by omega:1≤n+13))) (k:=[f,nm]) ⟨_,Map.set_self,.cons _ _ (.cons _ _ .nil)⟩ hat ⟨rfl,Upd.refl.set_new hka,?_⟩
          unfold canDue
          simp only [qa,hfo',hk,Option.getD_some,e1,ek]
          exact ⟨t46,rfl⟩
      rintro dv m₂ σG ⟨rfl,uG,hdue⟩
      refine zx ?_
      have LG:=LF.ext uG
      have hinvG:=hinvF.ext uG
      have hpkA:zT inv≠""→zT inv∈P6:=fun hne=>by
       cases inv with
       | txt x=>exact hpk' x rfl hne
       | nil=>exact absurd rfl hne
       | obj p=>exact hpk' p rfl hne
      refine j8 (J:=fun m' σ'=>(m'=Loc.set (Loc.set (Loc.set (Loc.set m₁ "above" (.str ab ta)) "line" lv) "first" (optS fo tf)) "due" dv)∧(∃ v',A4 (Same vC v') (InvOk σ' a v' val inv) (LineAt σ' a v' lv (jq vC.par (zT inv))) (LawAt prog w σ' a v' (20+40 * i+3+2+1) BK IS SB₅ TL NM SC SP v'.tl names))) ?_ ?_
      ·have hlineG:LineAt σG a vC lv (jq vC.par (zT inv)):=by
        cases qa:jq vC.par (zT inv) with
        | none=>rw [qa] at hline;exact hline
        | some l=>rw [qa] at hline;obtain ⟨D6,ys6,e1,e2,e3,e4⟩:=hline;exact ⟨D6,ys6,e1,uG.get (uF.get e2),e3,e4⟩
       refine POK.gen fun Qz hQz=>?_
       refine zJ (jz (zj (zo fun t48=>zb (by exact q8) (P_notInText (zd ⟨fun hb=>?_,fun hb=>⟨fun z=>(by first | exact nb z | exact nt z | cases z),fun _=>zy (hQz _ _ _ ⟨rfl,rfl,vC,Same.refl,hinvG,hlineG,LG.le (by omega)⟩)⟩⟩)))))
       rw [notIn7 nm hnm] at hb
       have hcut:(zW nm).1 = "":=of_decide_eq_true hb
       have hn10:nm∈N10:=by
        have h7:=cut7 nm hnm
        rcases h7.2 with ⟨_,c2,_⟩ | ⟨c1,_⟩ | ⟨c1,_⟩
        ·exact c2 ▸ h7.1
        ·rw [hcut] at c1;exact absurd c1 (by decide)
        ·rw [hcut] at c1;exact absurd c1 (by decide)
       refine jz (zj (zv (zh (by k_is) (zf (by kernel_rfl) (za (zb (by exact q4) (za (z9 (za (zb (by exact q9) (za (zb (by exact q8) (zc (zF (fun VL hVL=>za (P_boolC (zc (COK.call ?_)))) (lek rfl)))))))))))))))
       have yH:Ext σG (σG.set VL (.seq false [val,.str nm tn])):=Upd.refl.set_new hVL
       have LH:=LG.ext yH
       refine spec_lawCan (n:=n) rfl (hR'.le (by omega)) LH.hw (by omega) (hinvG.ext yH).at Map.set_self hpkA hobj hn10 fun σH vH valH WH sH smH tlH aH=>zb rfl (P_neAsk aH hdue (zd ⟨fun z=>(by first | exact nb z | exact nt z | cases z),fun _=>⟨fun z=>(by first | exact nb z | exact nt z | cases z),fun _=>zy (hQz _ _ _ ⟨rfl,rfl,vH,smH,(hinvG.ext yH).step sH,(hlineG.step (Step.ext yH)).step sH,?_⟩)⟩⟩))
       have LI:=LH.step WH sH smH (by omega)
       rw [tlH]
       exact LI.le (by omega)
      ·rintro m₂ σH ⟨rfl,vH,smH,hinvH,hlineH,LH⟩
       refine ze (zu (POK.mono (Q:=fun v m' σ'=>m'=Loc.set (Loc.set (Loc.set (Loc.set m₁ "above" (.str ab ta)) "line" lv) "first" (optS fo tf)) "due" dv∧Ext σH σ'∧AskAt v (isaDue vC.par (zT inv))) ?_ ?_ fun _ _ z=>z))
       ·cases qa:jq vC.par (zT inv) with
        | none=>
         rw [qa] at hlineH
         have hlv:lv = .none:=hlineH
         subst hlv
         exact jb (zj (zb rfl (zA (zN rfl (zd ⟨fun _=>zo fun t50=>⟨rfl,Upd.refl,by unfold isaDue;rw [qa];exact ⟨t50,rfl⟩⟩,fun z=>(by first | exact nb z | exact nt z | cases z)⟩)))))
        | some l=>
         rw [qa] at hlineH
         refine zk fun zz=>?_
         obtain ⟨D6,ys6,rfl,eD6,hys6,_⟩:=hlineH
         refine zz ?_;clear zz
         refine jb (zj (zb rfl (zA (zN rfl (zd ⟨fun z=>(by first | exact nb z | exact nt z | cases z),fun _=>?_⟩)))))
         refine jb (zj (zo fun t51=>zb rfl (P_inStrs eD6 hys6 (zd ⟨fun hb=>zD fun t52=>⟨rfl,Upd.refl,?_⟩,fun hb=>zo fun t53=>⟨rfl,Upd.refl,?_⟩⟩))))
         ·unfold isaDue;simp only [qa,if_pos (any_beq.mp hb)];exact ⟨t52,rfl⟩
         ·have hno:("B" : Str)∉l:=fun z=>by rw [any_beq.mpr z] at hb;cases hb
          unfold isaDue;simp only [qa,if_neg hno];exact ⟨t53,rfl⟩
       rintro iv m₃ σI ⟨rfl,uI,hisa⟩
       refine zx ?_
       have LI:=LH.ext uI
       refine ze (zJ (zj (zv (zh (by k_is) (zf (by kernel_rfl) (za (zb (by exact q4) (za (z9 (za (zb (by exact q9) (za (zo fun t54=>zc (zF (fun VL hVL=>za (P_boolC (zc (COK.call ?_)))) (lek rfl)))))))))))))))
       have yJ:Ext σI (σI.set VL (.seq false [val,.str "B" t54])):=Upd.refl.set_new hVL
       have LJ:=LI.ext yJ
       refine spec_lawIsa (n:=n) rfl (hR'.le (by omega)) LJ.hw (by omega) ((hinvH.ext uI).ext yJ).at Map.set_self hpkA hobj fun σJ vJ uJ aJ=>zb rfl (P_neAsk (by rw [smH.par] at aJ;exact aJ) hisa (zd ⟨fun z=>(by first | exact nb z | exact nt z | cases z),fun _=>zy (zy (hQz _ _ _ ⟨rfl,by exact q1,by exact q2,by exact q3,by exact q4,by exact q5,by exact q6,vH,SB₅,names,(LJ.ext uJ).le (by omega)⟩))⟩))
   ·rintro m₇ σ₇ ⟨q1,q2,q3,q4,q5,q6,v₇,SB₇,nm₇,L₇⟩
    refine zk fun zz=>?_
    obtain ⟨kb,b1,b2,b3,b4,b5,b6⟩:=id L₇.hb.bk
    obtain ⟨_,kt,eT,hT1,hT2⟩:=id L₇.hb.told
    refine zz ?_;clear zz
    have nFT:¬ (Foot a v₇ TL∨TL=SP):=L₇.hb.out.2.1
    have dBT':BK≠TL:=L₇.hb.ne.2.2.1
    refine POK.openD eT fun ep=>?_
    have uT:Upd (fun b=>b=TL) σ₇ (σ₇.set TL (.raw (sdE prog w TL kt ep))):=Upd.refl.set_in rfl
    have We:=L₇.hw.frame uT (fun b hb z=>nFT (.inl (z ▸ hb))) (fun b ys hb=>(jo eT hb).symm)
    have b1e:=uT.get b1 dBT'
    have eTe:(σ₇.set TL (.raw (sdE prog w TL kt ep))) TL=some (.raw (sdE prog w TL kt ep)):=Map.set_self
    have back:(σ₇.set TL (.raw (sdE prog w TL kt ep))).set TL (.raw (sdP prog w TL kt))=σ₇:=by
     funext b
     unfold Map.set
     by_cases z:b=TL
     ·simp [z,eT]
     ·simp [z]
    refine j8 (J:=fun m' σ'=>A7 (m' "script" = some (.ref SC)) (m' "spot" = some (.ref SP)) (m' "heap" = some (.ref a.H)) (m' "run" = some (.ref a.R)) (m' "book" = some (.ref BK)) (m' "k" = some (.int i ti)) (σ'=σ₇.set TL (.raw (sdE prog w TL kt ep)))) ?_ ?_
    ·generalize σ₇.set TL (.raw (sdE prog w TL kt ep))=σe at We b1e eTe ⊢
     revert σe
     refine idP ?_
     intro σe We b1e eTe
     refine POK.gen fun Qz hQz=>?_
     refine P_for hR'.2.2 (zR (zb (by exact q5) (zo fun t27=>jk b1e b4 ⟨kt.length,fun i v=>∃ k x t,kt[i]? = some (k,x)∧v = .str k t,fun ρ=>ρ TL=some (.raw (sdE prog w TL kt ep)),fun _ m' σ'=>m' "script" = some (.ref SC)∧m' "spot" = some (.ref SP)∧m' "heap" = some (.ref a.H)∧m' "run" = some (.ref a.R)∧m' "book" = some (.ref BK)∧m' "k" = some (.int i ti)∧σ'=σe,
      Iterable.dict,?_,?_,?_,?_⟩)))
     ·rintro j m' σ' τ' ⟨_,_,_,_,_,_,rfl⟩;exact Map.or_some eTe
     ·exact ⟨q1,q2,q3,q4,q5,q6,rfl⟩
     ·rintro j vv m₈ σ₈ hj ⟨p,x,tp,hp,rfl⟩ ⟨z1,z2,z3,z4,z5,z6,rfl⟩
      obtain ⟨x',hx'⟩:∃ x',valueAt kt p=some x':=by
       rw [← Option.isSome_iff_exists,valueAt_mem]
       exact List.mem_map.mpr ⟨(p,x),List.mem_of_getElem? hp,rfl⟩
      have hTp:=hT2 p
      rw [hx'] at hTp
      refine zk fun zz=>?_
      obtain ⟨y,ty,rfl,hy⟩:=hTp
      obtain ⟨g,xs,tz,hg,hsx,hsc⟩:=We.told p y hy
      obtain ⟨sn,st,sk,st',swk,esc⟩:=hsc
      refine zz ?_;clear zz
      have hpl:p.length≤1000:=by
       have:=We.nmLen _ g hg
       rw [cc_len] at this;omega
      refine zk fun zz=>?_
      obtain ⟨_,_,_,_,_,_,_,_,_,_,_,_,_,eR⟩:=id We.run
      obtain ⟨tS,eS⟩:=We.stash.hS
      refine zz ?_;clear zz
      refine POK.gen fun Qy hQy=>?_
      refine ze (zJ (zj (P_attrC (zI (zB (zb (by exact z4) (zw eR (by kernel_rfl) rfl rfl (zQ (f:=366) eS (by kernel_rfl) rfl (zf (by kernel_rfl) (za (zG (zb rfl (zo fun t28=>zH (by rw [sizeLine_eq];show _+10≤_;omega) fun t29=>zc (COK.call ?_))))))))))))))
      rw [cc_auto]
      refine spec_scalarHad (n:=n) hY rfl (hR'.le (by omega)) We (by omega) hg hsx (zw esc (by kernel_rfl) rfl rfl (zR (zR (zb (by exact z5) (zo fun t30=>jk b1e b4 (zb rfl (P_itemDE eTe hx' (P_neStr (zd ⟨fun hb=>?_,fun _=>zy (zy (hQy _ _ _ ⟨z1,z2,z3,z4,z5,z6,rfl⟩))⟩)))))))))
      simp at hb
     ·rintro m' σ' ⟨z1,z2,z3,z4,z5,z6,rfl⟩
      exact zy (hQz _ _ _ ⟨rfl,z1,z2,z3,z4,z5,z6,rfl⟩)
    ·rintro m₉ σ₉ ⟨z1,z2,z3,z4,z5,z6,rfl⟩
     refine POK.weak (a:=TL) eTe (fun o ho=>sdE.close ho) ?_
     rw [back]
     refine zk fun zz=>?_
     obtain ⟨⟨sys,sns,s1,s2,s3⟩,sk,st,s4⟩:=id L₇.hs
     refine zz ?_;clear zz
     have last:∀ {m':Loc},m' "script" = some (.ref SC)→m' "spot" = some (.ref SP)→m' "heap" = some (.ref a.H)→m' "run" = some (.ref a.R)→m' "book" = some (.ref BK)→∃ v' SB' names',LawAt prog w σ₇ a v' (20+40 * (i+1)) BK IS SB' TL NM SC SP v'.tl names':=fun _ _ _ _ _=>⟨v₇,SB₇,nm₇,L₇.le (by omega)⟩
     refine ze (zJ (jz (zj (zR (zb (by exact z2) (zD fun t31=>kh s4 (by decide) (by decide) rfl (zv (zC (by k_is) (by boot_by_name) (by decide) (zt (za (zb (by exact z1) (zc (P_len s1 (by rw [sizeLine_eq];omega) fun t32=>P_gtInt (zd ⟨fun hb1=>?_,fun hb1=>⟨fun z=>(by first | exact nb z | exact nt z | cases z),fun _=>zy (zy (hQz _ _ _ (.inr ⟨rfl,z1,z2,z3,z4,z5,v₇,SB₇,nm₇,L₇.le (by omega)⟩)))⟩⟩))))))))))))))
     exact jz (zj (zb (by exact z6) (zD fun t33=>P_gtInt (zd ⟨fun hb2=>P_testAndNil ⟨fun _=>ze (P_brk (hQz _ _ _ (.inl rfl))),fun z=>(by first | exact nb z | exact nt z | cases z)⟩,fun hb2=>⟨fun z=>(by first | exact nb z | exact nt z | cases z),fun _=>zy (zy (hQz _ _ _ (.inr ⟨rfl,z1,z2,z3,z4,z5,v₇,SB₇,nm₇,L₇.le (by omega)⟩)))⟩⟩))))
  ·rcases q with rfl | ⟨rfl,q1,q2,q3,q4,q5,v',SB',names',q6⟩
   ·exact ⟨rfl,trivial⟩
   ·exact ⟨q1,q2,q3,q4,q5,σ₀,v',SB',names',e,e0,q6⟩
 ·exact fun m' σ' _=>zy ⟨rfl,trivial⟩
end
theorem law_at:Law w G:=by
 intro hok fa cv SC0 ys ns h₁ tk hL hI hlen name qual params body scope dV kV doc pm cdv ct oc an od osl ho hk F Q E hQ
 let d:Dyn:=⟨callerA.depth+1,callerA.units+3,callerA.guards,callerA.handled,[],G.g.objs.size,fun _ z=>nomatch z⟩
 have hR:Rm (cxOf qual scope fa cv hk d).A (0+13):=⟨show callerA.depth+1+2 * (0+13) < recursionLimit by decide +kernel,show callerA.units+3+40 * (0+13) < cLine by decide +kernel,rfl⟩
 have hb:=law_body (m:=fun _=>none) (σ:=fun _=>none) (X:=fun _ _=>False) (Q:=fun v _ _=>v = .bool true) ho hk (fa:=fa) (cv:=cv) (d:=d) (n:=0) hR hL hI (by rw [hI.length];exact hlen) (fun _=>rfl)
 have St0:St G (cxOf qual scope fa cv hk d) (fun x=>[(("script" : Str),Value.ref SC0)].reverse.lookup x) (Map.or (fun _=>none) (fun _=>none)) ⟨h₁,G.fix.gens,G.fix.drawn,tk,G.fix.os⟩:=
  ⟨h₁,tk,[],fun _=>none,rfl,⟨F,fun _ z=>(nomatch z),List.nodup_nil,fun a ao z=>(nomatch z),hok,fun env he=>by
   rcases List.mem_cons.mp he with rfl | he
   ·exact ⟨hk,_,rfl,Nat.le_refl _,.inl rfl⟩
   ·cases he⟩⟩
 refine wpAny_mono (hb.go _ _ (fun _=>.inl rfl) St0) (fun fl s' ⟨m',σ',_,hs,q⟩=>?_) fun e s' ⟨_,_,_,_,q⟩=>q.elim
 refine St.on hs fun h' tk' news own hs l=>?_
 cases fl with
 | ret v=>
  have q':v = .bool true:=q
  subst q'
  exact hQ h' tk' l.F.keep
 | _=>cases q
theorem law_top:∀ (w:World) (G:Gd (tops.heap_1 w.params)),Law w G:=law_here law_at
theorem law_go {w:World}{s₁:Shared}{p:Program}{loose:List Str}{mg mb:Str→Option Value}(KX:(tops.heap_1 w.params).In s₁.heap) (T:TopRead p loose mg mb s₁.heap) {fa:Addr}{cv:Value}{SC0:Addr}{ys:List Value}{ns:List Int}{h₁:Heap}{tk:Nat}
 (hL:s₁.heap.IsList SC0 ys.toArray) (hI:IntsAre ys ns) (hlen:ns.length≤63)
 {name qual:Str} {params:Arguments} {body:List Stmt} {scope:Scope} {dV kV doc pm cdv ct oc:Value} {an od:Option Addr} {osl:Array (Option Value)}
 (ho:(tops.heap_1 w.params).lookup 781=some ⟨oc,od,.func (fnOf name qual params body scope dV kV doc pm an cdv ct),osl⟩) (hk:scope.kind = .function)
 (F:Fr s₁.heap s₁.heap.objs.size h₁ (fun x=>[(("script" : Str),Value.ref SC0)].reverse.lookup x)) {Q:Flow→Shared→Prop} {E:Value→Shared→Prop}
 (hQ:∀ h' tk',(∀ b o,s₁.heap.get? b=some o→h'.get? b=some o)→Q (.ret (.bool true)) ⟨h',s₁.gens,s₁.drawn,tk',s₁.os⟩) :
 wpAny (model PySem.Challenge.rw_nz0200_01.row.prog w) (callerA.deeper (envOf qual scope s₁.heap.objs.size fa cv)) (execs body (envOf qual scope s₁.heap.objs.size fa cv)) Q E ⟨h₁,s₁.gens,s₁.drawn,tk,s₁.os⟩:=
 law_top w ⟨p,loose,mg,mb,s₁.heap,s₁,True,fun _=>KX,fun _=>T⟩ trivial fa cv SC0 ys ns h₁ tk hL hI hlen name qual params body scope dV kV doc pm cdv ct oc an od osl ho hk F Q E hQ
end Mine
namespace Mine.all
theorem tw10011055193491271300:True:=⟨⟩
theorem tw10017678596475843418:True:=⟨⟩
theorem tw10034031380863371641:True:=⟨⟩
theorem tw10042690540180379618:True:=⟨⟩
theorem tw100579137028481972:True:=⟨⟩
theorem tw10073190252686323273:True:=⟨⟩
theorem tw10081088541268293599:True:=⟨⟩
theorem tw10127320685908719325:True:=⟨⟩
theorem tw10130366669087276332:True:=⟨⟩
theorem tw10131221437080536637:True:=⟨⟩
theorem tw10141592760726769513:True:=⟨⟩
theorem tw10156424416328317940:True:=⟨⟩
theorem tw10168888151487559394:True:=⟨⟩
theorem tw10175558820241607032:True:=⟨⟩
theorem tw10188801085194608257:True:=⟨⟩
theorem tw10215604902903598199:True:=⟨⟩
theorem tw10227051316576381974:True:=⟨⟩
theorem tw10252965763247687682:True:=⟨⟩
theorem tw10268101183197098196:True:=⟨⟩
theorem tw10312239555926195531:True:=⟨⟩
theorem tw10316705163991428254:True:=⟨⟩
theorem tw10331167273965929257:True:=⟨⟩
theorem tw10389294372677164839:True:=⟨⟩
theorem tw10400367350220817645:True:=⟨⟩
theorem tw10407399669362838719:True:=⟨⟩
theorem tw10448147714900662036:True:=⟨⟩
theorem tw10600613889749566790:True:=⟨⟩
theorem tw10634939071730365363:True:=⟨⟩
theorem tw10636018739910865072:True:=⟨⟩
theorem tw10640303290150162726:True:=⟨⟩
theorem tw10640348836240559591:True:=⟨⟩
theorem tw10649901628825759099:True:=⟨⟩
theorem tw10677670038743541358:True:=⟨⟩
theorem tw10681620039792923934:True:=⟨⟩
theorem tw10696458614491829572:True:=⟨⟩
theorem tw10705108097460422218:True:=⟨⟩
theorem tw10787622589932112302:True:=⟨⟩
theorem tw10793401674749092046:True:=⟨⟩
theorem tw1079708855280229330:True:=⟨⟩
theorem tw1081408078033650336:True:=⟨⟩
theorem tw10835444871452781336:True:=⟨⟩
theorem tw1084137095814117326:True:=⟨⟩
theorem tw10856765595117590405:True:=⟨⟩
theorem tw10871976262691809110:True:=⟨⟩
theorem tw10912467617979834864:True:=⟨⟩
theorem tw10915074446201010522:True:=⟨⟩
theorem tw10923070005692675132:True:=⟨⟩
theorem tw10942295900298899174:True:=⟨⟩
theorem tw1095929389519559783:True:=⟨⟩
theorem tw10971250334911043752:True:=⟨⟩
theorem tw11038128598146805730:True:=⟨⟩
theorem tw11045270430615452010:True:=⟨⟩
theorem tw11051373392699811023:True:=⟨⟩
theorem tw11084693905056812178:True:=⟨⟩
theorem tw11091474679367250208:True:=⟨⟩
theorem tw11093295523969242068:True:=⟨⟩
theorem tw11102767992079720913:True:=⟨⟩
theorem tw11112267310362752236:True:=⟨⟩
theorem tw11113120797386210373:True:=⟨⟩
theorem tw11116879363250112325:True:=⟨⟩
theorem tw11120492362615346026:True:=⟨⟩
theorem tw11139934685464864865:True:=⟨⟩
theorem tw11158953913317867288:True:=⟨⟩
theorem tw11223482586740685078:True:=⟨⟩
theorem tw11230645906715702508:True:=⟨⟩
theorem tw11242623580682996947:True:=⟨⟩
theorem tw11273133048781285286:True:=⟨⟩
theorem tw11298796024306172991:True:=⟨⟩
theorem tw11330118131623060689:True:=⟨⟩
theorem tw11378520881680533043:True:=⟨⟩
theorem tw1142058581544160548:True:=⟨⟩
theorem tw11433317345382964763:True:=⟨⟩
theorem tw11441816438227186863:True:=⟨⟩
theorem tw11448872678469705673:True:=⟨⟩
theorem tw11473507486328240615:True:=⟨⟩
theorem tw11483514542923596125:True:=⟨⟩
theorem tw11483986225225671339:True:=⟨⟩
theorem tw11488495728068971930:True:=⟨⟩
theorem tw11533779600810293282:True:=⟨⟩
theorem tw11557621650720384941:True:=⟨⟩
theorem tw11563076530477234726:True:=⟨⟩
theorem tw11573567738276184859:True:=⟨⟩
theorem tw11639333894188339638:True:=⟨⟩
theorem tw11658462952560688381:True:=⟨⟩
theorem tw11686026206685797588:True:=⟨⟩
theorem tw1172340538976468734:True:=⟨⟩
theorem tw11736780227944870738:True:=⟨⟩
theorem tw11738243901336025406:True:=⟨⟩
theorem tw11757652711159077200:True:=⟨⟩
theorem tw11777086365064915542:True:=⟨⟩
theorem tw11784725038316003381:True:=⟨⟩
theorem tw11785345923209364544:True:=⟨⟩
theorem tw11877403491279123046:True:=⟨⟩
theorem tw11888049472147760879:True:=⟨⟩
theorem tw11925040711228000680:True:=⟨⟩
theorem tw11928815663860865973:True:=⟨⟩
theorem tw11931136993785318394:True:=⟨⟩
theorem tw11951307492845570281:True:=⟨⟩
theorem tw11990357761064164650:True:=⟨⟩
theorem tw12028550053918628185:True:=⟨⟩
theorem tw12071712058454129317:True:=⟨⟩
theorem tw12139988101201813748:True:=⟨⟩
theorem tw1215526528800860966:True:=⟨⟩
theorem tw1216898108829112853:True:=⟨⟩
theorem tw12180536567876656950:True:=⟨⟩
theorem tw12221947951091446842:True:=⟨⟩
theorem tw12248520049373816357:True:=⟨⟩
theorem tw12254430714555821875:True:=⟨⟩
theorem tw12267322187703008927:True:=⟨⟩
theorem tw12267468486907949403:True:=⟨⟩
theorem tw12304872625307995750:True:=⟨⟩
theorem tw12345319411167063811:True:=⟨⟩
theorem tw12375154698920686608:True:=⟨⟩
theorem tw12381699962588209086:True:=⟨⟩
theorem tw1238725946784135233:True:=⟨⟩
theorem tw12394350090093965224:True:=⟨⟩
theorem tw12428716410969305734:True:=⟨⟩
theorem tw12447178028490564450:True:=⟨⟩
theorem tw12454838139127397598:True:=⟨⟩
theorem tw12461584238705310493:True:=⟨⟩
theorem tw125183967897747985:True:=⟨⟩
theorem tw12540455083557110006:True:=⟨⟩
theorem tw12563031120210811263:True:=⟨⟩
theorem tw12580110897883145167:True:=⟨⟩
theorem tw12670715608682713705:True:=⟨⟩
theorem tw12724949091593755947:True:=⟨⟩
theorem tw12784588452913835247:True:=⟨⟩
theorem tw12803817524326497440:True:=⟨⟩
theorem tw12819504698909858696:True:=⟨⟩
theorem tw12847938454781286588:True:=⟨⟩
theorem tw12885334096101347146:True:=⟨⟩
theorem tw12899656968702213925:True:=⟨⟩
theorem tw1291087626157917732:True:=⟨⟩
theorem tw12926333453430215753:True:=⟨⟩
theorem tw12926644002878227130:True:=⟨⟩
theorem tw12981892083367582941:True:=⟨⟩
theorem tw12985212532813657682:True:=⟨⟩
theorem tw1298631472846954095:True:=⟨⟩
theorem tw12994552909553032409:True:=⟨⟩
theorem tw13027540482245733427:True:=⟨⟩
theorem tw13042374122123996364:True:=⟨⟩
theorem tw13057232943065969744:True:=⟨⟩
theorem tw13098716769926991806:True:=⟨⟩
theorem tw13100642850353945058:True:=⟨⟩
theorem tw13113687655016186724:True:=⟨⟩
theorem tw13135058765949404771:True:=⟨⟩
theorem tw13185015893256467352:True:=⟨⟩
theorem tw13215351417096909983:True:=⟨⟩
theorem tw13220695134330190930:True:=⟨⟩
theorem tw13233751423148406618:True:=⟨⟩
theorem tw1326175403826912198:True:=⟨⟩
theorem tw13270532327374429287:True:=⟨⟩
theorem tw1327343985113690801:True:=⟨⟩
theorem tw13280447903547772812:True:=⟨⟩
theorem tw13282074430368766303:True:=⟨⟩
theorem tw13283931332471535325:True:=⟨⟩
theorem tw13338274903956020161:True:=⟨⟩
theorem tw13358604424828501309:True:=⟨⟩
theorem tw13370487131934946175:True:=⟨⟩
theorem tw13376464931078446103:True:=⟨⟩
theorem tw13423135486485445016:True:=⟨⟩
theorem tw13431290835526063760:True:=⟨⟩
theorem tw13434531468450553753:True:=⟨⟩
theorem tw13455461431897201640:True:=⟨⟩
theorem tw13492395982464255480:True:=⟨⟩
theorem tw13492775673106092688:True:=⟨⟩
theorem tw13505173894226300209:True:=⟨⟩
theorem tw13509908655624090359:True:=⟨⟩
theorem tw1352723322627576488:True:=⟨⟩
theorem tw1356099576862622092:True:=⟨⟩
theorem tw13596499734656872166:True:=⟨⟩
theorem tw13607757164722159089:True:=⟨⟩
theorem tw13657395267715391174:True:=⟨⟩
theorem tw13659652561706870552:True:=⟨⟩
theorem tw13663018214320142090:True:=⟨⟩
theorem tw13678831315298964934:True:=⟨⟩
theorem tw1370661090779891798:True:=⟨⟩
theorem tw13717024376598296668:True:=⟨⟩
theorem tw13752750167953387420:True:=⟨⟩
theorem tw13760266836079841376:True:=⟨⟩
theorem tw13830746773910301732:True:=⟨⟩
theorem tw13874455239767017017:True:=⟨⟩
theorem tw13887551421349579326:True:=⟨⟩
theorem tw13897503799994109090:True:=⟨⟩
theorem tw13912068318134460016:True:=⟨⟩
theorem tw13928513891281363954:True:=⟨⟩
theorem tw13930999109560414629:True:=⟨⟩
theorem tw13960862262899742394:True:=⟨⟩
theorem tw14003663102062188800:True:=⟨⟩
theorem tw14044709251442629906:True:=⟨⟩
theorem tw14066901625076523032:True:=⟨⟩
theorem tw14068239771850734003:True:=⟨⟩
theorem tw14074921412963316263:True:=⟨⟩
theorem tw14076077854437140390:True:=⟨⟩
theorem tw14081932915414352519:True:=⟨⟩
theorem tw14099800850047386279:True:=⟨⟩
theorem tw14106571916235994328:True:=⟨⟩
theorem tw14124840197023413450:True:=⟨⟩
theorem tw14151137839513740329:True:=⟨⟩
theorem tw14200518018382609147:True:=⟨⟩
theorem tw14201790961670687459:True:=⟨⟩
theorem tw14204109254541194217:True:=⟨⟩
theorem tw14229981574245695772:True:=⟨⟩
theorem tw14274756557212989909:True:=⟨⟩
theorem tw14288127532215574351:True:=⟨⟩
theorem tw14310873030558110092:True:=⟨⟩
theorem tw14331890051309236264:True:=⟨⟩
theorem tw14365998534574843411:True:=⟨⟩
theorem tw14420213329864412023:True:=⟨⟩
theorem tw14444207656584330654:True:=⟨⟩
theorem tw1446525512094189494:True:=⟨⟩
theorem tw14504465163362997928:True:=⟨⟩
theorem tw14523845485542788104:True:=⟨⟩
theorem tw14539000326390715668:True:=⟨⟩
theorem tw14647661154017913664:True:=⟨⟩
theorem tw14648097213134440425:True:=⟨⟩
theorem tw14661163797125724070:True:=⟨⟩
theorem tw14701963045326077753:True:=⟨⟩
theorem tw14721843458392949018:True:=⟨⟩
theorem tw14771985120617686802:True:=⟨⟩
theorem tw14832659646925512398:True:=⟨⟩
theorem tw14832718209330476552:True:=⟨⟩
theorem tw14847532645272441617:True:=⟨⟩
theorem tw14848961488311411958:True:=⟨⟩
theorem tw14853665493834295914:True:=⟨⟩
theorem tw14883968960377749705:True:=⟨⟩
theorem tw14899674885815798178:True:=⟨⟩
theorem tw14940032972901115816:True:=⟨⟩
theorem tw14970210157437980911:True:=⟨⟩
theorem tw14971269681375995079:True:=⟨⟩
theorem tw14984247238865676675:True:=⟨⟩
theorem tw15014361466247048854:True:=⟨⟩
theorem tw15054863418237798948:True:=⟨⟩
theorem tw15076152544538823220:True:=⟨⟩
theorem tw15081044799308232511:True:=⟨⟩
theorem tw15105651507014581045:True:=⟨⟩
theorem tw15132095893342830898:True:=⟨⟩
theorem tw15145278206449419223:True:=⟨⟩
theorem tw15151187641303801864:True:=⟨⟩
theorem tw15158558636265767147:True:=⟨⟩
theorem tw15176617289070330970:True:=⟨⟩
theorem tw15198316981687975854:True:=⟨⟩
theorem tw15242674970999812785:True:=⟨⟩
theorem tw15248031165874397040:True:=⟨⟩
theorem tw15284455985751111415:True:=⟨⟩
theorem tw15300001336698509272:True:=⟨⟩
theorem tw15305453227285626446:True:=⟨⟩
theorem tw15331906349341453337:True:=⟨⟩
theorem tw15354443143932468990:True:=⟨⟩
theorem tw15359849362664289188:True:=⟨⟩
theorem tw15389465554420088467:True:=⟨⟩
theorem tw15393178847056368160:True:=⟨⟩
theorem tw15414233836422861205:True:=⟨⟩
theorem tw15451204947285891726:True:=⟨⟩
theorem tw15471726915170369524:True:=⟨⟩
theorem tw1550712947053634219:True:=⟨⟩
theorem tw15519761934197397234:True:=⟨⟩
theorem tw15541118713287057729:True:=⟨⟩
theorem tw15575253945988166476:True:=⟨⟩
theorem tw15585509438621463966:True:=⟨⟩
theorem tw15612066896164977022:True:=⟨⟩
theorem tw15618092478124507917:True:=⟨⟩
theorem tw15651733941924773997:True:=⟨⟩
theorem tw15670805634923389295:True:=⟨⟩
theorem tw15671812041987572844:True:=⟨⟩
theorem tw15766547542915688834:True:=⟨⟩
theorem tw15778654729900951400:True:=⟨⟩
theorem tw15830996010280166623:True:=⟨⟩
theorem tw15849158762323818722:True:=⟨⟩
theorem tw1585303152785439333:True:=⟨⟩
theorem tw1586037315452845605:True:=⟨⟩
theorem tw15888951733556516598:True:=⟨⟩
theorem tw15926794790568321017:True:=⟨⟩
theorem tw16016398639907115627:True:=⟨⟩
theorem tw1604050991321148793:True:=⟨⟩
theorem tw16136937179128050694:True:=⟨⟩
theorem tw16149317719023688252:True:=⟨⟩
theorem tw16171933092410999983:True:=⟨⟩
theorem tw16176830815697697194:True:=⟨⟩
theorem tw16188822405700688499:True:=⟨⟩
theorem tw16215753837559589999:True:=⟨⟩
theorem tw16223638597430114740:True:=⟨⟩
theorem tw16288533217561068507:True:=⟨⟩
theorem tw16296590348105434372:True:=⟨⟩
theorem tw16339503202031470875:True:=⟨⟩
theorem tw1639981616727947583:True:=⟨⟩
theorem tw16400751074865733910:True:=⟨⟩
theorem tw16409715438230349083:True:=⟨⟩
theorem tw16424727738075169484:True:=⟨⟩
theorem tw16433278489552267077:True:=⟨⟩
theorem tw16444899576201249432:True:=⟨⟩
theorem tw16457593375850944212:True:=⟨⟩
theorem tw16526751206710464603:True:=⟨⟩
theorem tw16567661231398824811:True:=⟨⟩
theorem tw16573077582942348641:True:=⟨⟩
theorem tw16592893570014863828:True:=⟨⟩
theorem tw16636436465759865564:True:=⟨⟩
theorem tw16644902639655322133:True:=⟨⟩
theorem tw16665526110328478529:True:=⟨⟩
theorem tw16694476904998839863:True:=⟨⟩
theorem tw16700318575013349798:True:=⟨⟩
theorem tw16705860606270256717:True:=⟨⟩
theorem tw16720883766928916882:True:=⟨⟩
theorem tw16726255535346028473:True:=⟨⟩
theorem tw16727532447511142511:True:=⟨⟩
theorem tw16739083755425606968:True:=⟨⟩
theorem tw16739844878667351699:True:=⟨⟩
theorem tw16740921855470316824:True:=⟨⟩
theorem tw16747629065405408630:True:=⟨⟩
theorem tw16773635481313006432:True:=⟨⟩
theorem tw16785538882571980543:True:=⟨⟩
theorem tw16788233547135642414:True:=⟨⟩
theorem tw16838893715234930207:True:=⟨⟩
theorem tw16857469709051444266:True:=⟨⟩
theorem tw16877496141331604692:True:=⟨⟩
theorem tw16926426053830025025:True:=⟨⟩
theorem tw16942522186650535968:True:=⟨⟩
theorem tw1694654335647164047:True:=⟨⟩
theorem tw16985871876413990642:True:=⟨⟩
theorem tw16987476370533704557:True:=⟨⟩
theorem tw17026743227940831712:True:=⟨⟩
theorem tw17053130121481772103:True:=⟨⟩
theorem tw17064833945692052252:True:=⟨⟩
theorem tw17084071853196174921:True:=⟨⟩
theorem tw17103938086974590038:True:=⟨⟩
theorem tw17106608494224303150:True:=⟨⟩
theorem tw17112464921883037887:True:=⟨⟩
theorem tw17172520439673271139:True:=⟨⟩
theorem tw1717485560449817402:True:=⟨⟩
theorem tw17219627432635195469:True:=⟨⟩
theorem tw17244472993801099961:True:=⟨⟩
theorem tw17259241986408110582:True:=⟨⟩
theorem tw17260577670642009320:True:=⟨⟩
theorem tw17271892845280886908:True:=⟨⟩
theorem tw17292822351017121783:True:=⟨⟩
theorem tw17314943208353570444:True:=⟨⟩
theorem tw1734884918528286522:True:=⟨⟩
theorem tw17360653242477243975:True:=⟨⟩
theorem tw17368901067910498557:True:=⟨⟩
theorem tw17371863055441782679:True:=⟨⟩
theorem tw17393663094203119047:True:=⟨⟩
theorem tw17394647144938102915:True:=⟨⟩
theorem tw17408048037380319038:True:=⟨⟩
theorem tw17408919567675379883:True:=⟨⟩
theorem tw17411639873488161413:True:=⟨⟩
theorem tw17424916104665291489:True:=⟨⟩
theorem tw17447734377096445370:True:=⟨⟩
theorem tw17469454598705902373:True:=⟨⟩
theorem tw1750280776747563624:True:=⟨⟩
theorem tw17523770736405063376:True:=⟨⟩
theorem tw1752733083305661762:True:=⟨⟩
theorem tw17558465517493045558:True:=⟨⟩
theorem tw1758426702102747128:True:=⟨⟩
theorem tw17591669423913269842:True:=⟨⟩
theorem tw17657238230949819594:True:=⟨⟩
theorem tw1768962640154500726:True:=⟨⟩
theorem tw17711473739705145481:True:=⟨⟩
theorem tw17711910997332876922:True:=⟨⟩
theorem tw17717444079117462278:True:=⟨⟩
theorem tw17740187900682377756:True:=⟨⟩
theorem tw17740860788197283744:True:=⟨⟩
theorem tw17772726858579744284:True:=⟨⟩
theorem tw17800948086707717751:True:=⟨⟩
theorem tw17818293817903590521:True:=⟨⟩
theorem tw17840812128005083152:True:=⟨⟩
theorem tw17843529362963011488:True:=⟨⟩
theorem tw17846619120630023766:True:=⟨⟩
theorem tw17848959056065924907:True:=⟨⟩
theorem tw17869465992159879179:True:=⟨⟩
theorem tw17899929404969355535:True:=⟨⟩
theorem tw17914837950057056417:True:=⟨⟩
theorem tw17983917188297756147:True:=⟨⟩
theorem tw18003279642469066050:True:=⟨⟩
theorem tw18052197330547352278:True:=⟨⟩
theorem tw18058516629519361111:True:=⟨⟩
theorem tw18068929663759586442:True:=⟨⟩
theorem tw18074533905802821072:True:=⟨⟩
theorem tw18094267598192979275:True:=⟨⟩
theorem tw18107075240765231021:True:=⟨⟩
theorem tw18111398738982083773:True:=⟨⟩
theorem tw18120535436291149196:True:=⟨⟩
theorem tw18124843273605240230:True:=⟨⟩
theorem tw18168848097628341329:True:=⟨⟩
theorem tw18216745520431054769:True:=⟨⟩
theorem tw18244080296346304987:True:=⟨⟩
theorem tw18291108133853008933:True:=⟨⟩
theorem tw1832691508475867565:True:=⟨⟩
theorem tw1834627630568429925:True:=⟨⟩
theorem tw18369841484834026144:True:=⟨⟩
theorem tw18422150028754028023:True:=⟨⟩
theorem tw18433669859833586122:True:=⟨⟩
theorem tw18440353960458814819:True:=⟨⟩
theorem tw18441473437031201941:True:=⟨⟩
theorem tw1859658367360657537:True:=⟨⟩
theorem tw1885294564261713141:True:=⟨⟩
theorem tw1923041757053545603:True:=⟨⟩
theorem tw1957997846565066766:True:=⟨⟩
theorem tw1973140245219671491:True:=⟨⟩
theorem tw1982302099225326074:True:=⟨⟩
theorem tw1985402699469526011:True:=⟨⟩
theorem tw200202858802481044:True:=⟨⟩
theorem tw200952908838891698:True:=⟨⟩
theorem tw2013830700403712203:True:=⟨⟩
theorem tw201708328148552895:True:=⟨⟩
theorem tw2020152571437148077:True:=⟨⟩
theorem tw2054712967208431000:True:=⟨⟩
theorem tw2114198189418970486:True:=⟨⟩
theorem tw2235618017368140517:True:=⟨⟩
theorem tw225468126006155290:True:=⟨⟩
theorem tw2286941943676669977:True:=⟨⟩
theorem tw2299508167122706282:True:=⟨⟩
theorem tw2305613221535706149:True:=⟨⟩
theorem tw2316775634158704177:True:=⟨⟩
theorem tw2333626107976518443:True:=⟨⟩
theorem tw2366535826993118143:True:=⟨⟩
theorem tw2406872565856053176:True:=⟨⟩
theorem tw2412950195513398651:True:=⟨⟩
theorem tw247909236438806434:True:=⟨⟩
theorem tw2479237469882504799:True:=⟨⟩
theorem tw2494268533263957097:True:=⟨⟩
theorem tw2496985677507960046:True:=⟨⟩
theorem tw2531900633515307401:True:=⟨⟩
theorem tw2557191316624668217:True:=⟨⟩
theorem tw2613816272192447989:True:=⟨⟩
theorem tw2627396739876165418:True:=⟨⟩
theorem tw2638793534194840904:True:=⟨⟩
theorem tw2640984773516398845:True:=⟨⟩
theorem tw2690882624139800689:True:=⟨⟩
theorem tw270595956821020375:True:=⟨⟩
theorem tw2759345515850679284:True:=⟨⟩
theorem tw2792250951161479536:True:=⟨⟩
theorem tw2798396993581604531:True:=⟨⟩
theorem tw281770217567036725:True:=⟨⟩
theorem tw282076826160197541:True:=⟨⟩
theorem tw282994513109133150:True:=⟨⟩
theorem tw2842816785644039571:True:=⟨⟩
theorem tw2891402810631288588:True:=⟨⟩
theorem tw2972125363121769464:True:=⟨⟩
theorem tw2995925781233325151:True:=⟨⟩
theorem tw2997595627926355555:True:=⟨⟩
theorem tw29985565223642888:True:=⟨⟩
theorem tw3006146034401029692:True:=⟨⟩
theorem tw306535358961565008:True:=⟨⟩
theorem tw3082626142003458053:True:=⟨⟩
theorem tw3105161912409373472:True:=⟨⟩
theorem tw3138800457800853586:True:=⟨⟩
theorem tw3140866203998610647:True:=⟨⟩
theorem tw3153289441736887298:True:=⟨⟩
theorem tw3165661143165402847:True:=⟨⟩
theorem tw3185962312253278316:True:=⟨⟩
theorem tw3204017013573700639:True:=⟨⟩
theorem tw3225869345168946285:True:=⟨⟩
theorem tw3239841934065285509:True:=⟨⟩
theorem tw3282140407130366615:True:=⟨⟩
theorem tw3298683737301795645:True:=⟨⟩
theorem tw3318330705443729038:True:=⟨⟩
theorem tw3347175955162335329:True:=⟨⟩
theorem tw335442867052375821:True:=⟨⟩
theorem tw3443626597506986169:True:=⟨⟩
theorem tw3448833343719912132:True:=⟨⟩
theorem tw3468823194966119755:True:=⟨⟩
theorem tw3482175957882590323:True:=⟨⟩
theorem tw3516009707026607567:True:=⟨⟩
theorem tw3519278865789112956:True:=⟨⟩
theorem tw3578222212851893600:True:=⟨⟩
theorem tw3586251380002802234:True:=⟨⟩
theorem tw3601427614577313751:True:=⟨⟩
theorem tw3616883902118795587:True:=⟨⟩
theorem tw3700716474693379825:True:=⟨⟩
theorem tw3702781205502781313:True:=⟨⟩
theorem tw3737605839529819480:True:=⟨⟩
theorem tw3766183049180112341:True:=⟨⟩
theorem tw3783704252341326843:True:=⟨⟩
theorem tw3788544764152331944:True:=⟨⟩
theorem tw3832104259330054055:True:=⟨⟩
theorem tw3835962111665225711:True:=⟨⟩
theorem tw3849640880644552707:True:=⟨⟩
theorem tw3898467250045930460:True:=⟨⟩
theorem tw3905375630023619888:True:=⟨⟩
theorem tw397829171339713761:True:=⟨⟩
theorem tw4005113011885737416:True:=⟨⟩
theorem tw4049413732980777947:True:=⟨⟩
theorem tw4068328023764021264:True:=⟨⟩
theorem tw407466490171300439:True:=⟨⟩
theorem tw4128963183011607505:True:=⟨⟩
theorem tw4156143147478942181:True:=⟨⟩
theorem tw4195489330254351329:True:=⟨⟩
theorem tw4198835854440487071:True:=⟨⟩
theorem tw4215066571649420964:True:=⟨⟩
theorem tw4240545211757986076:True:=⟨⟩
theorem tw4241227540667249002:True:=⟨⟩
theorem tw433751870149770472:True:=⟨⟩
theorem tw4338314545742005754:True:=⟨⟩
theorem tw4350801690150286559:True:=⟨⟩
theorem tw4382491568596388571:True:=⟨⟩
theorem tw4430775014708722610:True:=⟨⟩
theorem tw4438364104728389296:True:=⟨⟩
theorem tw4452577129215390026:True:=⟨⟩
theorem tw4498182102138418894:True:=⟨⟩
theorem tw4515135292898193881:True:=⟨⟩
theorem tw4544264296663088324:True:=⟨⟩
theorem tw4547723090059260100:True:=⟨⟩
theorem tw4561188658046838414:True:=⟨⟩
theorem tw4613487602407358717:True:=⟨⟩
theorem tw4613981591765525805:True:=⟨⟩
theorem tw4631590275013254457:True:=⟨⟩
theorem tw4634341240264483431:True:=⟨⟩
theorem tw4645612490112672357:True:=⟨⟩
theorem tw4716985721665009587:True:=⟨⟩
theorem tw4722931859811370693:True:=⟨⟩
theorem tw4726450323565452186:True:=⟨⟩
theorem tw476020514792540505:True:=⟨⟩
theorem tw4765306392115962693:True:=⟨⟩
theorem tw4786962568827011835:True:=⟨⟩
theorem tw4801688742562958406:True:=⟨⟩
theorem tw4814944892674192296:True:=⟨⟩
theorem tw4818641064637329869:True:=⟨⟩
theorem tw4831860214510110302:True:=⟨⟩
theorem tw4847766330237268548:True:=⟨⟩
theorem tw4874642235004048027:True:=⟨⟩
theorem tw4907521953547317329:True:=⟨⟩
theorem tw4927947371108770993:True:=⟨⟩
theorem tw4950485280699123642:True:=⟨⟩
theorem tw4965207536615798822:True:=⟨⟩
theorem tw497388943360791162:True:=⟨⟩
theorem tw4976203025697557035:True:=⟨⟩
theorem tw4983024317834737482:True:=⟨⟩
theorem tw4991672208087534244:True:=⟨⟩
theorem tw5002070824922625533:True:=⟨⟩
theorem tw5004987881651496831:True:=⟨⟩
theorem tw5008143988079351144:True:=⟨⟩
theorem tw5036882428077977431:True:=⟨⟩
theorem tw5044639097624668846:True:=⟨⟩
theorem tw5061037604254504937:True:=⟨⟩
theorem tw5103420120806187630:True:=⟨⟩
theorem tw5103548895888603802:True:=⟨⟩
theorem tw5113878289174177000:True:=⟨⟩
theorem tw5162543521180666497:True:=⟨⟩
theorem tw5187159431361770467:True:=⟨⟩
theorem tw5191467471856622273:True:=⟨⟩
theorem tw5213130599944360801:True:=⟨⟩
theorem tw5217560924200664910:True:=⟨⟩
theorem tw5221675337516389627:True:=⟨⟩
theorem tw5248012151768918434:True:=⟨⟩
theorem tw525001674005675781:True:=⟨⟩
theorem tw5260555542633645047:True:=⟨⟩
theorem tw5362506446432344171:True:=⟨⟩
theorem tw5377772837010204750:True:=⟨⟩
theorem tw5387236496596682077:True:=⟨⟩
theorem tw5439016543574858206:True:=⟨⟩
theorem tw5440085390276978291:True:=⟨⟩
theorem tw5463181917568680212:True:=⟨⟩
theorem tw5476340991381562312:True:=⟨⟩
theorem tw549974085012918235:True:=⟨⟩
theorem tw5543487718492105064:True:=⟨⟩
theorem tw5555718599999811639:True:=⟨⟩
theorem tw5601264028959731896:True:=⟨⟩
theorem tw5615151462926910227:True:=⟨⟩
theorem tw5615934883764171431:True:=⟨⟩
theorem tw561872325786274548:True:=⟨⟩
theorem tw5641124861440336686:True:=⟨⟩
theorem tw5646013916729498261:True:=⟨⟩
theorem tw5649657749835318636:True:=⟨⟩
theorem tw5657447785659697480:True:=⟨⟩
theorem tw5657931515703916248:True:=⟨⟩
theorem tw5675193095830314289:True:=⟨⟩
theorem tw5715779271170130959:True:=⟨⟩
theorem tw5718967094426423161:True:=⟨⟩
theorem tw5727973534668710794:True:=⟨⟩
theorem tw5747321363474778693:True:=⟨⟩
theorem tw5750698986362780913:True:=⟨⟩
theorem tw5761313309558253367:True:=⟨⟩
theorem tw5781126440621211168:True:=⟨⟩
theorem tw583233376362171505:True:=⟨⟩
theorem tw5854907428364158380:True:=⟨⟩
theorem tw5870148494974776200:True:=⟨⟩
theorem tw5884965284304258897:True:=⟨⟩
theorem tw5919330448614353153:True:=⟨⟩
theorem tw5927061715728957476:True:=⟨⟩
theorem tw5931688323066260514:True:=⟨⟩
theorem tw5936211784296988740:True:=⟨⟩
theorem tw5951016989528529443:True:=⟨⟩
theorem tw6055196601331254383:True:=⟨⟩
theorem tw6147308635103535561:True:=⟨⟩
theorem tw6169999212503205497:True:=⟨⟩
theorem tw6176105912117767087:True:=⟨⟩
theorem tw6189357195160471388:True:=⟨⟩
theorem tw6280451789465376435:True:=⟨⟩
theorem tw6323490242551619147:True:=⟨⟩
theorem tw636524550079685631:True:=⟨⟩
theorem tw6393532188824929214:True:=⟨⟩
theorem tw649721667195061312:True:=⟨⟩
theorem tw6516363680345034613:True:=⟨⟩
theorem tw6635096433462372448:True:=⟨⟩
theorem tw6635522753158126860:True:=⟨⟩
theorem tw6648324312943424196:True:=⟨⟩
theorem tw6651456455751515877:True:=⟨⟩
theorem tw6656463916972431421:True:=⟨⟩
theorem tw6674347012523051200:True:=⟨⟩
theorem tw6686757251022233349:True:=⟨⟩
theorem tw6719982252746284739:True:=⟨⟩
theorem tw6721464258858852875:True:=⟨⟩
theorem tw6742200501135914891:True:=⟨⟩
theorem tw6794366774042380578:True:=⟨⟩
theorem tw6836359950869179439:True:=⟨⟩
theorem tw6846761488900895589:True:=⟨⟩
theorem tw6849123771955923804:True:=⟨⟩
theorem tw6860577389561355601:True:=⟨⟩
theorem tw6873541528101158377:True:=⟨⟩
theorem tw68815829978753266:True:=⟨⟩
theorem tw6896591704953265671:True:=⟨⟩
theorem tw6900727353157573822:True:=⟨⟩
theorem tw6946980451890315270:True:=⟨⟩
theorem tw6950096446663180783:True:=⟨⟩
theorem tw7000523462626781010:True:=⟨⟩
theorem tw7062720368445256129:True:=⟨⟩
theorem tw7130465076275759521:True:=⟨⟩
theorem tw7159026401054745538:True:=⟨⟩
theorem tw7193976414177721783:True:=⟨⟩
theorem tw7205895575636617080:True:=⟨⟩
theorem tw7234240908195146063:True:=⟨⟩
theorem tw7255959162708018199:True:=⟨⟩
theorem tw7263415099574290149:True:=⟨⟩
theorem tw7272270352196073673:True:=⟨⟩
theorem tw7317653850160689691:True:=⟨⟩
theorem tw7347661181068853997:True:=⟨⟩
theorem tw7385006340035058783:True:=⟨⟩
theorem tw7400686549319467544:True:=⟨⟩
theorem tw741329169588805604:True:=⟨⟩
theorem tw7442053078452299063:True:=⟨⟩
theorem tw7458478332549306277:True:=⟨⟩
theorem tw7473514446972121862:True:=⟨⟩
theorem tw7477525919779312811:True:=⟨⟩
theorem tw7492772011675989385:True:=⟨⟩
theorem tw7525655301032184626:True:=⟨⟩
theorem tw755134328155928439:True:=⟨⟩
theorem tw760045182452098349:True:=⟨⟩
theorem tw7619113539625694710:True:=⟨⟩
theorem tw7654578318931278690:True:=⟨⟩
theorem tw7657994479303150727:True:=⟨⟩
theorem tw7660858615051961871:True:=⟨⟩
theorem tw766856551031688912:True:=⟨⟩
theorem tw76700771618905059:True:=⟨⟩
theorem tw7686242042924871683:True:=⟨⟩
theorem tw7755422918602135030:True:=⟨⟩
theorem tw7759561555803958460:True:=⟨⟩
theorem tw7778630667622746703:True:=⟨⟩
theorem tw7779009951696393383:True:=⟨⟩
theorem tw7779866328928976063:True:=⟨⟩
theorem tw7785168158365692624:True:=⟨⟩
theorem tw7824222052329908659:True:=⟨⟩
theorem tw7848317997028865603:True:=⟨⟩
theorem tw7852760074147458260:True:=⟨⟩
theorem tw785864177541677141:True:=⟨⟩
theorem tw7867681300357518899:True:=⟨⟩
theorem tw7916160540357663616:True:=⟨⟩
theorem tw7916663265354606609:True:=⟨⟩
theorem tw7918374967389245632:True:=⟨⟩
theorem tw7946034326556018432:True:=⟨⟩
theorem tw8007103614756019116:True:=⟨⟩
theorem tw8013882960148741844:True:=⟨⟩
theorem tw8026762929724893673:True:=⟨⟩
theorem tw803461357374685022:True:=⟨⟩
theorem tw8045866029985295436:True:=⟨⟩
theorem tw80721349811472939:True:=⟨⟩
theorem tw8076105961534405009:True:=⟨⟩
theorem tw8096221689764760052:True:=⟨⟩
theorem tw8108845850537571710:True:=⟨⟩
theorem tw8111057081096800836:True:=⟨⟩
theorem tw8121427672614705931:True:=⟨⟩
theorem tw8146785798897364014:True:=⟨⟩
theorem tw8166991320080258738:True:=⟨⟩
theorem tw8183209053709734173:True:=⟨⟩
theorem tw8203446524507428889:True:=⟨⟩
theorem tw8219367837509555709:True:=⟨⟩
theorem tw8223707996358447380:True:=⟨⟩
theorem tw8247663516303736865:True:=⟨⟩
theorem tw8312510263607220780:True:=⟨⟩
theorem tw8315046463243809389:True:=⟨⟩
theorem tw8373720323635723369:True:=⟨⟩
theorem tw8397605616207071183:True:=⟨⟩
theorem tw8398887430952950212:True:=⟨⟩
theorem tw8401958774316805891:True:=⟨⟩
theorem tw8474492796817999161:True:=⟨⟩
theorem tw8486076525276431931:True:=⟨⟩
theorem tw8486705261324164726:True:=⟨⟩
theorem tw8543756510809834644:True:=⟨⟩
theorem tw8603782821366484756:True:=⟨⟩
theorem tw8616835277999145119:True:=⟨⟩
theorem tw8621771247159374411:True:=⟨⟩
theorem tw8630030210275731936:True:=⟨⟩
theorem tw8661065196793792047:True:=⟨⟩
theorem tw8670540905479144303:True:=⟨⟩
theorem tw8678582069086723682:True:=⟨⟩
theorem tw8706731066875689191:True:=⟨⟩
theorem tw8711421783369662179:True:=⟨⟩
theorem tw8728704332973717658:True:=⟨⟩
theorem tw8734355875116408662:True:=⟨⟩
theorem tw8749193726656077916:True:=⟨⟩
theorem tw8820459466428253018:True:=⟨⟩
theorem tw8838840417862019655:True:=⟨⟩
theorem tw8845110488550816924:True:=⟨⟩
theorem tw884644925536651315:True:=⟨⟩
theorem tw8857914048673524507:True:=⟨⟩
theorem tw888978351763286717:True:=⟨⟩
theorem tw8901488873923373992:True:=⟨⟩
theorem tw8908958038130373740:True:=⟨⟩
theorem tw8948736912299370593:True:=⟨⟩
theorem tw8968355716326206664:True:=⟨⟩
theorem tw898707613593260451:True:=⟨⟩
theorem tw9022205114861038860:True:=⟨⟩
theorem tw9069304868558884969:True:=⟨⟩
theorem tw9090173269774583996:True:=⟨⟩
theorem tw9099960808112739735:True:=⟨⟩
theorem tw9107108562952019494:True:=⟨⟩
theorem tw9131408386013701786:True:=⟨⟩
theorem tw9133701021851612117:True:=⟨⟩
theorem tw9142619525353888168:True:=⟨⟩
theorem tw9163178095015654352:True:=⟨⟩
theorem tw9186790425516483314:True:=⟨⟩
theorem tw9196661522157602471:True:=⟨⟩
theorem tw927500100414286832:True:=⟨⟩
theorem tw9285670843845949155:True:=⟨⟩
theorem tw9301309066579124778:True:=⟨⟩
theorem tw9305783451064888827:True:=⟨⟩
theorem tw9385597778382524922:True:=⟨⟩
theorem tw9386671084012761886:True:=⟨⟩
theorem tw9397017562490477109:True:=⟨⟩
theorem tw9405301459192476718:True:=⟨⟩
theorem tw9455471141526271117:True:=⟨⟩
theorem tw9496632788025766839:True:=⟨⟩
theorem tw9514876090768664877:True:=⟨⟩
theorem tw9537782516805191874:True:=⟨⟩
theorem tw9543871751676338751:True:=⟨⟩
theorem tw9592678889267232940:True:=⟨⟩
theorem tw9600454056292803967:True:=⟨⟩
theorem tw9609096358927944886:True:=⟨⟩
theorem tw9700507354520375304:True:=⟨⟩
theorem tw9743695723290020096:True:=⟨⟩
theorem tw9796634230379533873:True:=⟨⟩
theorem tw9807931448117422837:True:=⟨⟩
theorem tw9824210758632946157:True:=⟨⟩
theorem tw9833964599435250050:True:=⟨⟩
theorem tw9837934778547622032:True:=⟨⟩
theorem tw9900696922168193843:True:=⟨⟩
theorem tw9952970006915852218:True:=⟨⟩
theorem tw9960083256741680508:True:=⟨⟩
theorem tw9976896545867408452:True:=⟨⟩
end Mine.all
namespace Mine
set_option Elab.async true in
theorem all:PySem.Challenge.rw_nz0200_01.Holds:=by
 w_on
 o_law
 k_head
 (case hw=>w_witness2)
 k_go0
 rename_i w _ s₁ _ _ _ _ _ _ _ _ _ _ hg KX _ _ _ T _ _ _ _ _ _ _ _ _ _ _ _ _ _ _ _ _ _ _ _ hL _ _ _ hI _ hlen _ _ _ h₁ F N0
 have e:=hI.length
 have KX':(tops.heap_1 w.params).In s₁.heap:=KX
 refine law_go KX' (topRead_of T) hL hI (by omega) (by k_is) rfl F ?_
 intro h' tk' hk
 refine ⟨.inl ⟨.bool true,.bool true,[],rfl,?_,.bool _,?_,fun _=>⟨List.nodup_nil,fun _ z=>(nomatch z)⟩⟩,hk,rfl,hg⟩
 ·exact raisesW_false (by wrow_none_raised)
 ·wrow_post
end Mine
theorem PySem.Challenge.cw_nz0200_01_holds : PySem.Challenge.rw_nz0200_01.Holds :=
 Mine.all
